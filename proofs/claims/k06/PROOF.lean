import PyProof.Rows.All
import HandS.TupAny
import HandS.TupMul
import HandS.CallSlots
import HandS.Style
import KE.KRevSl
import HandS.WordsExc
import HandS.EndBits
import Wide.All
import OpenK.AllK
import Wide.FinOn
import HandS.ForSpec
import HandS.ForMost
import HandS.Wide
import KE.KDictKeyed
import KE.KDictDisplayH
import KE.KeyNested
import HandS.Lambda
import KE.KNest
import HandS.Deep
import HandS.IsInst
import HandS.Iter
import HandS.Conv
import HandS.Text
import HandS.RaiseMore
import HandS.Sort
import HandS.Exc
import HandS.TryOnly
import PyProof.StrLawsChain
import HandS.Dict
import KE.KDictPairs
import HandS.SetFor
import HandS.Strs
import PyProof.Rows.SortStr
import HandS.TupLen
import HandS.WordsDict
import KE.GoesEnum
import PyProof.ReprRoads
import PyProof.CallFns
import PyProof.ReprLen
import HandS.ExcIs
import HandS.ExcValue
import PyProof.StrBlock2
import HandS.Zip
import HandS.More
import KE.GoesZip
import KE.GoesMore
import KE.KIntText
import PyProof.Rows.SetFrom
import HandS.TupSets
import KE.KDictZip
import HandS.SetKeys
import PySem.Challenge.RW_zipspring_k06_refusals_and_things
set_option Elab.async false
set_option linter.all false
set_option maxRecDepth 100000
set_option autoImplicit false
namespace L2
open PySem PySem.Spec PyProof.Rows
def NewT (H : Hp) (p : Addr) (xs : List V) (Q : VK) : Prop := Q (.ref p) (upd H p (.tup xs)) ∨ ∀ o : Obj, o.dict = none → Q (.ref p) (upd H p (.frz o (.tup xs)))
section
variable {X : Cx} {pins : List (Addr × Obj)} {σ : St} {H : Hp} {s : Shared}
theorem Inv.newT {xs : List V} {its : List Value} {Q : VK} {t' : Tok} (I : Inv X pins σ H s) (r : Vals xs its) (z : xs.length ≤ sizeLine) (q : NewT H s.heap.objs.size xs Q) :
    EP X pins σ Q (.ref s.heap.objs.size) { s with heap := s.heap.push { cls := .type "tuple", data := .seq its.toArray }, toks := t' } := by
  rcases q with q | q
  · exact ⟨.ref s.heap.objs.size, _, I.laid (t' := t') (o := .tup xs) (fun b ob q => Heap.get?_push_of_some _ q) (Nat.le_refl _) ⟨z, _, r, IsTup.new _ _⟩, rfl, q⟩
  · exact ⟨.ref s.heap.objs.size, _, I.laid (t' := t') (o := .frz { cls := .type "tuple", data := .seq its.toArray } (.tup xs)) (fun b ob q => Heap.get?_push_of_some _ q) (Nat.le_refl _) ⟨Heap.get?_push_size _ rfl, z, _, r, IsTup.new _ _⟩, rfl, q _ rfl⟩
end
section
variable {X : Cx} {es : List Expr} {t : TA} {pos : Pos}
def tTup2 (t : TA) : TE := fun σ H Q => t σ H fun xs H1 => xs.length ≤ sizeLine ∧ ∀ p, H1 p = none → NewT H1 p xs Q
theorem pe_tup2 {x1} (h : PA X es t) : PE X (.Tuple es x1 pos) (tTup2 t) := by
  refine ⟨fun pins s σ H Q I hq => ?_⟩
  refine wpAny_Tuple_spliced (thn (h.run pos pins s σ H _ I hq) fun us s1 ⟨xs, H1, I1, r, z, q⟩ => ⟨by rw [← r.length]; exact z, ?_⟩)
  exact I1.newT (t' := s1.toks) r z (q _ (I1.hok.fresh (Nat.le_refl _)))
/-- t + u -/
def rCat2 (K : PySem.W.Frag) : R2 := fun x y H Q => ∃ a b xs ys, x = .ref a ∧ y = .ref b ∧ SqT K H a xs ∧ SqT K H b ys ∧ xs.length + ys.length ≤ sizeLine ∧
  (xs = [] → Q (.ref b) H) ∧ (xs ≠ [] → ys = [] → Q (.ref a) H) ∧ (xs ≠ [] → ys ≠ [] → ∀ p, H p = none → NewT H p (xs ++ ys) Q)
theorem op_cat2 : OpR X (binaryOp .Add) (rCat2 X.K) := by
  intro pins s σ H x y v u Q I rx ry h
  obtain ⟨a, b, xs, ys, rfl, rfl, ha, hb, hz, q0, q1, q2⟩ := h
  cases rx
  cases ry
  obtain ⟨its, r1, p1, _⟩ := I.tuple ha
  obtain ⟨its2, r2, p2, _⟩ := I.tuple hb
  by_cases hx : xs = []
  · subst hx
    cases r1
    exact cat_tup0 p1 p2 ⟨.ref b, H, I, rfl, q0 rfl⟩
  · refine HT.cat_tup p1 p2 (fun z => hx (r1.nil_iff.mp z)) (fun z => ⟨.ref a, H, I, rfl, q1 hx (r2.nil_iff.mp z)⟩) (fun z => ?_) (by rw [← r1.length, ← r2.length]; exact hz)
    exact I.newT (t' := s.toks) (r1.append r2) (by rw [List.length_append]; exact hz) (q2 hx (fun w => z (r2.nil_iff.mpr w)) _ (I.hok.fresh (Nat.le_refl _)))
/-- t[lo:hi]: the whole of it is t itself -/
def rSl2 (K : PySem.W.Frag) : V → Option Int → Option Int → Hp → VK → Prop := fun x lo hi H Q => ∃ a xs, x = .ref a ∧ SqT K H a xs ∧
  (HT.sIx xs.length 0 lo = 0 ∧ HT.sIx xs.length xs.length hi = xs.length → Q (.ref a) H) ∧ (¬ (HT.sIx xs.length 0 lo = 0 ∧ HT.sIx xs.length xs.length hi = xs.length) → ∀ p, H p = none → NewT H p (cutV xs lo hi) Q)
theorem sl_tup2 : SlR X (rSl2 X.K) := by
  intro pins s σ H x v vl vu lo hi sl Q I rx hs pl pu h
  obtain ⟨a, xs, rfl, hx, q1, q2⟩ := h
  cases rx
  obtain ⟨its, r, ht, hz⟩ := I.tuple hx
  have hlen : its.toArray.size = xs.length := by rw [List.size_toArray]; exact r.length.symm
  refine ⟨"tuple", _, PyProof.Rows.slot_tuple_getitem.lookup, ht.typeIs, ?_⟩
  by_cases hw : HT.sIx xs.length 0 lo = 0 ∧ HT.sIx xs.length xs.length hi = xs.length
  · exact getItem_tuple_whole ht hs pl pu (by rw [hlen]; exact hw) ⟨.ref a, H, I, rfl, q1 hw⟩
  · refine HT.getItem_tuple_cut ht hs pl pu (by rw [hlen]; exact hw) ?_ (by rw [hlen]; exact hz)
    rw [hlen]
    exact I.newT (t' := s.toks) ((r.drop (HT.sIx xs.length 0 lo)).take (HT.sIx xs.length xs.length hi - HT.sIx xs.length 0 lo)) (Nat.le_trans (cutV_length xs lo hi) hz) (q2 hw _ (I.hok.fresh (Nat.le_refl _)))
/-- t * k -/
def rRep2 (K : PySem.W.Frag) : R2 := fun x y H Q => ∃ l k xs, x = .ref l ∧ y = .int k ∧ SqT K H l xs ∧ xs ≠ [] ∧ 2 ≤ k ∧ k ≤ 1000 ∧ xs.length ≤ 1000 ∧ ∀ p, H p = none → NewT H p (List.replicate k.toNat xs).flatten Q
theorem op_rep2 : OpR X (binaryOp .Mult) (rRep2 X.K) := by
  intro pins s σ H x y v u Q I rx ry h
  obtain ⟨l, k, xs, rfl, rfl, hT, hne, h1, h2, hz, q⟩ := h
  cases rx
  obtain ⟨t, rfl⟩ := ry
  obtain ⟨its, r, ⟨⟨cls, dd, data, sl⟩, ho, hc, n, hd⟩, hs⟩ := I.tuple hT
  simp only at hc hd
  subst hc hd
  have hle : its.length = xs.length := r.length.symm
  have hn : its ≠ [] := fun e => hne (by
    rw [e] at hle
    exact List.eq_nil_of_length_eq_zero hle.symm)
  have hi : its.toArray.isEmpty = false := by
    cases its with
    | nil => exact absurd rfl hn
    | cons a b => rfl
  have hsz0 : its.toArray.size = xs.length := by rw [List.size_toArray, hle]
  have hm : ((its.toArray.size : Nat) : Int) * k ≤ 1000000 := by
    rw [hsz0]
    have a1 : ((xs.length : Nat) : Int) * k ≤ 1000 * k := Int.mul_le_mul_of_nonneg_right (by omega) (by omega)
    omega
  have flen : (List.replicate k.toNat its).flatten.length ≤ sizeLine := by
    rw [PyProof.Rows.lm_len_rep_flat, hle, sizeLine_eq]
    have a1 : k.toNat * xs.length ≤ 1000 * 1000 := Nat.mul_le_mul (by omega) hz
    omega
  have c0 : (decide (k < -(2 ^ 63)) || decide (k ≥ 2 ^ 63)) = false := by
    rw [decide_eq_false (by omega), decide_eq_false (by omega)] <;> rfl
  have c1 : (its.toArray.isEmpty || k == 1) = false := by
    rw [hi, Bool.false_or]
    exact beq_eq_false_iff_ne.mpr (by omega)
  have c2 : (decide (k ≤ 0) || its.toArray.isEmpty) = false := by
    rw [hi, Bool.or_false]
    exact decide_eq_false (by omega)
  have c4 : Builtin.Tuple.tupleTooMany (((its.toArray.size : Nat) : Int) * k) = false := by
    unfold Builtin.Tuple.tupleTooMany
    rw [sizeLine_eq]
    exact decide_eq_false (by omega)
  refine wpAny_binaryOp_repeat_ref (T := "tuple") (U := "int") (by decide) ⟨_, ho, rfl⟩ (fun s' => typeIs_int s' k t) noFill_tuple_mul F.fills_int_mul F.slot_int_rmul repeat_tuple F.slot_int_index.lookup
    (call_meets F.slot_int_rmul (typeIs_int s k t) F.entry_int_rmul (F.args_int_rmul_2 _ _) (int_rmul_tuple k t l its.toArray n dd sl)
      ⟨ho, rfl, ⟨_, ho, rfl⟩, call_meets F.slot_tuple_mul ⟨_, ho, rfl⟩ F.entry_tuple_mul (F.args_tuple_mul_2 _ _) (tuple_mulW l its.toArray n dd sl k t c0 c1 c2 (by omega) c4 (by rw [size_rep, List.size_toArray]; exact flen)) ⟨ho, ?_⟩⟩)
  rw [size_rep]
  exact I.newT (t' := s.toks) (r.rep k.toNat) (by rw [PyProof.Rows.lm_len_rep_flat, sizeLine_eq]; have a1 : k.toNat * xs.length ≤ 1000 * 1000 := Nat.mul_le_mul (by omega) hz; omega) (q _ (I.hok.fresh (Nat.le_refl _)))
end
end L2
namespace L2
open PySem PySem.Spec PyProof.Rows
/-- room, and no guard around -/
structure RoomG (k : Nat) (A : Around) : Prop where
  r : Room k A
  g : A.guards = some []
theorem RoomG.mono {j k : Nat} {A : Around} (h : RoomG k A) (l : j ≤ k) : RoomG j A := ⟨h.r.mono l, h.g⟩
theorem RoomG.deeper {k : Nat} {A : Around} (h : RoomG (k + 1) A) (env : Env) : RoomG k (A.deeper env) := ⟨h.r.deeper env, h.g⟩
/-- as FnOk, asked only there -/
structure FnG (P : Program) (w : World) (K : PySem.W.Frag) (mg : Str → Option Value) (base : Heap) (CX : CXT) (k : Nat) (f : Addr) (fd : FuncData) (ps : List Str) (sp : Sp) : Prop where
  len : ∀ vs H Q E, sp vs H Q E → vs.length = ps.length
  run : ∀ (A : Around) (outer : List Env) (s : Shared) (H : Hp) (args : Args) (us : List Value) (vs : List V) (Q : VK) (E : XK), RoomG k A → Env0 P w K mg base A outer s H → BindsTo s fd args (ps.zip us) → Vals vs us → sp vs H Q E →
    codeAny (model P w) A (.call (.ref f) args) (CR CX outer P w H s Q E) s
theorem FnG.imp {P : Program} {w : World} {K : PySem.W.Frag} {mg : Str → Option Value} {base : Heap} {CX : CXT} {k : Nat} {f : Addr} {fd : FuncData} {ps : List Str} {sp sp' : Sp} (F : FnG P w K mg base CX k f fd ps sp)
    (h : ∀ vs H Q E, sp' vs H Q E → sp vs H Q E) : FnG P w K mg base CX k f fd ps sp' :=
  ⟨fun vs H Q E q => F.len vs H Q E (h _ _ _ _ q), fun A outer s H args us vs Q E hr he hb hv hs => F.run A outer s H args us vs Q E hr he hb hv (h _ _ _ _ hs)⟩
theorem fn_ofG {CX : CXT} {P : Program} {w : World} {K : PySem.W.Frag} {mg : Str → Option Value} {base : Heap} {k : Nat} {f : Addr} {name qual : Str} {params : Arguments} {body : List Stmt} {scope : Scope} {dV kV doc pm cdv ct oc : Value} {an od : Option Addr}
    {osl : Array (Option Value)} {N ps : List Str} {sp : Sp} (lk : K.lookup f = some ⟨oc, od, .func (PySem.W.fnOf name qual params body scope dV kV doc pm an cdv ct), osl⟩) (hcd : PySem.W.codeIn K cdv qual = true) (S : FnScope N ps scope)
    (len : ∀ vs H Q E, sp vs H Q E → vs.length = ps.length)
    (hbody : ∀ (A : Around) (outer : List Env) (s : Shared) (H : Hp) (vs : List V) (Q : VK) (E : XK), RoomG k (A.deeper (envOfC qual scope s.heap.objs.size f cdv)) → sp vs H Q E →
      ∃ t, PSs (cxOf CX P w K mg base N qual scope f cdv A outer s H E) body t ∧ t { nx := fun _ H' => Q .non H', rt := Q } (start N vs) H) :
    FnG P w K mg base CX (k + 1) f (PySem.W.fnOf name qual params body scope dV kV doc pm an cdv ct) ps sp := by
  refine ⟨len, fun A outer s H args us vs Q E hr e0 hb r hsp => ?_⟩
  have hl := len _ _ _ _ hsp
  have KX : K.In s.heap := e0.mod.kin.keeps fun b o e => (e0.bs b o e).1
  have lim : s.heap.NoLimit := e0.mod.nolimit.keeps fun b o e => (e0.bs b o e).1
  have hkind : ∀ y ∈ ps.zip us, scope.names.lookup y.1 = some .local ∨ (scope.names.lookup y.1 = some .cell ∧ ((cellsFrom (s.heap.objs.size + 1) scope.names []).lookup y.1).isSome = true) := fun ⟨n, v⟩ hy => by
    rcases S.par n (List.of_mem_zip hy).1 with q | q
    · exact .inl q
    · exact .inr ⟨q, PySem.W.cellsFrom_some _ _ _ (.inl q)⟩
  refine codeAny_call_function hr.r.depth (KX _ _ lk) rfl S.co S.gen rfl (PySem.W.codeRec_of KX hcd) (hb _ _ _ _ ?_)
  refine wpAny_newFunctionEnv_cells S.kind hkind fun env he s1 x => ?_
  subst he
  refine ⟨lim.keeps x.toInCall.keep, codeAny_func ?_⟩
  obtain ⟨t, ht, hq⟩ := hbody A outer s H vs Q E (hr.deeper _) hsp
  have I : Inv (cxOf CX P w K mg base N qual scope f cdv A outer s H E) [] (start N vs) H s1 := inv_start S hr.r.hd e0 hl r x
  refine wpAny_mono (ht.run [] s1 (start N vs) H _ I hq) (fun fl s' hs => ?_) fun e s' hs => hs
  have fin : ∀ {σ' : St} {H' : Hp} {v : V} {u : Value}, Inv (cxOf CX P w K mg base N qual scope f cdv A outer s H E) [] σ' H' s' → RelV v u → Q v H' → CE outer P w H s Q u s' :=
    fun {σ' H' v u} J rv q => ⟨v, H', J.os, J.bare, J.base, J.hok, rv, q⟩
  cases fl with
  | ret u =>
    obtain ⟨v, σ', H', J, rv, q⟩ := hs
    exact fin J rv q
  | next =>
    obtain ⟨σ', H', J, q⟩ := hs
    exact fin (v := V.non) (u := Value.none) J rfl q
  | brk =>
    obtain ⟨_, _, _, q⟩ := hs
    exact False.elim q
  | cont =>
    obtain ⟨_, _, _, q⟩ := hs
    exact False.elim q
section
variable {P : Program} {w : World} {K : PySem.W.Frag} {mg : Str → Option Value} {base : Heap}
theorem Fun.okG {x qual : Str} {st : Stmt} {f : Addr} {fd : FuncData} {N ps : List Str} {k : Nat} {sp : Sp} (F : Fun K x qual st f fd) (S : FnScope N ps (defScope st)) (len : ∀ vs H Q E, sp vs H Q E → vs.length = ps.length)
    (hbody : ∀ (cdv : Value) (A : Around) (outer : List Env) (s : Shared) (H : Hp) (vs : List V) (Q : VK) (E : XK), RoomG k (A.deeper (envOfC qual (defScope st) s.heap.objs.size f cdv)) → sp vs H Q E →
      ∃ t, PSs (cxOf (L2.CX P w) P w K mg base N qual (defScope st) f cdv A outer s H E) (defBody st) t ∧ t { nx := fun _ H' => Q .non H', rt := Q } (start N vs) H) : FnG P w K mg base (L2.CX P w) (k + 1) f fd ps sp := by
  obtain ⟨oc, od, kV, doc, pm, an, cdv, ct, osl, rfl, lk, hcd⟩ := F.ex
  exact fn_ofG lk hcd S len fun A outer s H vs Q E hr hsp => hbody cdv A outer s H vs Q E hr hsp
end
section
variable {X : Cx} {CX : CXT} {k : Nat} {f : Addr} {fd : FuncData} {ps : List Str} {sp : Sp} {dvs : List V} {ds : List Value} {E : St → XK} {x : Str} {p pos : Pos} {e : Expr} {es : List Expr} {t : TA}
theorem run_fnG {pins : List (Addr × Obj)} {σ : St} {H : Hp} {s : Shared} {Q : VK} {us : List Value} {vs : List V} (F : FnG X.prog X.w X.K X.mg X.base CX k f fd ps sp) (hr : RoomG k X.A) (hb : Binds X.K fd ps ds) (hd : Vals dvs ds) (hx : PassesAt CX X σ (E σ))
    (I : Inv X pins σ H s) (r : Vals vs us) (h : sp (vs ++ dvs) H Q (E σ)) : wpAny (model X.prog X.w) X.A (call (.ref f) us) (EP X pins σ Q) X.xe s := by
  have r2 : Vals (vs ++ dvs) (us ++ ds) := r.append hd
  have hl : (us ++ ds).length = ps.length := by rw [← r2.length]; exact F.len _ _ _ _ h
  refine wpAny_call (codeAny_mono (F.run X.A X.stack s H ⟨us, []⟩ (us ++ ds) (vs ++ dvs) Q (E σ) hr I.env0 (hb s us I.kIn hl) r2 h) fun r s' hq => ?_)
  cases r with
  | error e => exact hx pins H s e s' I hq
  | ok fl =>
    cases fl with
    | ret u => exact I.after hq
    | next => exact False.elim hq
    | brk => exact False.elim hq
    | cont => exact False.elim hq
theorem pe_callG (F : FnG X.prog X.w X.K X.mg X.base CX k f fd ps sp) (hr : RoomG k X.A) (hg : Gl X x) (hm : X.mg x = some (.ref f)) (hk : PySem.W.keepIn X.K (.ref f) = true) (hb : Binds X.K fd ps ds) (hd : Vals dvs ds) (hx : ∀ σ, PassesAt CX X σ (E σ))
    (ha : PA X (e :: es) t) (hdb : (x == ("__debug__" : Str)) = false := by decide) (he : starEach (e :: es) X.env = (false, eval e X.env) :: starEach es X.env := by rfl) (hpl : (backTo pos (starEach es X.env)).any (·.1) = false := by rfl) :
    PE X (.Call (.Name x p) (e :: es) [] pos) (tCallSD sp dvs E t) := by
  refine ⟨fun pins s σ H Q I h => ?_⟩
  refine wpAny_Call_Name_kw (ld_glob I hg hm ?_ hdb)
  refine PySem.W.callWith_K (h₀ := X.base) I.ok.mod.kin hk (thn (ha.run pos pins s σ H _ I h) fun us s1 ⟨vs, H1, I1, r, q⟩ => ⟨I1.kIn, ?_⟩) he hpl
  exact run_fnG F hr hb hd (hx σ) I1 r q
end
/-- the law's promise, at the heap behind the top -/
theorem law_callG {P : Program} {w : World} {K : PySem.W.Frag} {mg mb : Str → Option Value} {CX : CXT} {k : Nat} {fa a : Addr} {fd : FuncData} {x : Str} {sp : Sp} {s₁ : Shared} {vs : List Value} {ns : List Int}
    (KX : K.In s₁.heap) (hns : s₁.heap.Ns mainGlobals mg) (hb : s₁.heap.Ns builtinsNs mb) (hbb : ∀ x : Str, x ≠ "__name__" → mb x = bootBuiltins x) (hlim : s₁.heap.NoLimit) (hg : s₁.gens = #[])
    (ha : s₁.heap.get? a = some { cls := .type "list", data := .seq vs.toArray }) (hi : IntsAre vs ns) (hl : ns.length ≤ sizeLine) (hr : RoomG k callerA)
    (F : ∀ base : Heap, K.In base → base.Ns mainGlobals mg → FnG P w K mg base CX k fa fd [x] sp) (hbind : ∀ (s : Shared) (u : Value), BindsTo s fd ⟨[u], []⟩ [(x, u)])
    (hsp : ∀ H : Hp, Only H → SqL K H a (ns.map V.int) → sp [.ref a] H (fun v _ => v = .bl true) fun _ _ _ => False)
    (hCX : ∀ H e s', CX [] H s₁ (fun _ _ _ => False) e s' → False) :
    codeAny (model P w) callerA (.call (.ref fa) ⟨[.ref a], []⟩) (fun r s' => r = .ok (.ret (.bool true)) ∧ OldK s₁.heap s'.heap ∧ s'.os = s₁.os ∧ AllBare s'.gens) s₁ := by
  have rv := vals_ints hi
  have lenV := hi.length
  have core : ∀ H : Hp, Only H → SqL K H a (ns.map V.int) → HOk P w H s₁.heap → (∀ b, H b ≠ none → b = a) → (H a ≠ none → K.lookup a = none) →
      codeAny (model P w) callerA (.call (.ref fa) ⟨[.ref a], []⟩) (fun r s' => r = .ok (.ret (.bool true)) ∧ OldK s₁.heap s'.heap ∧ s'.os = s₁.os ∧ AllBare s'.gens) s₁ := by
    intro H hO hS hok hA hK
    have base_of : ∀ {b : Addr} {o : Obj}, s₁.heap.get? b = some o → H b = none → (hidT s₁.heap H).get? b = some o := fun e n => hidT_get e n
    have hisA : ∀ {b : Addr} {u : HO}, H b = some u → b = a := fun {b u} q => hA b (by rw [q]; simp)
    have noA : ∀ {b : Addr} {o : Obj} {es : Array DictEntry} {ep : Nat}, s₁.heap.get? b = some o → o.data = .dict es ep → H b = none := fun {b o es ep} e d => by
      cases q : H b with
      | none => rfl
      | some u =>
        obtain rfl := hisA q
        rw [ha] at e; cases e
        exact nomatch (show Data.seq vs.toArray _ = Data.dict es ep from d)
    have nsK : ∀ {b : Addr} {m : Str → Option Value}, s₁.heap.Ns b m → (hidT s₁.heap H).Ns b m := fun {b m} ⟨o, es, ep, e, d, r⟩ => ⟨o, es, ep, base_of e (noA e d), d, r⟩
    have hKb : K.In (hidT s₁.heap H) := fun b o e => base_of (KX b o e) (by
      cases q : H b with
      | none => rfl
      | some u =>
        obtain rfl := hisA q
        rw [hK (by rw [q]; simp)] at e; cases e)
    have hM : Mod K mg (hidT s₁.heap H) := ⟨hKb, nsK hns, ⟨mb, nsK hb, hbb⟩, let ⟨mc, h1, h2⟩ := hlim; ⟨mc, nsK h1, h2⟩⟩
    have e0 : Env0 P w K mg (hidT s₁.heap H) callerA [] s₁ H := ⟨rfl, hM, fun b o e => of_hidT e, Nat.le_of_eq (hidT_size _ _), trivial, fun b hb => absurd (show b ∈ ([] : List Addr) from hb) (by simp), hok, .of_eq hg⟩
    refine codeAny_mono ((F _ hKb (nsK hns)).run callerA [] s₁ H ⟨[.ref a], []⟩ [.ref a] [.ref a] _ _ hr e0 (hbind s₁ (.ref a)) (.cons rfl .nil) (hsp H hO hS)) fun r s' h => ?_
    match r, h with
    | .error e, h => exact (hCX H e s' h).elim
    | .ok .next, h => exact False.elim h
    | .ok .brk, h => exact False.elim h
    | .ok .cont, h => exact False.elim h
    | .ok (.ret u), h =>
      obtain ⟨v, H', os, bare, un, hok', r', q⟩ := h
      obtain rfl : v = .bl true := q
      obtain rfl : u = Value.bool true := r'
      refine ⟨rfl, OldK.of_keep fun b o e => ?_, os, bare⟩
      cases q : H b with
      | none => exact un.keep b o e q (by intro z; exact absurd (show b ∈ ([] : List Addr) from z) (by simp)) (by simp)
      | some u =>
        rcases hO b with z | ⟨ob, xs, z⟩
        · rw [q] at z; cases z
        · obtain ⟨e1, _⟩ := hok b _ z
          obtain ⟨e2, _⟩ := hok' b _ (un.frzs b ob _ z)
          rw [e] at e1; cases e1
          exact e2
  cases hk : K.lookup a with
  | some o =>
    have e := KX a o hk
    rw [ha] at e
    cases e
    exact core (fun _ => none) (fun _ => .inl rfl) (.inr ⟨_, vs.toArray, _, hk, rfl, rfl, rfl, by rw [List.size_toArray, lenV]; exact hl, by simpa using rv⟩) (fun b u z => by cases (show (none : Option HO) = some u from z)) (fun b z => absurd rfl z) fun z => absurd rfl z
  | none =>
    refine core (fun b => if b = a then some (.frz { cls := .type "list", data := .seq vs.toArray } (.lst (ns.map V.int))) else none) (fun b => ?_) (.inl (.inr ⟨{ cls := .type "list", data := .seq vs.toArray }, if_pos rfl⟩)) (fun b u z => ?_) (fun b z => ?_) fun _ => hk
    · by_cases hb : b = a
      · exact .inr ⟨_, _, if_pos hb⟩
      · exact .inl (if_neg hb)
    · by_cases hb : b = a
      · cases (if_pos hb).symm.trans z
        subst hb
        exact ⟨ha, by rw [List.length_map]; exact hl, vs, _, rv, ha⟩
      · cases (if_neg hb).symm.trans z
    · by_cases hb : b = a
      · exact hb
      · exact absurd (if_neg hb) z
theorem walk_ofG {l : PySem.W.OpenLaw} {n k : Nat} {q : Program} {loose : List Str} {XP : (Str → Option Value) → Heap → Prop} {YP : World → Heap → Prop} {d : DefRec} {K : Params → PySem.W.Frag} {CX : World → CXT} {sp : World → Sp} {x : Str}
    (hn : l.most = some n) (hn2 : n ≤ sizeLine) (hdf : d.params.defaults = []) (hr : RoomG k callerA)
    (hY : ∀ (w : World) (h : Heap), YP w h → (K w.params).In h)
    (F : ∀ (w : World) (mg : Str → Option Value) (fa : Addr) (h : Heap), (K w.params).In h → h.Ns mainGlobals mg → mg d.name = some (.ref fa) →
      ∃ fd : FuncData, (∀ (s : Shared) (u : Value), BindsTo s fd ⟨[u], []⟩ [(x, u)]) ∧
        ∀ base : Heap, (K w.params).In base → base.Ns mainGlobals mg → FnG l.prog w (K w.params) mg base (CX w) k fa fd [x] (sp w))
    (hsp : ∀ (w : World) (H : Hp) (a : Addr) (ns : List Int), ns.length ≤ n → (∀ z ∈ ns, Builtin.Int.intBits z ≤ 1048576) → Only H → SqL (K w.params) H a (ns.map V.int) → sp w [.ref a] H (fun v _ => v = .bl true) fun _ _ _ => False)
    (hCX : ∀ (w : World) (H : Hp) (s : Shared) (e : Value) (s' : Shared), CX w [] H s (fun _ _ _ => False) e s' → False) :
    PySem.W.WalkO q loose XP YP l.row.toRowW d [] (fun f vs => PySem.call f vs) := by
  refine Att.attach_callB hn hdf fun w s₀ s₁ mg mb fa o pm cd doc a vs ns G Y ho hd hcd hmg hobj hints hlen hbits hg => ?_
  have KX := hY w _ Y
  obtain ⟨fd, hb, hF⟩ := F w mg fa _ KX G.T.g hmg
  exact law_callG KX G.T.g G.T.b G.T.builtins G.T.nolimit hg hobj hints (Nat.le_trans hlen hn2) hr hF hb (fun H hO hS => hsp w H a ns hlen hbits hO hS) fun H e s' => hCX w H s₁ e s'
end L2
namespace Z
/-- a lambda handed in: its address, its code's, the objects at its making, its name -/
abbrev LamT := Nat × Nat × List Nat × String
inductive D where
  | non | bl (b : Bool) | int (i : Int) | str (s : List Nat) | tup (xs : List D) | ref (n : Nat) | fl (xs : List D) | raw (t : LamT)
inductive MO where
  | lst (xs : List D) | dct (kvs : List (List D × D)) | st (kvs : List (List D × D)) | ins (c : String) (fs : List (String × D)) | exn (c : String) | dk (kvs : List (D × D)) | dkl (kvs : List (D × D)) | nk (kvs : List (D × D)) | nkl (kvs : List (D × D)) | tab (nm : String)
abbrev Store := List MO
inductive Res (α : Type) where
  | ok (a : α) (S : Store) | ex (c : String) (S : Store)
abbrev M (α : Type) := Option (Res α)
abbrev Env := List (Option D)
inductive Out where
  | nx (ρ : Env) (S : Store) | rt (d : D) (S : Store) | bk (ρ : Env) (S : Store) | ct (ρ : Env) (S : Store) | ex (c : String) (ρ : Env) (S : Store)
def k0 : D → Bool
  | .int _ => true
  | .str _ => true
  | _ => false
/-- a tuple of flat items, of one at least: it is free -/
def fK : List D → Bool
  | [] => false
  | x :: r => (x :: r).all k0
@[simp] theorem fK_nil : fK [] = false := rfl
@[simp] theorem fK_cons (x : D) (r : List D) : fK (x :: r) = (x :: r).all k0 := rfl
/-- the most that a list or a text holds -/
@[irreducible] def LINE : Nat := 16777216
theorem LINE_eq : LINE = 16777216 := by unfold LINE; rfl
def bd {α β : Type} : M α → (α → Store → M β) → M β
  | none, _ => none
  | some (.ok a S), f => f a S
  | some (.ex c S), _ => some (.ex c S)
@[simp] theorem bd_ok {α β : Type} (a : α) (S : Store) (f : α → Store → M β) : bd (some (.ok a S)) f = f a S := rfl
@[simp] theorem bd_no {α β : Type} (f : α → Store → M β) : bd none f = none := rfl
@[simp] theorem bd_ex {α β : Type} (c : String) (S : Store) (f : α → Store → M β) : bd (some (.ex c S)) f = some (.ex c S) := rfl
/-- what raises is not told -/
def bq {α β : Type} : M α → (α → Store → M β) → M β
  | some (.ok a S), f => f a S
  | _, _ => none
@[simp] theorem bq_ok {α β : Type} (a : α) (S : Store) (f : α → Store → M β) : bq (some (.ok a S)) f = f a S := rfl
@[simp] theorem bq_no {α β : Type} (f : α → Store → M β) : bq none f = none := rfl
@[simp] theorem bq_ex {α β : Type} (c : String) (S : Store) (f : α → Store → M β) : bq (some (.ex c S)) f = none := rfl
def bo {α : Type} : M α → Env → (α → Store → Option Out) → Option Out
  | none, _, _ => none
  | some (.ok a S), _, f => f a S
  | some (.ex c S), ρ, _ => some (.ex c ρ S)
@[simp] theorem bo_ok {α : Type} (a : α) (S : Store) (ρ : Env) (f : α → Store → Option Out) : bo (some (.ok a S)) ρ f = f a S := rfl
@[simp] theorem bo_no {α : Type} (ρ : Env) (f : α → Store → Option Out) : bo none ρ f = none := rfl
@[simp] theorem bo_ex {α : Type} (c : String) (S : Store) (ρ : Env) (f : α → Store → Option Out) : bo (some (.ex c S)) ρ f = some (.ex c ρ S) := rfl
abbrev SE := Env → Store → M D
abbrev ST := Env → Store → M Bool
abbrev SS := Env → Store → Option Out
abbrev Fn := List D → Store → M D
def new1 (o : MO) (S : Store) : M D := some (.ok (.ref S.length) (S ++ [o]))
def eVar (i : Nat) : SE := fun ρ S => match ρ[i]? with | some (some d) => some (.ok d S) | _ => none
def eC (d : D) : SE := fun _ S => some (.ok d S)
def e1 (f : D → Store → M D) (a : SE) : SE := fun ρ S => bd (a ρ S) f
def e2 (f : D → D → Store → M D) (a b : SE) : SE := fun ρ S => bd (a ρ S) fun x S1 => bd (b ρ S1) fun y S2 => f x y S2
def evL : List SE → Env → Store → M (List D)
  | [], _, S => some (.ok [] S)
  | a :: r, ρ, S => bd (a ρ S) fun x S1 => bd (evL r ρ S1) fun xs S2 => some (.ok (x :: xs) S2)
def eTup (es : List SE) : SE := fun ρ S => bd (evL es ρ S) fun xs S1 => some (.ok (.tup xs) S1)
def eLst (es : List SE) : SE := fun ρ S => bd (evL es ρ S) fun xs S1 => new1 (.lst xs) S1
def eCall (F : Fn) (es : List SE) : SE := fun ρ S => bd (evL es ρ S) F
def eAnd (a b : SE) : SE := fun ρ S => bd (a ρ S) fun x S1 => match x with | .bl true => b ρ S1 | .bl false => some (.ok (.bl false) S1) | _ => none
def eOr (a b : SE) : SE := fun ρ S => bd (a ρ S) fun x S1 => match x with | .bl false => b ρ S1 | .bl true => some (.ok (.bl true) S1) | _ => none
def eNot (a : SE) : SE := fun ρ S => bd (a ρ S) fun x S1 => match x with | .bl b => some (.ok (.bl !b) S1) | _ => none
/-- a op b op' c -/
def eCh (f g : D → D → Store → M D) (a b c : SE) : SE := fun ρ S => bd (a ρ S) fun x S1 => bd (b ρ S1) fun y S2 => bd (f x y S2) fun z S3 =>
  match z with | .bl true => bd (c ρ S3) fun w S4 => g y w S4 | .bl false => some (.ok (.bl false) S3) | _ => none
def tVal (e : SE) : ST := fun ρ S => bd (e ρ S) fun x S1 => match x with | .bl b => some (.ok b S1) | _ => none
def tAnd (a b : ST) : ST := fun ρ S => bd (a ρ S) fun x S1 => if x = true then b ρ S1 else some (.ok false S1)
def tOr (a b : ST) : ST := fun ρ S => bd (a ρ S) fun x S1 => if x = true then some (.ok true S1) else b ρ S1
def tNot (a : ST) : ST := fun ρ S => bd (a ρ S) fun x S1 => some (.ok (!x) S1)
def eIf (t : ST) (a b : SE) : SE := fun ρ S => bd (t ρ S) fun x S1 => if x = true then a ρ S1 else b ρ S1
structure Itm where
  xs : List D
  chk : Store → Prop
abbrev SI := Env → Store → M Itm
abbrev SG := D → Env → Store → Option (Env × Store)
def gName (i : Nat) : SG := fun d ρ S => some (ρ.set i (some d), S)
def gAll : List SG → List D → Env → Store → Option (Env × Store)
  | [], [], ρ, S => some (ρ, S)
  | g :: gs, d :: ds, ρ, S => match g d ρ S with | some (ρ1, S1) => gAll gs ds ρ1 S1 | none => none
  | _, _, _, _ => none
def gTup (gs : List SG) : SG := fun d ρ S => match d with | .tup ds => gAll gs ds ρ S | _ => none
open Classical in
/-- a comprehension: the items made so far stand in the new list at l -/
noncomputable def lcL (chk : Store → Prop) (g : SG) (t : ST) (e : SE) (l : Nat) : List D → Env → Store → M D
  | [], _, S => if chk S then some (.ok (.ref l) S) else none
  | x :: r, ρ, S => if chk S then (match g x ρ S with
      | none => none
      | some (ρ1, S1) => bq (t ρ1 S1) fun b S2 => if b = true then bq (e ρ1 S2) fun y S3 => (match S3[l]? with
            | some (.lst acc) => if acc.length < LINE then lcL chk g t e l r ρ (S3.set l (.lst (acc ++ [y]))) else none
            | _ => none)
          else lcL chk g t e l r ρ S2)
    else none
def wipe (ρ : Env) : List Nat → Env
  | [] => ρ
  | v :: vs => (wipe ρ vs).set v none
noncomputable def eLc (it : SI) (g : SG) (t : ST) (e : SE) (own : List Nat) : SE := fun ρ S => bd (it ρ S) fun J S1 => lcL J.chk g t e S1.length J.xs (wipe ρ own) (S1 ++ [.lst []])
def tYes : ST := fun _ S => some (.ok true S)
def sq (a b : SS) : SS := fun ρ S => match a ρ S with | some (.nx ρ1 S1) => b ρ1 S1 | o => o
def sNx : SS := fun ρ S => some (.nx ρ S)
def sExp (e : SE) : SS := fun ρ S => bo (e ρ S) ρ fun _ S1 => some (.nx ρ S1)
def sRet (e : SE) : SS := fun ρ S => bo (e ρ S) ρ fun d S1 => some (.rt d S1)
def sIf (t : ST) (a b : SS) : SS := fun ρ S => bo (t ρ S) ρ fun x S1 => if x = true then a ρ S1 else b ρ S1
def sAsg (e : SE) (g : SG) : SS := fun ρ S => bo (e ρ S) ρ fun d S1 => match g d ρ S1 with | some (ρ2, S2) => some (.nx ρ2 S2) | none => none
def sAug (i : Nat) (f : D → D → Store → M D) (e : SE) : SS := fun ρ S => bo (e2 f (eVar i) e ρ S) ρ fun d S1 => some (.nx (ρ.set i (some d)) S1)
open Classical in
noncomputable def forL (chk : Store → Prop) (g : SG) (b : SS) : List D → SS
  | [], ρ, S => if chk S then some (.nx ρ S) else none
  | x :: r, ρ, S => if chk S then (match g x ρ S with
      | none => none
      | some (ρ1, S1) => match b ρ1 S1 with
        | some (.nx ρ2 S2) => forL chk g b r ρ2 S2
        | some (.ct ρ2 S2) => forL chk g b r ρ2 S2
        | some (.bk ρ2 S2) => some (.nx ρ2 S2)
        | o => o)
    else none
noncomputable def sFor (it : SI) (g : SG) (b : SS) : SS := fun ρ S => bo (it ρ S) ρ fun J S1 => forL J.chk g b J.xs ρ S1
def sWh (t : ST) (b : SS) (ρ : Env) (S : Store) : Option Out :=
  match t ρ S with
  | none => none
  | some (.ex c S1) => some (.ex c ρ S1)
  | some (.ok false S1) => some (.nx ρ S1)
  | some (.ok true S1) => match b ρ S1 with
    | some (.nx ρ2 S2) => sWh t b ρ2 S2
    | some (.ct ρ2 S2) => sWh t b ρ2 S2
    | some (.bk ρ2 S2) => some (.nx ρ2 S2)
    | some (.rt d S2) => some (.rt d S2)
    | some (.ex c ρ2 S2) => some (.ex c ρ2 S2)
    | none => none
partial_fixpoint
def sRaise (c : String) : SS := fun ρ S => some (.ex c ρ S)
/-- the parameters' values, then the other names -/
def env0 (n : Nat) (ds : List D) : Env := ds.map some ++ List.replicate (n - ds.length) none
end Z
namespace Z
inductive PD where
  | non | bl (b : Bool) | int (i : Int) | str (s : List Nat) | lst (xs : List PD) | tup (xs : List PD)
def b2i (b : Bool) : Int := if b then 1 else 0
mutual
def PD.eqv : PD → PD → Bool
  | .non, .non => true
  | .bl a, .bl b => a == b
  | .bl a, .int j => b2i a == j
  | .int i, .bl b => i == b2i b
  | .int i, .int j => i == j
  | .str x, .str y => x == y
  | .lst xs, .lst ys => eqvL xs ys
  | .tup xs, .tup ys => eqvL xs ys
  | .non, .bl _ | .non, .int _ | .non, .str _ | .non, .lst _ | .non, .tup _ => false
  | .bl _, .non | .bl _, .str _ | .bl _, .lst _ | .bl _, .tup _ => false
  | .int _, .non | .int _, .str _ | .int _, .lst _ | .int _, .tup _ => false
  | .str _, .non | .str _, .bl _ | .str _, .int _ | .str _, .lst _ | .str _, .tup _ => false
  | .lst _, .non | .lst _, .bl _ | .lst _, .int _ | .lst _, .str _ | .lst _, .tup _ => false
  | .tup _, .non | .tup _, .bl _ | .tup _, .int _ | .tup _, .str _ | .tup _, .lst _ => false
def eqvL : List PD → List PD → Bool
  | [], [] => true
  | x :: xs, y :: ys => PD.eqv x y && eqvL xs ys
  | [], _ :: _ => false
  | _ :: _, [] => false
end
mutual
def PD.dep : PD → Nat
  | .lst xs => depL xs + 1
  | .tup xs => depL xs + 1
  | _ => 0
def depL : List PD → Nat
  | [] => 0
  | x :: xs => max (PD.dep x) (depL xs)
end
mutual
/-- the data of a value; g: of what stands at a number -/
def D.pd (g : Nat → Option PD) : D → Option PD
  | .non => some .non
  | .bl b => some (.bl b)
  | .int i => some (.int i)
  | .str s => some (.str s)
  | .tup xs => (pdL g xs).map .tup
  | .fl xs => (pdL g xs).map .lst
  | .ref n => g n
  | .raw _ => none
def pdL (g : Nat → Option PD) : List D → Option (List PD)
  | [] => some []
  | x :: xs => match D.pd g x, pdL g xs with
    | some y, some ys => some (y :: ys)
    | _, _ => none
end
def rdR : Nat → Store → Nat → Option PD
  | 0, _, _ => none
  | n + 1, S, r => match S[r]? with
    | some (.lst xs) => (pdL (rdR n S) xs).map .lst
    | _ => none
def dat (S : Store) (d : D) : Option PD := d.pd (rdR 70 S)
def eqD (d e : D) (S : Store) : M D := match dat S d, dat S e with
  | some x, some y => if x.dep ≤ 64 ∧ y.dep ≤ 64 then some (.ok (.bl (x.eqv y)) S) else none
  | _, _ => none
/-- two lists of unlike lengths -/
def neL (d e : D) (S : Store) : M D := match d, e with
  | .ref n, .ref m => (match S[n]?, S[m]? with
    | some (.lst xs), some (.lst ys) => if xs.length = ys.length then none else some (.ok (.bl true) S)
    | _, _ => none)
  | _, _ => none
def neD (d e : D) (S : Store) : M D := match dat S d, dat S e with
  | some x, some y => if x.dep ≤ 64 ∧ y.dep ≤ 64 then some (.ok (.bl (!x.eqv y)) S) else neL d e S
  | _, _ => none
def addD : D → D → Store → M D
  | .int i, .int j, S => some (.ok (.int (i + j)) S)
  | .str a, .str b, S => if a.length + b.length ≤ LINE then some (.ok (.str (a ++ b)) S) else none
  | .tup a, .tup b, S => if a.length + b.length ≤ LINE then some (.ok (.tup (a ++ b)) S) else none
  | .ref m, .ref n, S => match S[m]?, S[n]? with
    | some (.lst a), some (.lst b) => if a.length + b.length ≤ LINE then new1 (.lst (a ++ b)) S else none
    | _, _ => none
  | _, _, _ => none
/-- += -/
def iaddD : D → D → Store → M D
  | .int i, .int j, S => some (.ok (.int (i + j)) S)
  | _, _, _ => none
def subD : D → D → Store → M D
  | .int i, .int j, S => some (.ok (.int (i - j)) S)
  | _, _, _ => none
@[irreducible] def small (i : Int) : Prop := -18446744073709551616 < i ∧ i < 18446744073709551616
theorem small_iff (i : Int) : small i ↔ -18446744073709551616 < i ∧ i < 18446744073709551616 := by unfold small; exact Iff.rfl
noncomputable instance (i : Int) : Decidable (small i) := Classical.propDecidable _
noncomputable def mulD : D → D → Store → M D
  | .int i, .int j, S => if (small i ∨ small j) ∨ i.natAbs.log2 + j.natAbs.log2 < 1000000 then some (.ok (.int (i * j)) S) else none
  | .ref m, .int k, S => match S[m]? with
    | some (.lst a) => if -9223372036854775808 ≤ k ∧ k < 9223372036854775808 ∧ a.length * k.toNat ≤ LINE then new1 (.lst (List.replicate k.toNat a).flatten) S else none
    | _ => none
  | .tup a, .int k, S => if 0 < a.length ∧ a.length ≤ 1000 ∧ 2 ≤ k ∧ k ≤ 1000 then some (.ok (.tup (List.replicate k.toNat a).flatten) S) else none
  | _, _, _ => none
def fdivD : D → D → Store → M D
  | .int i, .int j, S => if 0 < j ∧ j.natAbs.log2 < 9000 then some (.ok (.int (i / j)) S) else none
  | _, _, _ => none
def modD : D → D → Store → M D
  | .int i, .int j, S => if 0 < j then some (.ok (.int (i % j)) S) else none
  | _, _, _ => none
noncomputable def powD : D → D → Store → M D
  | .int i, .int j, S => if 0 ≤ j ∧ j ≤ 1000000 ∧ small i then some (.ok (.int (i ^ j.toNat)) S) else none
  | _, _, _ => none
def negD : D → Store → M D
  | .int i, S => some (.ok (.int (-i)) S)
  | _, _ => none
def ltD : D → D → Store → M D
  | .int i, .int j, S => some (.ok (.bl (decide (i < j))) S)
  | _, _, _ => none
def leD : D → D → Store → M D
  | .int i, .int j, S => some (.ok (.bl (decide (i ≤ j))) S)
  | _, _, _ => none
def gtD : D → D → Store → M D
  | .int i, .int j, S => some (.ok (.bl (decide (j < i))) S)
  | _, _, _ => none
def geD : D → D → Store → M D
  | .int i, .int j, S => some (.ok (.bl (decide (j ≤ i))) S)
  | _, _, _ => none
def isNonB : D → Bool
  | .non => true
  | _ => false
/-- is None, is True -/
def isD : D → D → Store → M D
  | x, .non, S => some (.ok (.bl (isNonB x)) S)
  | .bl a, .bl b, S => some (.ok (.bl (a == b)) S)
  | _, _, _ => none
def ixN (n : Nat) (i : Int) : Option Nat := if 0 ≤ i then (if i < n then some i.toNat else none) else if -(n : Int) ≤ i then some (i + n).toNat else none
def atI {α : Type} (xs : List α) (i : Int) : Option α := (ixN xs.length i).bind fun j => xs[j]?
/-- the items of a sequence -/
def seqOf (S : Store) : D → Option (List D)
  | .tup xs => some xs
  | .fl xs => some xs
  | .ref n => match S[n]? with
    | some (.lst xs) => some xs
    | _ => none
  | _ => none
def ixD (d e : D) (S : Store) : M D := match e with
  | .int i => (match d with
    | .str s => if s.length ≤ LINE then (match atI s i with | some c => some (.ok (.str [c]) S) | none => none) else none
    | d => match seqOf S d with
      | some xs => (match atI xs i with | some x => some (.ok x S) | none => none)
      | none => none)
  | _ => none
def sIx (n d : Nat) : Option Int → Nat
  | none => d
  | some v => if v < 0 then (v + (n : Int)).toNat else min v.toNat n
def cut {α : Type} (xs : List α) (lo hi : Option Int) : List α := (xs.drop (sIx xs.length 0 lo)).take (sIx xs.length xs.length hi - sIx xs.length 0 lo)
def slD (lo hi : Option Int) (d : D) (S : Store) : M D := match d with
  | .str s => if s.length ≤ LINE then some (.ok (.str (cut s lo hi)) S) else none
  | .tup xs => some (.ok (.tup (cut xs lo hi)) S)
  | .ref n => (match S[n]? with
    | some (.lst xs) => new1 (.lst (cut xs lo hi)) S
    | _ => none)
  | _ => none
/-- d[lo:hi] -/
def eSl (a : SE) (lo hi : Option SE) : SE := fun ρ S => bd (a ρ S) fun d S1 =>
  bd (match lo with | none => some (.ok none S1) | some m => bd (m ρ S1) fun x S2 => match x with | .int i => some (.ok (some i) S2) | _ => none) fun l S3 =>
  bd (match hi with | none => some (.ok none S3) | some m => bd (m ρ S3) fun x S4 => match x with | .int i => some (.ok (some i) S4) | _ => none) fun h S5 => slD l h d S5
/-- x in c -/
def inB (x c : D) (S : Store) : Option Bool := match c with
  | .str z => (match x with | .str [k] => some (decide (k ∈ z)) | _ => none)
  | .ref n => (match dat S x, dat S (.ref n) with
    | some y, some (.lst ys) => if y.dep ≤ 64 ∧ (PD.lst ys).dep ≤ 64 then some (ys.any fun z => z.eqv y) else none
    | _, _ => none)
  | _ => none
def inD (x c : D) (S : Store) : M D := match inB x c S with | some b => some (.ok (.bl b) S) | none => none
def ninD (x c : D) (S : Store) : M D := match inB x c S with | some b => some (.ok (.bl (!b)) S) | none => none
def lenF : Fn := fun ds S => match ds with
  | [.str s] => if s.length ≤ LINE then some (.ok (.int s.length) S) else none
  | [d] => (match seqOf S d with | some xs => some (.ok (.int xs.length) S) | none => none)
  | _ => none
def absF : Fn := fun ds S => match ds with
  | [.int i] => some (.ok (.int (if i < 0 then -i else i)) S)
  | _ => none
def maxF : Fn := fun ds S => match ds with
  | [.int i, .int j] => some (.ok (.int (if j > i then j else i)) S)
  | _ => none
def minF : Fn := fun ds S => match ds with
  | [.int i, .int j] => some (.ok (.int (if j < i then j else i)) S)
  | _ => none
/-- bools alone -/
def blsOf : List D → Option (List Bool)
  | [] => some []
  | .bl b :: r => (blsOf r).map (b :: ·)
  | _ :: _ => none
def allF : Fn := fun ds S => match ds with
  | [.ref n] => (match S[n]? with
    | some (.lst xs) => (match blsOf xs with | some bs => some (.ok (.bl (bs.all id)) S) | none => none)
    | _ => none)
  | _ => none
def listF : Fn := fun ds S => match ds with
  | [d] => (match seqOf S d with | some xs => new1 (.lst xs) S | none => none)
  | _ => none
def tupleF : Fn := fun ds S => match ds with
  | [d] => (match seqOf S d with | some xs => some (.ok (.tup xs) S) | none => none)
  | _ => none
inductive Ty where | str | int | bool | tuple | list
def isiB (S : Store) (t : Ty) : D → Option Bool
  | .non => some false
  | .bl _ => some (match t with | .int => true | .bool => true | _ => false)
  | .int _ => some (match t with | .int => true | _ => false)
  | .str _ => some (match t with | .str => true | _ => false)
  | .tup _ => some (match t with | .tuple => true | _ => false)
  | .fl _ => some (match t with | .list => true | _ => false)
  | .raw _ => none
  | .ref n => match S[n]? with
    | some (.lst _) => some (match t with | .list => true | _ => false)
    | _ => none
/-- isinstance(x, T) -/
def isiD (t : Ty) (d : D) (S : Store) : M D := match isiB S t d with | some b => some (.ok (.bl b) S) | none => none
def appendF : Fn := fun ds S => match ds with
  | [.ref n, x] => (match S[n]? with
    | some (.lst xs) => if xs.length < LINE then some (.ok .non (S.set n (.lst (xs ++ [x])))) else none
    | _ => none)
  | _ => none
def popF : Fn := fun ds S => match ds with
  | [.ref n] => (match S[n]? with
    | some (.lst xs) => (match xs[xs.length - 1]? with | some x => some (.ok x (S.set n (.lst xs.dropLast))) | none => none)
    | _ => none)
  | [.ref n, .int i] => (match S[n]? with
    | some (.lst xs) => (match ixN xs.length i with
      | some k => (match xs[k]? with | some x => some (.ok x (S.set n (.lst (xs.eraseIdx k)))) | none => none)
      | none => none)
    | _ => none)
  | _ => none
def extendF : Fn := fun ds S => match ds with
  | [.ref n, .ref m] => (match S[n]?, S[m]? with
    | some (.lst xs), some (.lst ys) => if xs.length + ys.length ≤ LINE then some (.ok .non (S.set n (.lst (xs ++ ys)))) else none
    | _, _ => none)
  | _ => none
/-- o[i] = v -/
def setF (o i : SE) : SG := fun d ρ S => match bq (o ρ S) fun x S1 => bq (i ρ S1) fun y S2 => (match x, y with
    | .ref n, .int k => (match S2[n]? with
      | some (.lst xs) => (match ixN xs.length k with
        | some j => some (.ok () (S2.set n (.lst (xs.set j d))))
        | none => none)
      | _ => none)
    | _, _ => none) with
  | some (.ok _ S3) => some (ρ, S3)
  | _ => none
/-- a list, a tuple, a text -/
def itmOf (d : D) (S : Store) : M Itm := match d with
  | .ref n => (match S[n]? with
    | some (.lst xs) => some (.ok ⟨xs, fun S => S[n]? = some (.lst xs)⟩ S)
    | _ => none)
  | .tup xs => some (.ok ⟨xs, fun _ => True⟩ S)
  | .fl xs => some (.ok ⟨xs, fun _ => True⟩ S)
  | .str s => some (.ok ⟨s.map fun c => .str [c], fun _ => True⟩ S)
  | _ => none
def iAny (a : SE) : SI := fun ρ S => bd (a ρ S) itmOf
@[irreducible] def r62 (i : Int) : Prop := -4611686018427387904 ≤ i ∧ i < 4611686018427387904
theorem r62_iff (i : Int) : r62 i ↔ -4611686018427387904 ≤ i ∧ i < 4611686018427387904 := by unfold r62; exact Iff.rfl
noncomputable instance (i : Int) : Decidable (r62 i) := Classical.propDecidable _
/-- range(n) -/
noncomputable def iR1 (a : SE) : SI := fun ρ S => bd (a ρ S) fun d S1 => match d with
  | .int n => if r62 n then some (.ok ⟨(List.range n.toNat).map fun (k : Nat) => .int k, fun _ => True⟩ S1) else none
  | _ => none
end Z
namespace Z
inductive Rc where | list | str | dict
/-- the receiver of a method -/
def rcB (S : Store) (t : Rc) : D → Bool
  | .str _ => (match t with | .str => true | _ => false)
  | .ref n => (match S[n]?, t with | some (.lst _), .list => true | some (.st _), .dict => true | _, _ => false)
  | _ => false
/-- o.m(..), m a built-in type's -/
def eMt (t : Rc) (F : Fn) (o : SE) (es : List SE) : SE := fun ρ S => bd (o ρ S) fun d S1 => if rcB S1 t d = true then bd (evL es ρ S1) fun ds S2 => F (d :: ds) S2 else none
end Z
namespace L2
open PySem PySem.Spec PyProof.Rows
abbrev NEnt := NestedKey × Addr × Value
def NkO (P : Program) (w : World) (a : Addr) (xs : List NEnt) : Heap → Prop := fun h => (xs.length ≤ sizeLine ∧ (a == sysModules) = false) ∧ ∃ o es ep, h.get? a = some o ∧ o.ExactDict ∧ o.data = .dict es ep ∧ es.toList = xs.map (entryOfKey (nestedKind P w)) ∧ (xs.map (·.1)).Nodup
mutual
/-- the value is this key, by what is known -/
def NK (H : Hp) : NestedKey → V → Prop
  | .none, v => v = .non
  | .num i, v => v = .int i
  | .text x, v => v = .str x
  | .tup ks, v => ∃ a vs, v = .ref a ∧ Rd H a (.tup vs) ∧ NKL H ks vs
def NKL (H : Hp) : List NestedKey → List V → Prop
  | [], vs => vs = []
  | k :: ks, vs => ∃ v r, vs = v :: r ∧ NK H k v ∧ NKL H ks r
end
mutual
theorem NK.is {P : Program} {w : World} {H : Hp} {h : Heap} (ok : HOk P w H h) : ∀ (k : NestedKey) (v : V) (u : Value), NK H k v → RelV v u → NestedIs h k u
  | .none, v, u, e, r => by
    rw [NK] at e
    subst e
    obtain rfl : u = Value.none := r
    exact .none
  | .num i, v, u, e, r => by
    rw [NK] at e
    subst e
    obtain ⟨t, rfl⟩ := r
    exact .int i t
  | .text x, v, u, e, r => by
    rw [NK] at e
    subst e
    obtain ⟨t, rfl⟩ := r
    exact .text x t
  | .tup ks, v, u, e, r => by
    rw [NK] at e
    obtain ⟨a, vs, rfl, hr, hk⟩ := e
    obtain rfl : u = Value.ref a := r
    obtain ⟨_, its, rv, o, e1, e2, n, e3⟩ := hr.ok ok
    exact .tup e1 e2 e3 (by simpa using NKL.is ok ks vs its hk rv)
theorem NKL.is {P : Program} {w : World} {H : Hp} {h : Heap} (ok : HOk P w H h) : ∀ (ks : List NestedKey) (vs : List V) (us : List Value), NKL H ks vs → Vals vs us → NestedAll h ks us
  | [], vs, us, e, r => by
    rw [NKL] at e
    subst e
    cases r
    exact .nil
  | k :: ks, vs, us, e, r => by
    rw [NKL] at e
    obtain ⟨v, t, rfl, h1, h2⟩ := e
    cases r with
    | cons r1 r2 => exact .cons (NK.is ok k v _ h1 r1) (NKL.is ok ks t _ h2 r2)
end
end L2
namespace Z
open PySem PySem.Spec PyProof.Rows L2
/-- the known part of the heap, and whose run it is -/
structure KW where
  K : PySem.W.Frag
  P : Program
  w : World
instance : CoeOut KW PySem.W.Frag := ⟨KW.K⟩
end Z
/-- a context's own -/
abbrev L2.Cx.KW (X : L2.Cx) : Z.KW := ⟨X.K, X.prog, X.w⟩
namespace Z
open PySem PySem.Spec PyProof.Rows L2
abbrev str (s : List Nat) : Str := ⟨s.toArray⟩
/-- a list that is never changed: the script -/
def FzL (K : PySem.W.Frag) (H : Hp) (a : Addr) (xs : List V) : Prop :=
  (∃ o, H a = some (.frz o (.lst xs))) ∨
    ∃ (o : Obj) (its : Array Value) (n : Nat), K.lookup a = some o ∧ o.cls = .type "list" ∧ o.dict = none ∧ o.data = .seq its n ∧ its.size ≤ sizeLine ∧ Vals xs its.toList
theorem FzL.seq {K : PySem.W.Frag} {H : Hp} {a : Addr} {xs : List V} (h : FzL K H a xs) : SqL K H a xs := by
  rcases h with h | h
  · exact .inl (.inr h)
  · exact .inr h
/-- a tuple: of flat items it is free (it may be a key), else it is held fast, and bears no dict -/
def TupAt (H : Hp) (a : Addr) (vs : List V) : Bool → Prop
  | true => H a = some (.tup vs)
  | false => ∃ o : Obj, o.dict = none ∧ H a = some (.frz o (.tup vs))
theorem TupAt.sq {K : PySem.W.Frag} {H : Hp} {a : Addr} {vs : List V} : ∀ {b : Bool}, TupAt H a vs b → SqT K H a vs
  | true, h => SqT.of h
  | false, ⟨o, _, h⟩ => .inl (.inr ⟨o, h⟩)
mutual
def Rep (K : KW) (ι : List Addr) (H : Hp) : D → V → Prop
  | .non, v => v = .non
  | .bl b, v => v = .bl b
  | .int i, v => v = .int i
  | .str s, v => v = .str (str s) ∧ ∀ c ∈ s, c < 128
  | .tup xs, v => ∃ a vs, v = .ref a ∧ TupAt H a vs (fK xs) ∧ RepL K ι H xs vs
  | .ref n, v => ∃ a, v = .ref a ∧ ι[n]? = some a
  | .fl xs, v => ∃ a vs, v = .ref a ∧ FzL K H a vs ∧ RepL K ι H xs vs
  | .raw t, v => v = .ref t.1 ∧ (∃ u, ι = t.2.2.1 ++ u) ∧ H t.2.1 = some (LamX.CodeO t.2.1 (Str.ofString t.2.2.2))
def RepL (K : KW) (ι : List Addr) (H : Hp) : List D → List V → Prop
  | [], vs => vs = []
  | x :: xs, vs => ∃ v r, vs = v :: r ∧ Rep K ι H x v ∧ RepL K ι H xs r
end
section
variable {K : KW} {ι ι' ι'' : List Addr} {H H' H'' : Hp}
/-- what stays: the numbers' addresses, the tuples, what is locked -/
structure Ext (ι : List Addr) (H : Hp) (ι' : List Addr) (H' : Hp) : Prop where
  pre : ∃ t, ι' = ι ++ t
  tup : ∀ a xs, H a = some (.tup xs) → H' a = some (.tup xs)
  frz : ∀ a o u, H a = some (.frz o u) → H' a = some (.frz o u)
  cod : ∀ a q, H a = some (LamX.CodeO a q) → H' a = some (LamX.CodeO a q)
theorem Ext.refl : Ext ι H ι H := ⟨⟨[], by simp⟩, fun _ _ h => h, fun _ _ _ h => h, fun _ _ h => h⟩
theorem Ext.trans (a : Ext ι H ι' H') (b : Ext ι' H' ι'' H'') : Ext ι H ι'' H'' :=
  ⟨by obtain ⟨t, rfl⟩ := a.pre; obtain ⟨u, rfl⟩ := b.pre; exact ⟨t ++ u, by simp⟩, fun _ _ h => b.tup _ _ (a.tup _ _ h), fun _ _ _ h => b.frz _ _ _ (a.frz _ _ _ h), fun _ _ h => b.cod _ _ (a.cod _ _ h)⟩
theorem Ext.at (e : Ext ι H ι' H') {n : Nat} {a : Addr} (h : ι[n]? = some a) : ι'[n]? = some a := by
  obtain ⟨t, rfl⟩ := e.pre
  rw [List.getElem?_append_left (List.getElem?_eq_some_iff.mp h).1]
  exact h
theorem Ext.tupAt (e : Ext ι H ι' H') {a : Addr} {xs : List V} : ∀ {b : Bool}, TupAt H a xs b → TupAt H' a xs b
  | true, h => e.tup _ _ h
  | false, ⟨o, h1, h2⟩ => ⟨o, h1, e.frz _ _ _ h2⟩
theorem Ext.sqT (e : Ext ι H ι' H') {a : Addr} {xs : List V} (h : SqT K H a xs) : SqT K H' a xs := by
  rcases h with (h | ⟨o, h⟩) | h
  · exact .inl (.inl (e.tup _ _ h))
  · exact .inl (.inr ⟨o, e.frz _ _ _ h⟩)
  · exact .inr h
theorem Ext.fzL (e : Ext ι H ι' H') {a : Addr} {xs : List V} (h : FzL K H a xs) : FzL K H' a xs := by
  rcases h with ⟨o, h⟩ | h
  · exact .inl ⟨o, e.frz _ _ _ h⟩
  · exact .inr h
mutual
theorem Rep.ext (e : Ext ι H ι' H') : ∀ (d : D) (v : V), Rep K ι H d v → Rep K ι' H' d v
  | .non, _, h => h
  | .bl _, _, h => h
  | .int _, _, h => h
  | .str _, _, h => h
  | .tup xs, _, h => by
    rw [Rep] at h ⊢
    obtain ⟨a, vs, e1, h1, h2⟩ := h
    exact ⟨a, vs, e1, e.tupAt h1, RepL.ext e xs vs h2⟩
  | .ref n, _, h => by
    rw [Rep] at h ⊢
    obtain ⟨a, e1, h1⟩ := h
    exact ⟨a, e1, e.at h1⟩
  | .fl xs, _, h => by
    rw [Rep] at h ⊢
    obtain ⟨a, vs, e1, h1, h2⟩ := h
    exact ⟨a, vs, e1, e.fzL h1, RepL.ext e xs vs h2⟩
  | .raw t, _, h => by
    rw [Rep] at h ⊢
    obtain ⟨e1, ⟨u, e2⟩, e3⟩ := h
    obtain ⟨u2, e4⟩ := e.pre
    exact ⟨e1, ⟨u ++ u2, by rw [e4, e2, List.append_assoc]⟩, e.cod _ _ e3⟩
theorem RepL.ext (e : Ext ι H ι' H') : ∀ (ds : List D) (vs : List V), RepL K ι H ds vs → RepL K ι' H' ds vs
  | [], _, h => h
  | x :: xs, _, h => by
    rw [RepL] at h ⊢
    obtain ⟨v, r, e1, h1, h2⟩ := h
    exact ⟨v, r, e1, Rep.ext e x v h1, RepL.ext e xs r h2⟩
end
theorem RepL.length : ∀ {ds : List D} {vs : List V}, RepL K ι H ds vs → vs.length = ds.length
  | [], _, h => by rw [RepL] at h; subst h; rfl
  | x :: xs, _, h => by
    rw [RepL] at h
    obtain ⟨v, r, rfl, _, h2⟩ := h
    simp [RepL.length h2]
theorem RepL.get : ∀ {ds : List D} {vs : List V} {i : Nat} {d : D}, RepL K ι H ds vs → ds[i]? = some d → ∃ v, vs[i]? = some v ∧ Rep K ι H d v
  | [], _, _, _, _, e => by simp at e
  | x :: xs, _, 0, d, h, e => by
    rw [RepL] at h
    obtain ⟨v, r, rfl, h1, _⟩ := h
    simp at e; subst e
    exact ⟨v, rfl, h1⟩
  | x :: xs, _, i + 1, d, h, e => by
    rw [RepL] at h
    obtain ⟨v, r, rfl, _, h2⟩ := h
    obtain ⟨u, a, b⟩ := RepL.get (i := i) h2 (by simpa using e)
    exact ⟨u, by simpa using a, b⟩
theorem RepL.append : ∀ {xs ys : List D} {vs ws : List V}, RepL K ι H xs vs → RepL K ι H ys ws → RepL K ι H (xs ++ ys) (vs ++ ws)
  | [], _, _, _, h, g => by rw [RepL] at h; subst h; simpa using g
  | x :: xs, _, _, _, h, g => by
    rw [RepL] at h
    obtain ⟨v, r, rfl, h1, h2⟩ := h
    rw [List.cons_append, RepL]
    exact ⟨v, _, rfl, h1, RepL.append h2 g⟩
theorem RepL.of_get : ∀ {ds : List D} {vs : List V}, vs.length = ds.length → (∀ (i : Nat) (d : D) (v : V), ds[i]? = some d → vs[i]? = some v → Rep K ι H d v) → RepL K ι H ds vs
  | [], vs, hl, _ => by rw [RepL]; exact List.eq_nil_of_length_eq_zero hl
  | x :: xs, [], hl, _ => by simp at hl
  | x :: xs, v :: r, hl, h => by
    rw [RepL]
    exact ⟨v, r, rfl, h 0 x v rfl rfl, RepL.of_get (by simpa using hl) fun i d u a b => h (i + 1) d u (by simpa using a) (by simpa using b)⟩
theorem RepL.one {d : D} {v : V} (h : Rep K ι H d v) : RepL K ι H [d] [v] := by rw [RepL]; exact ⟨v, [], rfl, h, by rw [RepL]⟩
/-- keys of dicts: ints and texts, tuples of them -/
def keyD : D → Option Key
  | .int i => some (.inl i)
  | .str s => some (.inr (str s))
  | _ => none
def keysD : List D → Option (List Key)
  | [] => some []
  | x :: r => match keyD x, keysD r with
    | some k, some ks => some (k :: ks)
    | _, _ => none
/-- a dict's entries -/
def KsR {α κ : Type} (key : α → Option κ) (K : KW) (ι : List Addr) (H : Hp) : List (α × D) → List (κ × V) → Prop
  | [], ks => ks = []
  | p :: r, ks => ∃ k v t, ks = (k, v) :: t ∧ key p.1 = some k ∧ Rep K ι H p.2 v ∧ KsR key K ι H r t
theorem KsR.ext {α κ : Type} {key : α → Option κ} (e : Ext ι H ι' H') : ∀ (kvs : List (α × D)) (ks : List (κ × V)), KsR key K ι H kvs ks → KsR key K ι' H' kvs ks
  | [], ks, h => h
  | p :: r, ks, h => by
    rw [KsR] at h ⊢
    obtain ⟨k, v, t, e1, e2, e3, e4⟩ := h
    exact ⟨k, v, t, e1, e2, Rep.ext e _ _ e3, KsR.ext e r t e4⟩
theorem KsR.length {α κ : Type} {key : α → Option κ} : ∀ {kvs : List (α × D)} {ks : List (κ × V)}, KsR key K ι H kvs ks → ks.length = kvs.length
  | [], ks, h => by rw [KsR] at h; rw [h]; rfl
  | p :: r, ks, h => by
    rw [KsR] at h
    obtain ⟨k, v, t, rfl, _, _, e4⟩ := h
    rw [List.length_cons, List.length_cons, KsR.length e4]
mutual
def nkD : D → Option NestedKey
  | .non => some .none
  | .int i => some (.num i)
  | .str s => some (.text (str s))
  | .tup xs => (nkL xs).map .tup
  | .bl _ => none
  | .ref _ => none
  | .fl _ => none
  | .raw _ => none
def nkL : List D → Option (List NestedKey)
  | [] => some []
  | x :: r => match nkD x, nkL r with
    | some k, some ks => some (k :: ks)
    | _, _ => none
end
/-- a dict's entries, the keys nested -/
def NkR (K : KW) (ι : List Addr) (H : Hp) : List (D × D) → List NEnt → Prop
  | [], xs => xs = []
  | p :: r, xs => ∃ k b u v t, xs = (k, b, u) :: t ∧ nkD p.1 = some k ∧ k.depth ≤ 8 ∧ Rep K ι H p.1 (.ref b) ∧ Rep K ι H p.2 v ∧ RelV v u ∧ NkR K ι H r t
theorem NkR.ext (e : Ext ι H ι' H') : ∀ (kvs : List (D × D)) (xs : List NEnt), NkR K ι H kvs xs → NkR K ι' H' kvs xs
  | [], xs, h => h
  | p :: r, xs, h => by
    rw [NkR] at h ⊢
    obtain ⟨k, b, u, v, t, e1, e2, e3, e4, e5, e6, e7⟩ := h
    exact ⟨k, b, u, v, t, e1, e2, e3, Rep.ext e _ _ e4, Rep.ext e _ _ e5, e6, NkR.ext e r t e7⟩
theorem NkR.length : ∀ {kvs : List (D × D)} {xs : List NEnt}, NkR K ι H kvs xs → xs.length = kvs.length
  | [], xs, h => by rw [NkR] at h; rw [h]; rfl
  | p :: r, xs, h => by
    rw [NkR] at h
    obtain ⟨k, b, u, v, t, rfl, _, _, _, _, _, e7⟩ := h
    rw [List.length_cons, List.length_cons, NkR.length e7]
/-- an exception of a class, no longer in the air -/
def ExK (cls : Value) (a : Addr) : HO := .ext fun h => ∃ oe : Obj, h.get? a = some oe ∧ oe.cls = cls ∧ oe.dict = none ∧ ∃ vs, oe.data = .fields vs
theorem exK_ok {P : Program} {w : World} {H : Hp} {h : Heap} {a : Addr} {cls : Value} {oe : Obj} (e : h.get? a = some oe) (z : oe.cls = cls) (d : oe.dict = none) (hv : ∃ vs, oe.data = .fields vs) : ObjOk P w H h a (ExK cls a) :=
  ⟨⟨oe, e, z, d, hv⟩, ⟨oe, e⟩, fun _ _ ⟨o, q, r⟩ k => ⟨o, k o q, r⟩⟩
/-- names of fields -/
def keyF (s : String) : Option Str := some (Str.ofString s)
def ObjR (K : KW) (ι : List Addr) (H : Hp) (a : Addr) : MO → Prop
  | .lst xs => ∃ vs, H a = some (.lst vs) ∧ RepL K ι H xs vs
  | .dct kvs => ∃ o ks, H a = some (.frz o (.dT ks)) ∧ KsR keysD K ι H kvs ks
  | .st kvs => ∃ ks, H a = some (.dT ks) ∧ KsR keysD K ι H kvs ks
  | .dk kvs => ∃ ks, H a = some (.dK ks) ∧ KsR keyD K ι H kvs ks
  | .dkl kvs => ∃ o ks, H a = some (.frz o (.dK ks)) ∧ KsR keyD K ι H kvs ks
  | .nk kvs => ∃ xs, H a = some (.ext (NkO K.P K.w a xs)) ∧ NkR K ι H kvs xs
  | .nkl kvs => ∃ o xs, H a = some (.frz o (.ext (NkO K.P K.w a xs))) ∧ NkR K ι H kvs xs
  | .ins c fs => ∃ C dx fvs, PySem.W.nsIn K mainGlobals (Str.ofString c) = some (some (.ref C)) ∧ H a = some (.ins C dx fvs) ∧ KsR keyF K ι H fs fvs
  | .exn c => ∃ C, PySem.W.nsIn K mainGlobals (Str.ofString c) = some (some (.ref C)) ∧ H a = some (ExK (.ref C) a)
  | .tab nm => ∃ c, PySem.W.tabIn K (Str.ofString nm) = some (c, a) ∧ LamX.TabS H a (Str.ofString (nm ++ ".<locals>.<lambda>"))
structure Sim (K : KW) (ι : List Addr) (S : Store) (H : Hp) : Prop where
  len : ι.length = S.length
  nd : ι.Nodup
  obj : ∀ (i : Nat) (o : MO) (a : Addr), S[i]? = some o → ι[i]? = some a → ObjR K ι H a o
theorem Sim.get {S : Store} (s : Sim K ι S H) {n : Nat} {o : MO} {a : Addr} (h : ι[n]? = some a) (g : S[n]? = some o) : ObjR K ι H a o := s.obj n o a g h
/-- an object of the store is there, and no tuple, and not locked -/
def Mob (o : HO) : Prop := match o with | .tup _ => False | .frz _ _ => False | .ext p => ∀ a q, HO.ext p ≠ LamX.CodeO a q | _ => True
theorem Mob.codN {o : HO} (h : Mob o) : ∀ a q, o ≠ LamX.CodeO a q := by
  intro a q e
  subst e
  exact h a q rfl
theorem ObjR.there {a : Addr} {o : MO} (h : ObjR K ι H a o) : ∃ u, H a = some u := by
  cases o with
  | lst xs => obtain ⟨vs, e, _⟩ := h; exact ⟨_, e⟩
  | dct _ => obtain ⟨_, ks, e, _⟩ := h; exact ⟨_, e⟩
  | st _ => obtain ⟨ks, e, _⟩ := h; exact ⟨_, e⟩
  | dk _ => obtain ⟨ks, e, _⟩ := h; exact ⟨_, e⟩
  | dkl _ => obtain ⟨_, ks, e, _⟩ := h; exact ⟨_, e⟩
  | nk _ => obtain ⟨ks, e, _⟩ := h; exact ⟨_, e⟩
  | nkl _ => obtain ⟨_, ks, e, _⟩ := h; exact ⟨_, e⟩
  | ins _ _ => obtain ⟨C, dx, fvs, _, e, _⟩ := h; exact ⟨_, e⟩
  | exn _ => obtain ⟨C, _, e⟩ := h; exact ⟨_, e⟩
  | tab _ => obtain ⟨c, _, ps, e, _⟩ := h; exact ⟨_, e⟩
theorem ext_new {p : Addr} {o : HO} {t : List Addr} (hp : H p = none) : Ext ι H (ι ++ t) (upd H p o) :=
  ⟨⟨t, rfl⟩, fun a xs h => by rw [upd_ne (ne_of_none h hp)]; exact h, fun a q u h => by rw [upd_ne (ne_of_none h hp)]; exact h, fun a q h => by rw [upd_ne (ne_of_none h hp)]; exact h⟩
theorem ext_tup {p : Addr} {o : HO} (hp : H p = none) : Ext ι H ι (upd H p o) := by simpa using ext_new (ι := ι) (t := []) (o := o) hp
theorem ext_mut {p : Addr} {o u : HO} (hp : H p = some u) (hm : Mob u) : Ext ι H ι (upd H p o) :=
  ⟨⟨[], by simp⟩, fun a xs h => by rw [upd_ne (ne_of h hp (by rintro rfl; exact hm))]; exact h, fun a q x h => by rw [upd_ne (ne_of h hp (by rintro rfl; exact hm))]; exact h, fun a q h => by rw [upd_ne (ne_of h hp (fun e => hm.codN a q e.symm))]; exact h⟩
theorem ObjR.move {a : Addr} {o : MO} (h : ObjR K ι H a o) (e : Ext ι H ι' H') (k : H' a = H a) : ObjR K ι' H' a o := by
  cases o with
  | lst xs => obtain ⟨vs, e1, h1⟩ := h; exact ⟨vs, k.trans e1, RepL.ext e _ _ h1⟩
  | dct _ => obtain ⟨q, ks, e1, h1⟩ := h; exact ⟨q, ks, k.trans e1, KsR.ext e _ _ h1⟩
  | st _ => obtain ⟨ks, e1, h1⟩ := h; exact ⟨ks, k.trans e1, KsR.ext e _ _ h1⟩
  | dk _ => obtain ⟨ks, e1, h1⟩ := h; exact ⟨ks, k.trans e1, KsR.ext e _ _ h1⟩
  | dkl _ => obtain ⟨q, ks, e1, h1⟩ := h; exact ⟨q, ks, k.trans e1, KsR.ext e _ _ h1⟩
  | nk _ => obtain ⟨ks, e1, h1⟩ := h; exact ⟨ks, k.trans e1, NkR.ext e _ _ h1⟩
  | nkl _ => obtain ⟨q, ks, e1, h1⟩ := h; exact ⟨q, ks, k.trans e1, NkR.ext e _ _ h1⟩
  | ins _ _ => obtain ⟨C, dx, fvs, n, e1, h1⟩ := h; exact ⟨C, dx, fvs, n, k.trans e1, KsR.ext e _ _ h1⟩
  | exn _ => obtain ⟨C, n, e1⟩ := h; exact ⟨C, n, k.trans e1⟩
  | tab _ => obtain ⟨c, n, ps, e1, h1, h2⟩ := h; exact ⟨c, n, ps, k.trans e1, h1, fun pos cv hc => by obtain ⟨c', e2, e3⟩ := h2 pos cv hc; exact ⟨c', e2, e.cod _ _ e3⟩⟩
theorem Sim.tup {S : Store} (s : Sim K ι S H) {p : Addr} {o : HO} (hp : H p = none) : Sim K ι S (upd H p o) :=
  ⟨s.len, s.nd, fun i o' a h1 h2 => by
    have q := s.obj i o' a h1 h2
    obtain ⟨u, hu⟩ := q.there
    exact q.move (ext_tup hp) (by rw [upd_ne (ne_of_none hu hp)])⟩
/-- a new object -/
theorem Sim.new {S : Store} (s : Sim K ι S H) {p : Addr} {o : HO} {m : MO} (hp : H p = none) (h : ObjR K (ι ++ [p]) (upd H p o) p m) : Sim K (ι ++ [p]) (S ++ [m]) (upd H p o) := by
  refine ⟨by simp [s.len], ?_, fun i o' a h1 h2 => ?_⟩
  · refine List.nodup_append.mpr ⟨s.nd, by simp, fun a ha b hb => ?_⟩
    obtain rfl : b = p := by simpa using hb
    obtain ⟨i, hi⟩ := List.getElem?_of_mem ha
    have hl : i < S.length := by rw [← s.len]; exact (List.getElem?_eq_some_iff.mp hi).1
    obtain ⟨u, hu⟩ := (s.obj i _ a (List.getElem?_eq_getElem hl) hi).there
    exact ne_of_none hu hp
  · by_cases hi : i < S.length
    · rw [List.getElem?_append_left hi] at h1
      rw [List.getElem?_append_left (by rw [s.len]; exact hi)] at h2
      have q := s.obj i o' a h1 h2
      obtain ⟨u, hu⟩ := q.there
      exact q.move (ext_new hp) (by rw [upd_ne (ne_of_none hu hp)])
    · have e : i = S.length := by
        have := (List.getElem?_eq_some_iff.mp h1).1
        simp at this; omega
      subst e
      rw [List.getElem?_append_right (Nat.le_refl _)] at h1
      rw [← s.len, List.getElem?_append_right (Nat.le_refl _)] at h2
      simp at h1 h2
      subst h1 h2
      exact h
/-- an object written -/
theorem Sim.put {S : Store} (s : Sim K ι S H) {n : Nat} {p : Addr} {o : HO} {m : MO} (hp : ι[n]? = some p) (h : ObjR K ι (upd H p o) p m) (hx : ∃ u, H p = some u ∧ Mob u) : Sim K ι (S.set n m) (upd H p o) := by
  have hl : n < S.length := by rw [← s.len]; exact (List.getElem?_eq_some_iff.mp hp).1
  obtain ⟨u, hu, hm⟩ := hx
  refine ⟨by simp [s.len], s.nd, fun i o' a h1 h2 => ?_⟩
  by_cases hi : n = i
  · subst hi
    rw [List.getElem?_set_self hl] at h1
    cases h1
    rw [hp] at h2; cases h2
    exact h
  · rw [List.getElem?_set_ne hi] at h1
    have q := s.obj i o' a h1 h2
    refine q.move (ext_mut hu hm) ?_
    rw [upd_ne]
    rintro rfl
    obtain ⟨l1, e1⟩ := List.getElem?_eq_some_iff.mp hp
    obtain ⟨l2, e2⟩ := List.getElem?_eq_some_iff.mp h2
    exact hi ((List.getElem_inj s.nd).mp (e1.trans e2.symm))
end
end Z
namespace Z
open PySem PySem.Spec PyProof.Rows L2
abbrev Mg := Str → Option Value
section
variable {K : KW} {mg : Mg} {ι ι' ι1 ι2 : List Addr} {H H' H1 H2 : Hp}
def EnvR (K : KW) (ι : List Addr) (H : Hp) (ρ : Env) (σ : L2.St) : Prop := ρ.length = σ.length ∧ ∀ (i : Nat) (d : D), ρ[i]? = some (some d) → ∃ v, σ[i]? = some (some v) ∧ Rep K ι H d v
theorem EnvR.ext {ρ : Env} {σ : L2.St} (e : Ext ι H ι' H') (h : EnvR K ι H ρ σ) : EnvR K ι' H' ρ σ := ⟨h.1, fun i d g => let ⟨v, a, b⟩ := h.2 i d g; ⟨v, a, Rep.ext e _ _ b⟩⟩
theorem EnvR.set {ρ : Env} {σ : L2.St} (h : EnvR K ι H ρ σ) {i : Nat} {d : D} {v : V} (r : Rep K ι H d v) : EnvR K ι H (ρ.set i (some d)) (σ.set i (some v)) := by
  refine ⟨by simp [h.1], fun j e g => ?_⟩
  by_cases hj : i = j
  · subst hj
    by_cases hl : i < ρ.length
    · rw [List.getElem?_set_self hl] at g
      cases g
      exact ⟨v, by rw [List.getElem?_set_self (by rw [← h.1]; exact hl)], r⟩
    · rw [List.getElem?_eq_none (by simpa using hl)] at g; cases g
  · rw [List.getElem?_set_ne hj] at g ⊢
    exact h.2 j e g
theorem EnvR.wipe {ρ : Env} {σ : L2.St} (h : EnvR K ι H ρ σ) : ∀ own : List Nat, EnvR K ι H (Z.wipe ρ own) (L2.wipe σ own)
  | [] => h
  | v :: vs => by
    have q := EnvR.wipe h vs
    refine ⟨by unfold Z.wipe L2.wipe; simp [q.1], fun j e g => ?_⟩
    unfold Z.wipe at g
    unfold L2.wipe
    by_cases hj : v = j
    · subst hj
      by_cases hl : v < (Z.wipe ρ vs).length
      · rw [List.getElem?_set_self hl] at g; cases g
      · rw [List.getElem?_eq_none (by simpa using hl)] at g; cases g
    · rw [List.getElem?_set_ne hj] at g ⊢
      exact q.2 j e g
/-- what is wanted of an outcome -/
def Po {α β : Type} (R : List Addr → Hp → α → β → Prop) (K : KW) (mg : Mg) (ι : List Addr) (H : Hp) (Q : β → Hp → Prop) (E : XK) : M α → Prop
  | none => False
  | some (.ok a S) => ∀ ι' H' x, Ext ι H ι' H' → Sim K ι' S H' → R ι' H' a x → Q x H'
  | some (.ex c S) => ∀ ι' H' cls, Ext ι H ι' H' → Sim K ι' S H' → mg (Str.ofString c) = some cls → E cls none H'
theorem Po.mono {α β : Type} {R : List Addr → Hp → α → β → Prop} {Q : β → Hp → Prop} {E : XK} (e : Ext ι H ι' H') : ∀ {m : M α}, Po R K mg ι H Q E m → Po R K mg ι' H' Q E m
  | none, h => h
  | some (.ok _ _), h => fun ι2 H2 x e2 s r => h ι2 H2 x (e.trans e2) s r
  | some (.ex _ _), h => fun ι2 H2 x e2 s r => h ι2 H2 x (e.trans e2) s r
theorem Po.imp {α β : Type} {R : List Addr → Hp → α → β → Prop} {Q Q' : β → Hp → Prop} {E : XK} (k : ∀ x H', Q x H' → Q' x H') : ∀ {m : M α}, Po R K mg ι H Q E m → Po R K mg ι H Q' E m
  | none, h => h
  | some (.ok _ _), h => fun ι2 H2 x e2 s r => k _ _ (h ι2 H2 x e2 s r)
  | some (.ex _ _), h => h
/-- the first step of a sequence -/
theorem Po.bd {α β α' β' : Type} {R : List Addr → Hp → α → β → Prop} {R' : List Addr → Hp → α' → β' → Prop} {Q : β → Hp → Prop} {Q' : β' → Hp → Prop} {E : XK} {m : M α} {f : α → Store → M α'}
    (h : Po R' K mg ι H Q' E (Z.bd m f)) (k : ∀ a S ι1 H1 x, Ext ι H ι1 H1 → Sim K ι1 S H1 → R ι1 H1 a x → Po R' K mg ι1 H1 Q' E (f a S) → Q x H1) : Po R K mg ι H Q E m := by
  match m, h with
  | some (.ok a S), h => exact fun ι1 H1 x e s r => k a S ι1 H1 x e s r (Po.mono e h)
  | some (.ex c S), h => exact h
theorem Po.ret {α β : Type} {R : List Addr → Hp → α → β → Prop} {Q : β → Hp → Prop} {E : XK} {a : α} {S : Store} {x : β} (h : Po R K mg ι H Q E (some (.ok a S))) (s : Sim K ι S H) (r : R ι H a x) : Q x H := h ι H x .refl s r
abbrev RB : List Addr → Hp → Bool → Bool → Prop := fun _ _ a b => b = a
/-- outcomes of statements -/
def PoS (K : KW) (mg : Mg) (W : WX) (ι : List Addr) (H : Hp) (En : Ends) : Option Out → Prop
  | none => False
  | some (.nx ρ S) => ∀ ι' H' σ, Ext ι H ι' H' → Sim K ι' S H' → EnvR K ι' H' ρ σ → En.nx σ H'
  | some (.bk ρ S) => ∀ ι' H' σ, Ext ι H ι' H' → Sim K ι' S H' → EnvR K ι' H' ρ σ → En.bk σ H'
  | some (.ct ρ S) => ∀ ι' H' σ, Ext ι H ι' H' → Sim K ι' S H' → EnvR K ι' H' ρ σ → En.ct σ H'
  | some (.rt d S) => ∀ ι' H' v, Ext ι H ι' H' → Sim K ι' S H' → Rep K ι' H' d v → En.rt v H'
  | some (.ex c ρ S) => ∀ ι' H' σ cls, Ext ι H ι' H' → Sim K ι' S H' → EnvR K ι' H' ρ σ → mg (Str.ofString c) = some cls → W cls none σ H'
theorem PoS.mono {W : WX} {En : Ends} (e : Ext ι H ι' H') : ∀ {o : Option Out}, PoS K mg W ι H En o → PoS K mg W ι' H' En o
  | none, h => h
  | some (.nx _ _), h => fun ι2 H2 σ e2 s r => h ι2 H2 σ (e.trans e2) s r
  | some (.bk _ _), h => fun ι2 H2 σ e2 s r => h ι2 H2 σ (e.trans e2) s r
  | some (.ct _ _), h => fun ι2 H2 σ e2 s r => h ι2 H2 σ (e.trans e2) s r
  | some (.rt _ _), h => fun ι2 H2 v e2 s r => h ι2 H2 v (e.trans e2) s r
  | some (.ex _ _ _), h => fun ι2 H2 σ c e2 s r => h ι2 H2 σ c (e.trans e2) s r
theorem PoS.bo {α β : Type} {R : List Addr → Hp → α → β → Prop} {Q : β → Hp → Prop} {W : WX} {En : Ends} {m : M α} {ρ : Env} {σ : L2.St} {f : α → Store → Option Out} (hρ : EnvR K ι H ρ σ)
    (h : PoS K mg W ι H En (Z.bo m ρ f)) (k : ∀ a S ι1 H1 x, Ext ι H ι1 H1 → Sim K ι1 S H1 → R ι1 H1 a x → EnvR K ι1 H1 ρ σ → PoS K mg W ι1 H1 En (f a S) → Q x H1) : Po R K mg ι H Q (fun cls d H' => W cls d σ H') m := by
  match m, h with
  | some (.ok a S), h => exact fun ι1 H1 x e s r => k a S ι1 H1 x e s r (hρ.ext e) (PoS.mono e h)
  | some (.ex c S), h => exact fun ι1 H1 cls e s g => h ι1 H1 σ cls e s (hρ.ext e) g
end
/-- an expression's, a test's, an argument list's, a statement's reading -/
def tE (K : KW) (mg : Mg) (W : WX) (m : SE) : TE := fun σ H Q => ∃ ι ρ S, Sim K ι S H ∧ EnvR K ι H ρ σ ∧ Po (Rep K) K mg ι H Q (fun cls d H' => W cls d σ H') (m ρ S)
def tT (K : KW) (mg : Mg) (W : WX) (m : ST) : TT := fun σ H Q => ∃ ι ρ S, Sim K ι S H ∧ EnvR K ι H ρ σ ∧ Po RB K mg ι H Q (fun cls d H' => W cls d σ H') (m ρ S)
def tA (K : KW) (mg : Mg) (W : WX) (ms : List SE) : TA := fun σ H Q => ∃ ι ρ S, Sim K ι S H ∧ EnvR K ι H ρ σ ∧ Po (RepL K) K mg ι H Q (fun cls d H' => W cls d σ H') (evL ms ρ S)
def tS (K : KW) (mg : Mg) (W : WX) (m : SS) : TS := fun En σ H => ∃ ι ρ S, Sim K ι S H ∧ EnvR K ι H ρ σ ∧ PoS K mg W ι H En (m ρ S)
def GE (X : Cx) (W : WX) (e : Expr) (m : SE) : Prop := PE X e (tE X.KW X.mg W m)
def GT (X : Cx) (W : WX) (e : Expr) (m : ST) : Prop := PT X e (tT X.KW X.mg W m)
def GW (X : Cx) (W : WX) (e : Expr) (m : ST) : Prop := PW X e (tT X.KW X.mg W m)
def GA (X : Cx) (W : WX) (es : List Expr) (ms : List SE) : Prop := PA X es (tA X.KW X.mg W ms)
def GS (X : Cx) (W : WX) (st : Stmt) (m : SS) : Prop := PS X st (tS X.KW X.mg W m)
def GSs (X : Cx) (W : WX) (st : List Stmt) (m : SS) : Prop := PSs X st (tS X.KW X.mg W m)
section
variable {X : Cx}
theorem _root_.L2.PE.imp {e : Expr} {t t' : TE} (h : PE X e t) (k : ∀ σ H Q, t' σ H Q → t σ H Q) : PE X e t' := ⟨fun pins s σ H Q I q => h.run pins s σ H Q I (k _ _ _ q)⟩
theorem _root_.L2.PT.imp {e : Expr} {t t' : TT} (h : PT X e t) (k : ∀ σ H Q, t' σ H Q → t σ H Q) : PT X e t' := ⟨fun pins s σ H Q I q => h.run pins s σ H Q I (k _ _ _ q)⟩
theorem _root_.L2.PW.imp {e : Expr} {t t' : TT} (h : PW X e t) (k : ∀ σ H Q, t' σ H Q → t σ H Q) : PW X e t' := ⟨fun wh pins s σ H Q I q => h.run wh pins s σ H Q I (k _ _ _ q)⟩
theorem _root_.L2.PA.imp {es : List Expr} {t t' : TA} (h : PA X es t) (k : ∀ σ H Q, t' σ H Q → t σ H Q) : PA X es t' := ⟨fun pos pins s σ H Q I q => h.run pos pins s σ H Q I (k _ _ _ q)⟩
theorem _root_.L2.PS.imp {st : Stmt} {t t' : TS} (h : PS X st t) (k : ∀ D σ H, t' D σ H → t D σ H) : PS X st t' := ⟨fun pins s σ H D I q => h.run pins s σ H D I (k _ _ _ q)⟩
theorem _root_.L2.PSs.imp {st : List Stmt} {t t' : TS} (h : PSs X st t) (k : ∀ D σ H, t' D σ H → t D σ H) : PSs X st t' := ⟨fun pins s σ H D I q => h.run pins s σ H D I (k _ _ _ q)⟩
variable {W : WX} {a b c e : Expr} {ma mb mc : SE} {pos : Pos}
theorem ge_var (i : Nat) {x : Str} (hN : X.N[i]? = some x := by rfl) (hv : Vis X.env.scope x := by first | exact Or.inl rfl | exact Or.inr (Or.inl rfl) | exact Or.inr (Or.inr rfl)) (hd : (x == ("__debug__" : Str)) = false := by decide)
    (hcd : (x == ("__classdict__" : Str)) = false := by decide) : GE X W (.Name x pos) (eVar i) := (pe_var hN hv hd hcd).imp fun σ H Q ⟨ι, ρ, S, s, r, p⟩ => by
  unfold eVar at p
  cases g : ρ[i]? with
  | none => rw [g] at p; exact p.elim
  | some o =>
    cases o with
    | none => rw [g] at p; exact p.elim
    | some d =>
      rw [g] at p
      obtain ⟨v, hv, hr⟩ := r.2 i d g
      exact ⟨v, hv, Po.ret p s hr⟩
theorem ge_c {v : V} {d : D} (h : PE X e (tC v)) (r : ∀ ι H, Rep X.KW ι H d v) : GE X W e (eC d) := h.imp fun σ H Q ⟨ι, ρ, S, s, _, p⟩ => Po.ret p s (r ι H)
theorem ge_int {i j} : GE X W (.Constant (.int i) j pos) (eC (.int i)) := ge_c pe_int fun _ _ => by rw [Rep]
theorem ge_bl {b j} : GE X W (.Constant (.bool b) j pos) (eC (.bl b)) := ge_c pe_bl fun _ _ => by rw [Rep]
theorem ge_non {j} : GE X W (.Constant .none j pos) (eC .non) := ge_c pe_non fun _ _ => by rw [Rep]
theorem ge_str {x : Str} {s : List Nat} {j} (h : x = str s := by decide +kernel) (h2 : (s.all fun c => decide (c < 128)) = true := by decide +kernel) : GE X W (.Constant (.str x) j pos) (eC (.str s)) :=
  ge_c pe_str fun _ _ => by rw [Rep]; exact ⟨by rw [h], fun c hc => of_decide_eq_true (List.all_eq_true.mp h2 c hc)⟩
/-- a constant of the module -/
theorem ge_glob {x : Str} {v : V} {u : Value} {d : D} (hg : Gl X x) (hm : X.mg x = some u) (q : RelV v u) (r : ∀ ι H, Rep X.KW ι H d v) (hd : (x == ("__debug__" : Str)) = false := by decide) : GE X W (.Name x pos) (eC d) := ge_c (pe_glob hg hm q hd) r
def r2 (X : Cx) (f : D → D → Store → M D) : R2 := fun x y H Q => ∃ ι S d e, Sim X.KW ι S H ∧ Rep X.KW ι H d x ∧ Rep X.KW ι H e y ∧ Po (Rep X.KW) X.KW X.mg ι H Q (fun _ _ _ => False) (f d e S)
def NoEx (f : D → D → Store → M D) : Prop := ∀ d e S c S', f d e S ≠ some (.ex c S')
theorem Po.noex {α β : Type} {R : List Addr → Hp → α → β → Prop} {K mg ι H} {Q : β → Hp → Prop} {E E' : XK} {m : M α} (h : Po R K mg ι H Q E m) (n : ∀ c S', m ≠ some (.ex c S')) : Po R K mg ι H Q E' m := by
  match m, h with
  | some (.ok a S), h => exact h
  | some (.ex c S), h => exact absurd rfl (n c S)
theorem e2_read {f : D → D → Store → M D} (n : NoEx f) {σ : L2.St} {H : Hp} {Q : VK} (h : tE X.KW X.mg W (e2 f ma mb) σ H Q) : tOp (r2 X f) (tE X.KW X.mg W ma) (tE X.KW X.mg W mb) σ H Q := by
  obtain ⟨ι, ρ, S, s, r, p⟩ := h
  refine ⟨ι, ρ, S, s, r, Po.bd p fun d S1 ι1 H1 x e1 s1 r1 p1 => ?_⟩
  refine ⟨ι1, ρ, S1, s1, r.ext e1, Po.bd p1 fun d' S2 ι2 H2 y e2 s2 r2 p2 => ?_⟩
  exact ⟨ι2, S2, d, d', s2, Rep.ext e2 _ _ r1, r2, p2.noex fun c S' => n d d' S2 c S'⟩
theorem ge_op {op : Operator} {f : D → D → Store → M D} (n : NoEx f) (ho : OpR X (binaryOp op) (r2 X f)) (ha : GE X W a ma) (hb : GE X W b mb) : GE X W (.BinOp a op b pos) (e2 f ma mb) := (pe_op ho ha hb).imp fun σ H Q h => e2_read n h
theorem ge_cmp {op : CmpOp} {f : D → D → Store → M D} (n : NoEx f) (ho : OpR X (compareOp op) (r2 X f)) (ha : GE X W a ma) (hb : GE X W b mb) (hm : behindInMarks op b = false := by first | exact nobehind _ (by decide) (by decide) | rfl) :
    GE X W (.Compare a [op] [b] pos) (e2 f ma mb) := (pe_cmpR ho ha hb hm).imp fun σ H Q h => e2_read n h
theorem chain_read {f g : D → D → Store → M D} (n : NoEx f) (n' : NoEx g) {σ : L2.St} {H : Hp} {Q : VK} (h : tE X.KW X.mg W (eCh f g ma mb mc) σ H Q) : tChain (r2 X f) (r2 X g) (tE X.KW X.mg W ma) (tE X.KW X.mg W mb) (tE X.KW X.mg W mc) σ H Q := by
  obtain ⟨ι, ρ, S, s, r, p⟩ := h
  refine ⟨ι, ρ, S, s, r, Po.bd p fun d S1 ι1 H1 x e1 s1 r1 p1 => ?_⟩
  refine ⟨ι1, ρ, S1, s1, r.ext e1, Po.bd p1 fun d' S2 ι2 H2 y e2 s2 q2 p2 => ?_⟩
  refine ⟨ι2, S2, d, d', s2, Rep.ext e2 _ _ r1, q2, ?_⟩
  refine Po.noex (Po.bd p2 fun z S3 ι3 H3 w e3 s3 r3 p3 => ?_) fun c S' => n d d' S2 c S'
  cases z with
  | bl k =>
    rw [Rep] at r3
    subst r3
    refine ⟨k, rfl, ?_⟩
    cases k with
    | true =>
      rw [if_pos rfl]
      refine ⟨ι3, ρ, S3, s3, ((r.ext e1).ext e2).ext e3, Po.bd p3 fun z4 S4 ι4 H4 u e4 s4 r4 p4 => ?_⟩
      exact ⟨ι4, S4, d', z4, s4, Rep.ext e4 _ _ (Rep.ext e3 _ _ q2), r4, p4.noex fun c S' => n' d' z4 S4 c S'⟩
    | false =>
      rw [if_neg Bool.false_ne_true]
      exact Po.ret p3 s3 (by rw [Rep])
  | _ => exact p3.elim
theorem ge_chain {op op' : CmpOp} {f g : D → D → Store → M D} (n : NoEx f) (n' : NoEx g) (ho : OpR X (compareOp op) (r2 X f)) (ho' : OpR X (compareOp op') (r2 X g)) (ha : GE X W a ma) (hb : GE X W b mb) (hc : GE X W c mc)
    (hm : lastMarks [op, op'] [b, c] = false := by with_unfolding_all rfl) : GE X W (.Compare a [op, op'] [b, c] pos) (eCh f g ma mb mc) := (pe_chain ho ho' ha hb hc hm).imp fun σ H Q h => chain_read n n' h
theorem ga_nil : GA X W [] [] := pa_nil.imp fun σ H Q ⟨ι, ρ, S, s, r, p⟩ => Po.ret p s (by rw [RepL])
theorem ga_cons {es : List Expr} {ms : List SE} (ha : GE X W e ma) (hr : GA X W es ms) (hs : starEach (e :: es) X.env = (false, eval e X.env) :: starEach es X.env := by rfl) : GA X W (e :: es) (ma :: ms) := (pa_cons ha hr hs).imp fun σ H Q h => by
  obtain ⟨ι, ρ, S, s, r, p⟩ := h
  refine ⟨ι, ρ, S, s, r, Po.bd p fun d S1 ι1 H1 x e1 s1 r1 p1 => ?_⟩
  refine ⟨ι1, ρ, S1, s1, r.ext e1, Po.bd p1 fun ds S2 ι2 H2 ys e2 s2 r2 p2 => ?_⟩
  exact Po.ret p2 s2 (by rw [RepL]; exact ⟨x, ys, rfl, Rep.ext e2 _ _ r1, r2⟩)
theorem evL_length : ∀ {ms : List SE} {ρ : Env} {S S' : Store} {ds : List D}, evL ms ρ S = some (.ok ds S') → ds.length = ms.length
  | [], _, _, _, _, h => by cases h; rfl
  | m :: ms, ρ, S, S', ds, h => by
    unfold evL at h
    match g : m ρ S, h with
    | some (.ok x S1), h =>
      simp only [bd_ok] at h
      match g2 : evL ms ρ S1, h with
      | some (.ok xs S2), h =>
        simp only [bd_ok] at h
        cases h
        simp [evL_length g2]
      | some (.ex _ _), h => simp at h
      | none, h => simp at h
    | some (.ex _ _), h => simp at h
    | none, h => simp at h
theorem Po.evL {ms : List SE} {ρ : Env} {S : Store} {ι : List Addr} {H : Hp} {α' β' : Type} {R' : List Addr → Hp → α' → β' → Prop} {Q : List V → Hp → Prop} {Q' : β' → Hp → Prop} {E : XK} {f : List D → Store → M α'}
    (h : Po R' X.KW X.mg ι H Q' E (Z.bd (Z.evL ms ρ S) f)) (k : ∀ ds S ι1 H1 vs, ds.length = ms.length → Ext ι H ι1 H1 → Sim X.KW ι1 S H1 → RepL X.KW ι1 H1 ds vs → Po R' X.KW X.mg ι1 H1 Q' E (f ds S) → Q vs H1) : Po (RepL X.KW) X.KW X.mg ι H Q E (Z.evL ms ρ S) := by
  match g : Z.evL ms ρ S, h with
  | some (.ok a S), h => exact fun ι1 H1 x e s r => k a S ι1 H1 x (evL_length g) e s r (Po.mono e h)
  | some (.ex c S), h => exact h
  | none, h => exact h
theorem Sim.newTup {K : KW} {mg : Mg} {ι : List Addr} {S : Store} {H : Hp} {ds : List D} {vs : List V} {Q : VK} {E : XK} {p : Addr} (s : Sim K ι S H) (hp : H p = none) (r : RepL K ι H ds vs) (po : Po (Rep K) K mg ι H Q E (some (.ok (.tup ds) S))) : NewT H p vs Q := by
  cases c : fK ds
  · refine .inr fun o ho => ?_
    have e := ext_tup (ι := ι) (o := .frz o (.tup vs)) hp
    exact Po.ret (Po.mono e po) (s.tup hp) (by rw [Rep]; exact ⟨p, vs, rfl, by rw [c]; exact ⟨o, ho, upd_same⟩, RepL.ext e _ _ r⟩)
  · refine .inl ?_
    have e := ext_tup (ι := ι) (o := .tup vs) hp
    exact Po.ret (Po.mono e po) (s.tup hp) (by rw [Rep]; exact ⟨p, vs, rfl, by rw [c]; exact upd_same, RepL.ext e _ _ r⟩)
theorem ge_tup {es : List Expr} {ms : List SE} {x1} (h : GA X W es ms) (hl : ms.length ≤ 1000 := by exact Nat.le_of_ble_eq_true rfl) : GE X W (.Tuple es x1 pos) (eTup ms) := (pe_tup2 h).imp fun σ H Q h => by
  obtain ⟨ι, ρ, S, s, r, p⟩ := h
  refine ⟨ι, ρ, S, s, r, Po.evL p fun ds S1 ι1 H1 vs hd e1 s1 r1 p1 => ⟨?_, fun q hq => ?_⟩⟩
  · rw [r1.length, hd]; exact Nat.le_trans hl (by decide)
  · exact s1.newTup hq r1 p1
theorem Sim.newL {K : KW} {ι : List Addr} {S : Store} {H : Hp} (s : Sim K ι S H) {p : Addr} {ds : List D} {vs : List V} (hp : H p = none) (r : RepL K ι H ds vs) : Sim K (ι ++ [p]) (S ++ [.lst ds]) (upd H p (.lst vs)) :=
  s.new hp ⟨vs, upd_same, RepL.ext (ext_new hp) _ _ r⟩
theorem Rep.newL {K : KW} {ι : List Addr} {S : Store} {H H' : Hp} (s : Sim K ι S H) {p : Addr} : Rep K (ι ++ [p]) H' (.ref S.length) (.ref p) := by
  rw [Rep]
  exact ⟨p, rfl, by rw [← s.len, List.getElem?_append_right (Nat.le_refl _)]; simp⟩
theorem ge_lst {es : List Expr} {ms : List SE} (h : GA X W es ms) (hl : ms.length ≤ 1000 := by exact Nat.le_of_ble_eq_true rfl) : GE X W (.List es pos) (eLst ms) := (pe_lst h).imp fun σ H Q h => by
  obtain ⟨ι, ρ, S, s, r, p⟩ := h
  refine ⟨ι, ρ, S, s, r, Po.evL p fun ds S1 ι1 H1 vs hd e1 s1 r1 p1 => ⟨?_, fun q hq => ?_⟩⟩
  · rw [r1.length, hd]; exact Nat.le_trans hl (by decide)
  · exact Po.ret (Po.mono (ext_new (t := [q]) (o := .lst vs) hq) p1) (s1.newL hq r1) (Rep.newL s1)
/-- what a def promises: its meaning -/
def spF (K : KW) (mg : Mg) (F : Fn) : Sp := fun vs H Q E => ∃ ι S ds, Sim K ι S H ∧ RepL K ι H ds vs ∧ Po (Rep K) K mg ι H Q E (F ds S)
/-- a def of the module -/
structure GF (P : Program) (w : World) (K : PySem.W.Frag) (mg : Mg) (base : Heap) (x : Str) (k : Nat) (F : Fn) : Prop where
  ex : ∃ f fd ps, mg x = some (.ref f) ∧ PySem.W.keepIn K (.ref f) = true ∧ Binds K fd ps [] ∧ FnG P w K mg base (L2.CX P w) k f fd ps (spF ⟨K, P, w⟩ mg F)
theorem ge_call {x : Str} {p : Pos} {k : Nat} {F : Fn} {es : List Expr} {ms : List SE} (G : GF X.prog X.w X.KW X.mg X.base x k F) (hr : RoomG k X.A) (tk : Takes X W) (hg : Gl X x) (ha : GA X W (e :: es) ms)
    (hdb : (x == ("__debug__" : Str)) = false := by decide) (he : starEach (e :: es) X.env = (false, eval e X.env) :: starEach es X.env := by rfl) (hpl : (backTo pos (starEach es X.env)).any (·.1) = false := by rfl) :
    GE X W (.Call (.Name x p) (e :: es) [] pos) (eCall F ms) := by
  obtain ⟨f, fd, ps, hm, hk, hb, G⟩ := G.ex
  refine (pe_callG (E := fun σ cls d H' => W cls d σ H') G hr hg hm hk hb .nil (fun σ => passAt tk σ) ha hdb he hpl).imp fun σ H Q h => ?_
  obtain ⟨ι, ρ, S, s, r, p⟩ := h
  refine ⟨ι, ρ, S, s, r, Po.evL p fun ds S1 ι1 H1 vs hd e1 s1 r1 p1 => ?_⟩
  rw [List.append_nil]
  exact ⟨ι1, S1, ds, s1, r1, p1⟩
/-- a built-in by values -/
def rB (X : Cx) (F : Fn) : List V → Hp → VK → Prop := fun vs H Q => ∃ ι S ds, Sim X.KW ι S H ∧ RepL X.KW ι H ds vs ∧ Po (Rep X.KW) X.KW X.mg ι H Q (fun _ _ _ => False) (F ds S)
def NoExF (F : Fn) : Prop := ∀ ds S c S', F ds S ≠ some (.ex c S')
theorem ge_callB {x : Str} {id : String} {p : Pos} {F : Fn} {es : List Expr} {ms : List SE} (n : NoExF F) (hc : CallR X (.builtin id) (rB X F)) (hg : Gl X x) (hm : X.mg x = none) (hv : bootBuiltins x = some (.builtin id)) (ha : GA X W (e :: es) ms)
    (hn : x ≠ "__name__" := by decide) (hdb : (x == ("__debug__" : Str)) = false := by decide) (he : starEach (e :: es) X.env = (false, eval e X.env) :: starEach es X.env := by rfl) (hpl : (backTo pos (starEach es X.env)).any (·.1) = false := by rfl) :
    GE X W (.Call (.Name x p) (e :: es) [] pos) (eCall F ms) := (pe_callB hc hg hm hv ha hn hdb he hpl).imp fun σ H Q h => by
  obtain ⟨ι, ρ, S, s, r, p⟩ := h
  refine ⟨ι, ρ, S, s, r, Po.evL p fun ds S1 ι1 H1 vs hd e1 s1 r1 p1 => ?_⟩
  exact ⟨ι1, S1, ds, s1, r1, p1.noex fun c S' => n ds S1 c S'⟩
theorem ge_callTy {x : Str} {T : String} {p : Pos} {F : Fn} {es : List Expr} {ms : List SE} (n : NoExF F) (hc : CallR X (.type T) (rB X F)) (hg : Gl X x) (hm : X.mg x = none) (hv : bootBuiltins x = some (.type T)) (ha : GA X W (e :: es) ms)
    (hn : x ≠ "__name__" := by decide) (hdb : (x == ("__debug__" : Str)) = false := by decide) (he : starEach (e :: es) X.env = (false, eval e X.env) :: starEach es X.env := by rfl) (hpl : (backTo pos (starEach es X.env)).any (·.1) = false := by rfl) :
    GE X W (.Call (.Name x p) (e :: es) [] pos) (eCall F ms) := (pe_callTy hc hg hm hv ha hn hdb he hpl).imp fun σ H Q h => by
  obtain ⟨ι, ρ, S, s, r, p⟩ := h
  refine ⟨ι, ρ, S, s, r, Po.evL p fun ds S1 ι1 H1 vs hd e1 s1 r1 p1 => ?_⟩
  exact ⟨ι1, S1, ds, s1, r1, p1.noex fun c S' => n ds S1 c S'⟩
theorem ge_one {op} (h : GE X W a ma) : GE X W (.BoolOp op [a] pos) ma := pe_one h
theorem ge_and {rest : List Expr} (ha : GE X W a ma) (hb : GE X W (.BoolOp .And (b :: rest) pos) mb) : GE X W (.BoolOp .And (a :: b :: rest) pos) (eAnd ma mb) := (pe_and ha hb).imp fun σ H Q h => by
  obtain ⟨ι, ρ, S, s, r, p⟩ := h
  refine ⟨ι, ρ, S, s, r, Po.bd p fun d S1 ι1 H1 x e1 s1 r1 p1 => ?_⟩
  cases d with
  | bl k =>
    rw [Rep] at r1
    refine ⟨k, r1, ?_⟩
    cases k with
    | true => rw [if_pos rfl]; exact ⟨ι1, ρ, S1, s1, r.ext e1, p1⟩
    | false => rw [if_neg Bool.false_ne_true]; exact Po.ret p1 s1 (by rw [Rep])
  | _ => exact p1.elim
theorem ge_not (ha : GE X W a ma) : GE X W (.UnaryOp .Not a pos) (eNot ma) := (pe_not ha).imp fun σ H Q h => by
  obtain ⟨ι, ρ, S, s, r, p⟩ := h
  refine ⟨ι, ρ, S, s, r, Po.bd p fun d S1 ι1 H1 x e1 s1 r1 p1 => ?_⟩
  cases d with
  | bl k =>
    rw [Rep] at r1
    exact ⟨k, r1, Po.ret p1 s1 (by rw [Rep])⟩
  | _ => exact p1.elim
theorem tVal_read {m : SE} {σ : L2.St} {H : Hp} {Q : Bool → Hp → Prop} (h : tT X.KW X.mg W (tVal m) σ H Q) : tE X.KW X.mg W m σ H fun x H1 => ∃ k, x = .bl k ∧ Q k H1 := by
  obtain ⟨ι, ρ, S, s, r, p⟩ := h
  refine ⟨ι, ρ, S, s, r, Po.bd p fun d S1 ι1 H1 x e1 s1 r1 p1 => ?_⟩
  cases d with
  | bl k =>
    rw [Rep] at r1
    exact ⟨k, r1, Po.ret p1 s1 rfl⟩
  | _ => exact p1.elim
/-- an expression that gives True or False, as a test -/
theorem gt_val {m : SE} (h : GE X W e m) (he : ∀ whole, isTrue e X.env whole = (do let v ← whole; standAt e.pos; holding [v] (truthy v)) := by intro _; rfl) : GT X W e (tVal m) := (pt_val h he).imp fun σ H Q h => tVal_read h
theorem gt_cmp {op : CmpOp} {f : D → D → Store → M D} (n : NoEx f) (ho : OpR X (compareOp op) (r2 X f)) (ha : GE X W a ma) (hb : GE X W b mb) (hm : behindInMarks op b = false := by first | exact nobehind _ (by decide) (by decide) | rfl) :
    GT X W (.Compare a [op] [b] pos) (tVal (e2 f ma mb)) := (pt_cmpR ho ha hb hm).imp fun σ H Q h => e2_read n (tVal_read h)
theorem gt_chain {op op' : CmpOp} {f g : D → D → Store → M D} (n : NoEx f) (n' : NoEx g) (ho : OpR X (compareOp op) (r2 X f)) (ho' : OpR X (compareOp op') (r2 X g)) (ha : GE X W a ma) (hb : GE X W b mb) (hc : GE X W c mc)
    (hm : lastMarks [op, op'] [b, c] = false := by with_unfolding_all rfl) : GT X W (.Compare a [op, op'] [b, c] pos) (tVal (eCh f g ma mb mc)) := (pt_chain ho ho' ha hb hc hm).imp fun σ H Q h => chain_read n n' (tVal_read h)
variable {ta tb : ST}
theorem gw_and1 (ha : GT X W a ta) : GW X W (.BoolOp .And [a] pos) ta := pw_and1 ha
theorem gw_or1 (ha : GT X W a ta) : GW X W (.BoolOp .Or [a] pos) ta := pw_or1 ha
theorem gw_and {rest : List Expr} (ha : GT X W a ta) (hb : GW X W (.BoolOp .And (b :: rest) pos) tb) : GW X W (.BoolOp .And (a :: b :: rest) pos) (tAnd ta tb) := (pw_and ha hb).imp fun σ H Q h => by
  obtain ⟨ι, ρ, S, s, r, p⟩ := h
  refine ⟨ι, ρ, S, s, r, Po.bd p fun d S1 ι1 H1 x e1 s1 r1 p1 => ?_⟩
  obtain rfl : x = d := r1
  cases x with
  | true => rw [if_pos rfl] at p1 ⊢; exact ⟨ι1, ρ, S1, s1, r.ext e1, p1⟩
  | false => rw [if_neg Bool.false_ne_true] at p1 ⊢; exact Po.ret p1 s1 rfl
theorem gw_or {rest : List Expr} (ha : GT X W a ta) (hb : GW X W (.BoolOp .Or (b :: rest) pos) tb) : GW X W (.BoolOp .Or (a :: b :: rest) pos) (tOr ta tb) := (pw_or ha hb).imp fun σ H Q h => by
  obtain ⟨ι, ρ, S, s, r, p⟩ := h
  refine ⟨ι, ρ, S, s, r, Po.bd p fun d S1 ι1 H1 x e1 s1 r1 p1 => ?_⟩
  obtain rfl : x = d := r1
  cases x with
  | true => rw [if_pos rfl] at p1 ⊢; exact Po.ret p1 s1 rfl
  | false => rw [if_neg Bool.false_ne_true] at p1 ⊢; exact ⟨ι1, ρ, S1, s1, r.ext e1, p1⟩
theorem GW.gt (h : GW X W e ta) : GT X W e ta := L2.PW.pt h
theorem gt_not (ha : GT X W a ta) : GT X W (.UnaryOp .Not a pos) (tNot ta) := (pt_not ha).imp fun σ H Q h => by
  obtain ⟨ι, ρ, S, s, r, p⟩ := h
  refine ⟨ι, ρ, S, s, r, Po.bd p fun d S1 ι1 H1 x e1 s1 r1 p1 => ?_⟩
  obtain rfl : x = d := r1
  exact Po.ret p1 s1 rfl
end
end Z
namespace Z
open PySem PySem.Spec PyProof.Rows L2
section
variable {X : Cx} {W : WX} {a b c e : Expr} {ma mb mc : SE} {pos : Pos}
theorem gss_nil : GSs X W [] sNx := pss_nil.imp fun D σ H ⟨ι, ρ, S, s, r, p⟩ => p ι H σ .refl s r
theorem gss_cons {st : Stmt} {rest : List Stmt} {m m' : SS} (h1 : GS X W st m) (h2 : GSs X W rest m') : GSs X W (st :: rest) (sq m m') := (pss_cons h1 h2).imp fun D σ H ⟨ι, ρ, S, s, r, p⟩ => by
  refine ⟨ι, ρ, S, s, r, ?_⟩
  unfold sq at p
  match g : m ρ S, p with
  | none, p => exact p
  | some (.nx ρ1 S1), p => exact fun ι1 H1 σ1 e1 s1 r1 => ⟨ι1, ρ1, S1, s1, r1, PoS.mono e1 p⟩
  | some (.rt d S1), p => exact p
  | some (.bk ρ1 S1), p => exact p
  | some (.ct ρ1 S1), p => exact p
  | some (.ex c ρ1 S1), p => exact p
theorem gss_one {st : Stmt} {m : SS} (h1 : GS X W st m) : GSs X W [st] m := pss_one h1
theorem gs_expr (he : GE X W e ma) (hs : swapsWith e none pos.line X.env = pure false := by rfl) : GS X W (.Expr e pos) (sExp ma) := (ps_expr he hs).imp fun D σ H ⟨ι, ρ, S, s, r, p⟩ =>
  ⟨ι, ρ, S, s, r, PoS.bo r p fun d S1 ι1 H1 x e1 s1 r1 r2 p1 => p1 ι1 H1 σ .refl s1 r2⟩
theorem gs_ret (he : GE X W e ma) : GS X W (.Return (some e) pos) (sRet ma) := (ps_ret he).imp fun D σ H ⟨ι, ρ, S, s, r, p⟩ =>
  ⟨ι, ρ, S, s, r, PoS.bo r p fun d S1 ι1 H1 x e1 s1 r1 r2 p1 => p1 ι1 H1 x .refl s1 r1⟩
theorem gs_if {t : ST} {p q : List Stmt} {m m' : SS} (hc : GT X W c t) (ha : GSs X W p m) (hb : GSs X W q m') : GS X W (.If c p q pos) (sIf t m m') := (ps_if hc ha hb).imp fun D σ H ⟨ι, ρ, S, s, r, p⟩ => by
  refine ⟨ι, ρ, S, s, r, PoS.bo r p fun d S1 ι1 H1 x e1 s1 r1 r2 p1 => ?_⟩
  obtain rfl : x = d := r1
  cases x with
  | true => rw [if_pos rfl] at p1 ⊢; exact ⟨ι1, ρ, S1, s1, r2, p1⟩
  | false => rw [if_neg Bool.false_ne_true] at p1 ⊢; exact ⟨ι1, ρ, S1, s1, r2, p1⟩
/-- σ' is σ but at these places -/
def Off (sl : List Nat) (σ σ' : L2.St) : Prop := σ'.length = σ.length ∧ ∀ i, i ∉ sl → σ'[i]? = σ[i]?
theorem Off.refl {sl : List Nat} {σ : L2.St} : Off sl σ σ := ⟨rfl, fun _ _ => rfl⟩
theorem Off.trans {sl sl' : List Nat} {σ σ' σ'' : L2.St} (a : Off sl σ σ') (b : Off sl' σ' σ'') : Off (sl ++ sl') σ σ'' :=
  ⟨b.1.trans a.1, fun i h => by simp only [List.mem_append, not_or] at h; exact (b.2 i h.2).trans (a.2 i h.1)⟩
theorem wipe_get (σ : L2.St) : ∀ (vs : List Nat) (i : Nat), (L2.wipe σ vs)[i]? = if i ∈ vs ∧ i < σ.length then some none else σ[i]?
  | [], i => by simp [L2.wipe]
  | v :: vs, i => by
    unfold L2.wipe
    by_cases hv : v = i
    · subst hv
      by_cases hl : v < σ.length
      · rw [List.getElem?_set_self (by rw [L2.wipe_length]; exact hl)]
        simp [hl]
      · rw [List.getElem?_eq_none (by simp [L2.wipe_length]; omega)]
        simp [hl]
    · rw [List.getElem?_set_ne hv, wipe_get σ vs i]
      have : (i ∈ v :: vs) ↔ i ∈ vs := by simp [Ne.symm hv]
      simp [this]
theorem Off.wipe {sl own : List Nat} {σ σ' : L2.St} (h : Off sl σ σ') (k : ∀ i ∈ sl, i ∈ own) : L2.wipe σ' own = L2.wipe σ own := by
  apply List.ext_getElem?
  intro i
  rw [wipe_get, wipe_get, h.1]
  by_cases hi : i ∈ own
  · by_cases hl : i < σ.length
    · simp [hi, hl]
    · have h1 : σ[i]? = none := List.getElem?_eq_none (by omega)
      have h2 : σ'[i]? = none := List.getElem?_eq_none (by rw [h.1]; omega)
      simp [hl, h1, h2]
  · simp only [hi, false_and, if_false]
    exact h.2 i fun z => hi (k i z)
def tG (K : KW) (g : SG) (sl : List Nat) : TG := fun v σ H Q => ∃ ι ρ S d ρ' S', Sim K ι S H ∧ EnvR K ι H ρ σ ∧ Rep K ι H d v ∧ g d ρ S = some (ρ', S') ∧
  ∀ ι' H' σ', Ext ι H ι' H' → Sim K ι' S' H' → EnvR K ι' H' ρ' σ' → Off sl σ σ' → Q σ' H'
def tGs (K : KW) (gs : List SG) (sl : List Nat) : TGs := fun vs σ H Q => ∃ ι ρ S ds ρ' S', Sim K ι S H ∧ EnvR K ι H ρ σ ∧ RepL K ι H ds vs ∧ gAll gs ds ρ S = some (ρ', S') ∧
  ∀ ι' H' σ', Ext ι H ι' H' → Sim K ι' S' H' → EnvR K ι' H' ρ' σ' → Off sl σ σ' → Q σ' H'
def GG (X : Cx) (e : Expr) (g : SG) (sl : List Nat) : Prop := PG X e (tG X.KW g sl)
def GGs (X : Cx) (es : List Expr) (gs : List SG) (sl : List Nat) : Prop := PGs X es (tGs X.KW gs sl)
theorem _root_.L2.PG.imp {e : Expr} {t t' : TG} (h : PG X e t) (k : ∀ v σ H Q, t' v σ H Q → t v σ H Q) : PG X e t' := ⟨fun pins s σ H v u Q I r q => h.run pins s σ H v u Q I r (k _ _ _ _ q)⟩
theorem _root_.L2.PGs.imp {es : List Expr} {t t' : TGs} (h : PGs X es t) (k : ∀ v σ H Q, t' v σ H Q → t v σ H Q) : PGs X es t' := ⟨fun pins s σ H v u Q I r q => h.run pins s σ H v u Q I r (k _ _ _ _ q)⟩
theorem gg_name (i : Nat) {x : Str} (hN : X.N.Nodup) (hi : X.N[i]? = some x := by rfl) (hx : Loc X.env.scope x := by first | exact Or.inl rfl | exact Or.inr rfl) (hf : X.fn x = true ∨ X.env.scope.names.lookup x = some .local := by first | exact .inl rfl | exact .inr rfl) : GG X (.Name x pos) (gName i) [i] :=
  (pg_name hN hi hx hf).imp fun v σ H Q ⟨ι, ρ, S, d, ρ', S', s, r, rd, g, k⟩ => by
    unfold Z.gName at g
    cases g
    exact k ι H _ .refl s (r.set rd) ⟨by simp, fun j hj => by rw [List.getElem?_set_ne (by rintro rfl; simp at hj)]⟩
theorem ggs_nil : GGs X [] [] [] := pgs_nil.imp fun vs σ H Q ⟨ι, ρ, S, ds, ρ', S', s, r, rd, g, k⟩ => by
  match ds, g with
  | [], g =>
    unfold gAll at g
    cases g
    rw [RepL] at rd
    exact ⟨rd, k ι H σ .refl s r .refl⟩
  | _ :: _, g => unfold gAll at g; cases g
theorem ggs_cons {es : List Expr} {g : SG} {gs : List SG} {sl sl' : List Nat} (h1 : GG X e g sl) (h2 : GGs X es gs sl')
    (hs : (assignEach (e :: es) X.env).map (·.2) = assign e X.env :: (assignEach es X.env).map (·.2) := by rfl) : GGs X (e :: es) (g :: gs) (sl ++ sl') := (pgs_cons h1 h2 hs).imp fun vs σ H Q ⟨ι, ρ, S, ds, ρ', S', s, r, rd, q, k⟩ => by
  match ds, q with
  | [], q => unfold gAll at q; cases q
  | d :: ds, q =>
    unfold gAll at q
    rw [RepL] at rd
    obtain ⟨v, vr, rfl, rv, rr⟩ := rd
    refine ⟨v, vr, rfl, ?_⟩
    match q1 : g d ρ S, q with
    | some (ρ1, S1), q =>
      refine ⟨ι, ρ, S, d, ρ1, S1, s, r, rv, q1, fun ι1 H1 σ1 e1 s1 r1 o1 => ?_⟩
      exact ⟨ι1, ρ1, S1, ds, ρ', S', s1, r1, RepL.ext e1 _ _ rr, q, fun ι2 H2 σ2 e2 s2 r2 o2 => k ι2 H2 σ2 (e1.trans e2) s2 r2 (o1.trans o2)⟩
theorem gAll_len : ∀ {gs : List SG} {ds : List D} {ρ : Env} {S : Store} {o : Env × Store}, gAll gs ds ρ S = some o → ds.length = gs.length
  | [], [], _, _, _, _ => rfl
  | [], _ :: _, _, _, _, h => by unfold gAll at h; cases h
  | _ :: _, [], _, _, _, h => by unfold gAll at h; cases h
  | g :: gs, d :: ds, ρ, S, o, h => by
    unfold gAll at h
    match q : g d ρ S, h with
    | some (ρ1, S1), h => simp [gAll_len h]
theorem gg_tup {es : List Expr} {k : Nat} {gs : List SG} {sl : List Nat} (hc : X.calm = true) (h : GGs X es gs sl) (hn : (assignEach es X.env).length = gs.length := by rfl) (hst : (assignEach es X.env).findIdx? (·.1) = none := by rfl) : GG X (.Tuple es k pos) (Z.gTup gs) sl :=
  (pg_tup (n := gs.length) hc h hn hst).imp fun v σ H Q ⟨ι, ρ, S, d, ρ', S', s, r, rd, q, k⟩ => by
    match d, q with
    | .tup ds, q =>
      rw [Rep] at rd
      obtain ⟨a, vs, rfl, h1, h2⟩ := rd
      have q' : gAll gs ds ρ S = some (ρ', S') := q
      exact ⟨a, vs, rfl, h1.sq, by rw [h2.length, gAll_len q'], ι, ρ, S, ds, ρ', S', s, r, h2, q', k⟩
theorem gs_asg {tg : Expr} {g : SG} {sl : List Nat} (he : GE X W e ma) (hg : GG X tg g sl) (hs : swapsWithSole [tg] e pos.line X.env = pure false := by rfl) (hw : swappedStores [tg] e X.env = pure none := by rfl)
    (h1 : (assignEach [tg] X.env).map (·.2) = [assign tg X.env] := by rfl) : GS X W (.Assign [tg] e pos) (sAsg ma g) := (ps_asg he hg hs hw h1).imp fun D σ H ⟨ι, ρ, S, s, r, p⟩ => by
  refine ⟨ι, ρ, S, s, r, PoS.bo r p fun d S1 ι1 H1 x e1 s1 r1 r2 p1 => ?_⟩
  match q : g d ρ S1, p1 with
  | some (ρ2, S2), p1 => exact ⟨ι1, ρ, S1, d, ρ2, S2, s1, r2, r1, q, fun ι2 H2 σ2 e2 s2 r3 _ => p1 ι2 H2 σ2 e2 s2 r3⟩
theorem gs_set (i : Nat) {x : Str} {pos' : Pos} (hN : X.N.Nodup) (he : GE X W e ma) (hi : X.N[i]? = some x := by rfl) (hx : Loc X.env.scope x := by first | exact Or.inl rfl | exact Or.inr rfl) (hs : swapsWith e (some (.Name x pos')) pos.line X.env = pure false := by rfl) (hf : X.fn x = true ∨ X.env.scope.names.lookup x = some .local := by first | exact .inl rfl | exact .inr rfl) :
    GS X W (.Assign [.Name x pos'] e pos) (sAsg ma (Z.gName i)) := (ps_set hN hi hx he hs hf).imp fun D σ H ⟨ι, ρ, S, s, r, p⟩ => by
  refine ⟨ι, ρ, S, s, r, PoS.bo r p fun d S1 ι1 H1 x e1 s1 r1 r2 p1 => ?_⟩
  exact p1 ι1 H1 _ .refl s1 (r2.set r1)
theorem gs_aug (i : Nat) {x : Str} {op : Operator} {f : D → D → Store → M D} {pos' : Pos} (hN : X.N.Nodup) (n : NoEx f) (ho : OpR X (inplaceOp op) (r2 X f)) (he : GE X W e ma) (hi : X.N[i]? = some x := by rfl) (hx : Loc X.env.scope x := by first | exact Or.inl rfl | exact Or.inr rfl) (hf : X.fn x = true ∨ X.env.scope.names.lookup x = some .local := by first | exact .inl rfl | exact .inr rfl) :
    GS X W (.AugAssign (.Name x pos') op e pos) (sAug i f ma) := (ps_aug (ti := fun x y H Q => r2 X f x y H Q) hN hi hx he (fun pins s σ H x y v u Q I r1 r2 h => ho pins s σ H x y v u Q I r1 r2 h) hf).imp fun D σ H ⟨ι, ρ, S, s, r, p⟩ => by
  unfold sAug e2 eVar at p
  cases g : ρ[i]? with
  | none => rw [g] at p; exact p.elim
  | some o =>
    cases o with
    | none => rw [g] at p; exact p.elim
    | some d =>
      rw [g] at p
      simp only [bd_ok] at p
      obtain ⟨v, hv, hr⟩ := r.2 i d g
      refine ⟨v, hv, ι, ρ, S, s, r, ?_⟩
      match q : ma ρ S, p with
      | none, p => exact p
      | some (.ex _ _), p => exact fun ι1 H1 cls e1 s1 g1 => p ι1 H1 σ cls e1 s1 (r.ext e1) g1
      | some (.ok d2 S2), p =>
        simp only [bd_ok] at p
        intro ι2 H2 y e2 s2 q2
        refine ⟨ι2, S2, d, d2, s2, Rep.ext e2 _ _ hr, q2, ?_⟩
        have p := PoS.mono e2 p
        match q3 : f d d2 S2, p with
        | none, p => exact p
        | some (.ex c S'), p => exact absurd q3 (n _ _ _ _ _)
        | some (.ok z S3), p => exact fun ι3 H3 w e3 s3 r3 => p ι3 H3 _ e3 s3 (((r.ext e2).ext e3).set r3)
/-- the loop ends within n turns, so -/
def whN (t : ST) (b : SS) : Nat → Env → Store → Out → Prop
  | 0, _, _, _ => False
  | n + 1, ρ, S, o => match t ρ S with
    | none => False
    | some (.ex c S1) => o = .ex c ρ S1
    | some (.ok false S1) => o = .nx ρ S1
    | some (.ok true S1) => match b ρ S1 with
      | none => False
      | some (.nx ρ2 S2) => whN t b n ρ2 S2 o
      | some (.ct ρ2 S2) => whN t b n ρ2 S2 o
      | some (.bk ρ2 S2) => o = .nx ρ2 S2
      | some (.rt d S2) => o = .rt d S2
      | some (.ex c ρ2 S2) => o = .ex c ρ2 S2
theorem sWh_ends (t : ST) (b : SS) : ∀ (ρ : Env) (S : Store) (o : Out), sWh t b ρ S = some o → ∃ n, whN t b n ρ S o :=
  sWh.partial_correctness t b (fun ρ S o => ∃ n, whN t b n ρ S o) fun f ih ρ S o h => by
    match g : t ρ S, h with
    | none, h => cases h
    | some (.ex c S1), h => cases h; exact ⟨1, by unfold whN; rw [g]⟩
    | some (.ok false S1), h => cases h; exact ⟨1, by unfold whN; rw [g]⟩
    | some (.ok true S1), h =>
      dsimp only at h
      match g2 : b ρ S1, h with
      | none, h => cases h
      | some (.nx ρ2 S2), h => obtain ⟨n, q⟩ := ih ρ2 S2 o h; exact ⟨n + 1, by unfold whN; rw [g]; simp only [g2]; exact q⟩
      | some (.ct ρ2 S2), h => obtain ⟨n, q⟩ := ih ρ2 S2 o h; exact ⟨n + 1, by unfold whN; rw [g]; simp only [g2]; exact q⟩
      | some (.bk ρ2 S2), h => cases h; exact ⟨1, by unfold whN; rw [g]; simp only [g2]⟩
      | some (.rt d S2), h => cases h; exact ⟨1, by unfold whN; rw [g]; simp only [g2]⟩
      | some (.ex c ρ2 S2), h => cases h; exact ⟨1, by unfold whN; rw [g]; simp only [g2]⟩
theorem gs_while {t : ST} {body : List Stmt} {m : SS} (hp : PassesOwn (model X.prog X.w) X.A X.env X.xe) (hc : GT X W c t) (hb : GSs X W body m) : GS X W (.While c body [] pos) (sWh t m) := (ps_while hp hc hb).imp fun D σ H ⟨ι, ρ, S, s, r, p⟩ => by
  match g : sWh t m ρ S, p with
  | some o, p =>
    obtain ⟨n, hn⟩ := sWh_ends t m ρ S o g
    refine ⟨fun n σ H => ∃ ι ρ S, Sim X.KW ι S H ∧ EnvR X.KW ι H ρ σ ∧ whN t m n ρ S o ∧ PoS X.KW X.mg W ι H D (some o), ⟨n, ι, ρ, S, s, r, hn, p⟩, ?_⟩
    rintro n σ H ⟨ι, ρ, S, s, r, hn, p⟩
    refine ⟨ι, ρ, S, s, r, ?_⟩
    cases n with
    | zero => exact hn.elim
    | succ n =>
      unfold whN at hn
      match g1 : t ρ S, hn with
      | some (.ex c S1), hn => subst hn; exact fun ι1 H1 cls e1 s1 g1 => p ι1 H1 σ cls e1 s1 (r.ext e1) g1
      | some (.ok false S1), hn =>
        subst hn
        intro ι1 H1 x e1 s1 r1
        obtain rfl : x = false := r1
        rw [if_neg Bool.false_ne_true]
        exact p ι1 H1 σ e1 s1 (r.ext e1)
      | some (.ok true S1), hn =>
        intro ι1 H1 x e1 s1 r1
        obtain rfl : x = true := r1
        rw [if_pos rfl]
        refine ⟨fun σ' H' => ∃ ι ρ S, Sim X.KW ι S H' ∧ EnvR X.KW ι H' ρ σ' ∧ whN t m n ρ S o ∧ PoS X.KW X.mg W ι H' D (some o), fun σ' H' h => ⟨n, Nat.lt_succ_self n, h⟩, ι1, ρ, S1, s1, r.ext e1, ?_⟩
        have p := PoS.mono e1 p
        simp only [] at hn
        match g2 : m ρ S1, hn with
        | some (.nx ρ2 S2), hn => exact fun ι2 H2 σ2 e2 s2 r2 => ⟨ι2, ρ2, S2, s2, r2, hn, PoS.mono e2 p⟩
        | some (.ct ρ2 S2), hn => exact fun ι2 H2 σ2 e2 s2 r2 => ⟨ι2, ρ2, S2, s2, r2, hn, PoS.mono e2 p⟩
        | some (.bk ρ2 S2), hn => subst hn; exact fun ι2 H2 σ2 e2 s2 r2 => p ι2 H2 σ2 e2 s2 r2
        | some (.rt d S2), hn => subst hn; exact p
        | some (.ex c ρ2 S2), hn => subst hn; exact p
/-- j walks J -/
def RItm (K : KW) (ι : List Addr) (H : Hp) (J : Itm) (j : It) : Prop := ∀ ι' H' S', Ext ι H ι' H' → Sim K ι' S' H' → J.chk S' →
  (∀ i x, J.xs[i]? = some x → j.go i H' ∧ ∀ v H'', j.yld i H' v H'' → Ext ι' H' ι' H'' ∧ Sim K ι' S' H'' ∧ Rep K ι' H'' x v) ∧ j.stop J.xs.length H'
theorem RItm.ext {K : KW} {ι ι' : List Addr} {H H' : Hp} {J : Itm} {j : It} (e : Ext ι H ι' H') (h : RItm K ι H J j) : RItm K ι' H' J j := fun ι2 H2 S2 e2 s c => h ι2 H2 S2 (e.trans e2) s c
def tI (K : KW) (mg : Mg) (W : WX) (m : SI) : TI := fun σ H R => ∃ ι ρ S, Sim K ι S H ∧ EnvR K ι H ρ σ ∧ Po (RItm K) K mg ι H R (fun cls d H' => W cls d σ H') (m ρ S)
def GI (X : Cx) (W : WX) (tg iter : Expr) (m : SI) : Prop := PI X tg iter (tI X.KW X.mg W m)
theorem _root_.L2.PI.imp {tg iter : Expr} {t t' : TI} (h : PI X tg iter t) (k : ∀ σ H Q, t' σ H Q → t σ H Q) : PI X tg iter t' := ⟨fun pins s σ H R I q => h.run pins s σ H R I (k _ _ _ q)⟩
theorem forL_step {chk : Store → Prop} {g : SG} {m : SS} {x : D} {r : List D} {ρ : Env} {S : Store} (hc : chk S) : forL chk g m (x :: r) ρ S = (match g x ρ S with
      | none => none
      | some (ρ1, S1) => match m ρ1 S1 with
        | some (.nx ρ2 S2) => forL chk g m r ρ2 S2
        | some (.ct ρ2 S2) => forL chk g m r ρ2 S2
        | some (.bk ρ2 S2) => some (.nx ρ2 S2)
        | o => o) := by
  rw [forL, if_pos hc]
  all_goals rfl
theorem gs_for {tg iter : Expr} {it : SI} {g : SG} {sl : List Nat} {body : List Stmt} {m : SS} (hp : PassesOwn (model X.prog X.w) X.A X.env X.xe) (hc : X.calm = true) (hi : GI X W tg iter it) (hg : GG X tg g sl) (hb : GSs X W body m)
    (hs : ∀ x, foldedSetIterable iter X.env x = pure x := by intro _; rfl) : GS X W (.For tg iter body [] pos) (sFor it g m) := (ps_for hp hc hi hg hb hs).imp fun D σ H ⟨ι, ρ, S, s, r, p⟩ => by
  refine ⟨ι, ρ, S, s, r, PoS.bo r p fun J S1 ι1 H1 j e1 s1 r1 r2 p1 => ?_⟩
  refine ⟨fun i n σ' H' => ∃ ι' ρ' S', Ext ι1 H1 ι' H' ∧ Sim X.KW ι' S' H' ∧ EnvR X.KW ι' H' ρ' σ' ∧ n = J.xs.length - i ∧ i ≤ J.xs.length ∧ PoS X.KW X.mg W ι' H' D (forL J.chk g m (J.xs.drop i) ρ' S'), ⟨J.xs.length, ι1, ρ, S1, .refl, s1, r2, rfl, Nat.zero_le _, p1⟩, ?_⟩
  rintro i n σ' H' ⟨ι', ρ', S', e', s', r', hn, hi, p'⟩
  by_cases hck : J.chk S'
  rotate_left
  · exfalso
    cases q : J.xs.drop i with
    | nil => rw [q, forL, if_neg hck] at p'; exact p'
    | cons x t => rw [q, forL, if_neg hck] at p'; exact p'
  obtain ⟨hitem, hstop⟩ := r1 ι' H' S' e' s' hck
  by_cases hlt : i < J.xs.length
  · refine .inr ⟨(hitem i _ (List.getElem?_eq_getElem hlt)).1, ?_⟩
    rw [List.drop_eq_getElem_cons hlt, forL_step hck] at p'
    match q : g J.xs[i] ρ' S', p' with
    | some (ρ2, S2), p' =>
      simp only [] at p'
      refine ⟨fun σ3 H3 => ∃ ι3 ρ3 S3, Ext ι1 H1 ι3 H3 ∧ Sim X.KW ι3 S3 H3 ∧ EnvR X.KW ι3 H3 ρ3 σ3 ∧ PoS X.KW X.mg W ι3 H3 D (forL J.chk g m (J.xs.drop (i + 1)) ρ3 S3), fun σ3 H3 ⟨ι3, ρ3, S3, a1, a2, a3, a4⟩ => ⟨n - 1, by omega, ι3, ρ3, S3, a1, a2, a3, by omega, by omega, a4⟩, fun v H2 y => ?_⟩
      obtain ⟨e2, s2, rv⟩ := (hitem i _ (List.getElem?_eq_getElem hlt)).2 v H2 y
      refine ⟨ι', ρ', S', J.xs[i], ρ2, S2, s2, r'.ext e2, rv, q, fun ι3 H3 σ3 e3 s3 r3 _ => ?_⟩
      have eT : Ext ι1 H1 ι3 H3 := (e'.trans e2).trans e3
      have p' := PoS.mono (e2.trans e3) p'
      refine ⟨ι3, ρ2, S2, s3, r3, ?_⟩
      match q2 : m ρ2 S2, p' with
      | none, p' => exact p'
      | some (.nx ρ4 S4), p' => exact fun ι4 H4 σ4 e4 s4 r4 => ⟨ι4, ρ4, S4, eT.trans e4, s4, r4, PoS.mono e4 p'⟩
      | some (.ct ρ4 S4), p' => exact fun ι4 H4 σ4 e4 s4 r4 => ⟨ι4, ρ4, S4, eT.trans e4, s4, r4, PoS.mono e4 p'⟩
      | some (.bk ρ4 S4), p' => exact p'
      | some (.rt d S4), p' => exact p'
      | some (.ex c ρ4 S4), p' => exact p'
  · have e : i = J.xs.length := by omega
    subst e
    refine .inl ⟨hstop, ?_⟩
    rw [List.drop_length, forL, if_pos hck] at p'
    exact p' ι' H' σ' .refl s' r'
def GTs (X : Cx) (W : WX) (es : List Expr) (m : ST) : Prop := PTs X es (tT X.KW X.mg W m)
theorem _root_.L2.PTs.imp {es : List Expr} {t t' : TT} (h : PTs X es t) (k : ∀ σ H Q, t' σ H Q → t σ H Q) : PTs X es t' := ⟨fun pins s σ H Q I q => h.run pins s σ H Q I (k _ _ _ q)⟩
theorem gts_nil : GTs X W [] Z.tYes := pts_nil.imp fun σ H Q ⟨ι, ρ, S, s, r, p⟩ => Po.ret p s rfl
theorem gts_one {t : ST} (h : GT X W c t) : GTs X W [c] t := pts_one h
abbrev W0 : WX := fun _ _ _ _ => False
theorem lcL_step {chk : Store → Prop} {g : SG} {t : ST} {m : SE} {l : Nat} {x : D} {r : List D} {ρ : Env} {S : Store} (hc : chk S) : lcL chk g t m l (x :: r) ρ S = (match g x ρ S with
      | none => none
      | some (ρ1, S1) => Z.bq (t ρ1 S1) fun b S2 => if b = true then Z.bq (m ρ1 S2) fun y S3 => (match S3[l]? with
            | some (.lst acc) => if acc.length < LINE then lcL chk g t m l r ρ (S3.set l (.lst (acc ++ [y]))) else none
            | _ => none)
          else lcL chk g t m l r ρ S2) := by
  rw [lcL, if_pos hc]
  all_goals rfl
theorem lc_read {it : SI} {g : SG} {t : ST} {m : SE} {own sl : List Nat} {σ : L2.St} {H : Hp} {Q : VK} (hsl : ∀ i ∈ sl, i ∈ own)
    (h : tE X.KW X.mg W (eLc it g t m own) σ H Q) : tLc (tI X.KW X.mg W it) (tG X.KW g sl) (tT X.KW X.mg W0 t) (tE X.KW X.mg W0 m) own σ H Q := by
  obtain ⟨ι, ρ, S, s, r, p⟩ := h
  refine ⟨ι, ρ, S, s, r, ?_⟩
  unfold eLc at p
  match g0 : it ρ S, p with
  | none, p => exact p
  | some (.ex _ _), p => exact p
  | some (.ok J S1), p =>
  rw [bd_ok] at p
  intro ι1 H1 j e1 s1 r1 Da hD
  have p := Po.mono e1 p
  have hl1 : ι1.length = S1.length := s1.len
  have eD : Ext ι1 H1 (ι1 ++ [Da]) (upd H1 Da (.lst [])) := ext_new hD
  have r2 := ((r.ext e1).ext eD).wipe own
  have atD : ∀ {ι' H'}, Ext (ι1 ++ [Da]) (upd H1 Da (.lst [])) ι' H' → ι'[S1.length]? = some Da := fun e => e.at (by rw [← hl1, List.getElem?_append_right (Nat.le_refl _)]; simp)
  refine ⟨fun i n H' => ∃ ι' S', Ext (ι1 ++ [Da]) (upd H1 Da (.lst [])) ι' H' ∧ Sim X.KW ι' S' H' ∧ n = J.xs.length - i ∧ i ≤ J.xs.length ∧ Po (Rep X.KW) X.KW X.mg ι' H' Q (fun cls d H' => W cls d σ H') (lcL J.chk g t m S1.length (J.xs.drop i) (Z.wipe ρ own) S'),
    ⟨J.xs.length, _, _, .refl, s1.newL hD (by rw [RepL]), rfl, Nat.zero_le _, Po.mono eD p⟩, ?_⟩
  rintro i n H' ⟨ι', S', e', s', hn, hi, p'⟩
  by_cases hck : J.chk S'
  rotate_left
  · exfalso
    cases q : J.xs.drop i with
    | nil => rw [q, lcL, if_neg hck] at p'; exact p'
    | cons x t => rw [q, lcL, if_neg hck] at p'; exact p'
  obtain ⟨hitem, hstop⟩ := r1 ι' H' S' (eD.trans e') s' hck
  by_cases hlt : i < J.xs.length
  · refine .inr ⟨(hitem i _ (List.getElem?_eq_getElem hlt)).1, ?_⟩
    rw [List.drop_eq_getElem_cons hlt, lcL_step hck] at p'
    match q : g J.xs[i] (Z.wipe ρ own) S', p' with
    | some (ρ2, S2), p' =>
      dsimp only at p'
      refine ⟨fun H3 => ∃ ι3 S3, Ext (ι1 ++ [Da]) (upd H1 Da (.lst [])) ι3 H3 ∧ Sim X.KW ι3 S3 H3 ∧ Po (Rep X.KW) X.KW X.mg ι3 H3 Q (fun cls d H' => W cls d σ H') (lcL J.chk g t m S1.length (J.xs.drop (i + 1)) (Z.wipe ρ own) S3),
        fun H3 ⟨ι3, S3, a1, a2, a3⟩ => ⟨n - 1, by omega, ι3, S3, a1, a2, by omega, by omega, a3⟩, fun v H2 y => ?_⟩
      obtain ⟨e2, s2, rv⟩ := (hitem i _ (List.getElem?_eq_getElem hlt)).2 v H2 y
      refine ⟨ι', Z.wipe ρ own, S', J.xs[i], ρ2, S2, s2, (r2.ext e').ext e2, rv, q, fun ι3 H3 σ3 e3 s3 r3 o3 => ⟨?_, ?_⟩⟩
      · rw [o3.wipe hsl]
        apply List.ext_getElem?
        intro k
        rw [wipe_get, wipe_get, L2.wipe_length]
        by_cases hk : k ∈ own ∧ k < σ.length <;> simp [hk]
      have p' := Po.mono (e2.trans e3) p'
      have eT := (e'.trans e2).trans e3
      refine ⟨ι3, ρ2, S2, s3, r3, ?_⟩
      match q2 : t ρ2 S2, p' with
      | none, p' => exact p'
      | some (.ex _ _), p' => exact p'.elim
      | some (.ok b S4), p' =>
        rw [bq_ok] at p'
        intro ι4 H4 x e4 s4 r4
        obtain rfl : x = b := r4
        have p' := Po.mono e4 p'
        cases x with
        | false => rw [if_neg Bool.false_ne_true] at p' ⊢; exact ⟨ι4, S4, eT.trans e4, s4, p'⟩
        | true =>
          rw [if_pos rfl] at p' ⊢
          refine ⟨ι4, ρ2, S4, s4, r3.ext e4, ?_⟩
          match q5 : m ρ2 S4, p' with
          | none, p' => exact p'
          | some (.ex _ _), p' => exact p'.elim
          | some (.ok d S5), p' =>
            rw [bq_ok] at p'
            intro ι5 H5 v5 e5 s5 r5
            have p' := Po.mono e5 p'
            have e5T := (eT.trans e4).trans e5
            match q6 : S5[S1.length]?, p' with
            | some (.lst acc), p' =>
              dsimp only at p'
              by_cases hz : acc.length < LINE
              rotate_left
              · rw [if_neg hz] at p'; exact p'.elim
              rw [if_pos hz] at p'
              obtain ⟨vs, hv, hr⟩ := s5.get (atD e5T) q6
              refine ⟨vs, hv, by rw [hr.length]; rw [LINE_eq] at hz; exact hz, ?_⟩
              have em : Ext ι5 H5 ι5 (upd H5 Da (.lst (vs ++ [v5]))) := ext_mut hv trivial
              exact ⟨ι5, S5.set S1.length (.lst (acc ++ [d])), e5T.trans em, s5.put (atD e5T) ⟨_, upd_same, RepL.ext em _ _ (hr.append (RepL.one r5))⟩ ⟨_, hv, trivial⟩, Po.mono em p'⟩
            | some (.dct _), p' => exact p'.elim
            | some (.st _), p' => exact p'.elim
            | some (.ins _ _), p' => exact p'.elim
            | some (.exn _), p' => exact p'.elim
            | some (.dkl _), p' => exact p'.elim
            | some (.dk _), p' => exact p'.elim
            | none, p' => exact p'.elim
  · have e : i = J.xs.length := by omega
    subst e
    refine .inl ⟨hstop, ?_⟩
    rw [List.drop_length, lcL, if_pos hck] at p'
    exact Po.ret p' s' (by rw [Rep]; exact ⟨Da, rfl, atD e'⟩)
end
end Z
namespace Z
open PySem PySem.Spec PyProof.Rows L2
section
variable {K : KW} {mg : Mg} {ι ι' ι'' : List Addr} {H H' : Hp}
theorem EnvR.start {N : List Str} {ds : List D} {vs : List V} (r : RepL K ι H ds vs) (hl : ds.length ≤ N.length) : EnvR K ι H (env0 N.length ds) (L2.start N vs) := by
  unfold env0 L2.start
  refine ⟨by simp [r.length], fun i d h => ?_⟩
  by_cases hi : i < ds.length
  · rw [List.getElem?_append_left (by simpa using hi), List.getElem?_map, List.getElem?_eq_getElem hi] at h
    simp only [Option.map_some, Option.some.injEq] at h
    obtain ⟨v, h1, h2⟩ := r.get (List.getElem?_eq_getElem hi)
    subst h
    refine ⟨v, ?_, h2⟩
    rw [List.getElem?_append_left (by rw [List.length_map, r.length]; exact hi), List.getElem?_map, h1]; rfl
  · rw [List.getElem?_append_right (by simpa using hi), List.getElem?_replicate] at h
    split at h <;> cases h
end
section
variable {P : Program} {w : World} {K : PySem.W.Frag} {mg : Mg} {base : Heap}
abbrev cx (P : Program) (w : World) (K : PySem.W.Frag) (mg : Mg) (base : Heap) (N : List Str) (qual : Str) (st : Stmt) (f : Addr) (cdv : Value) (A : Around) (outer : List PySem.Env) (s : Shared) (H : Hp) (E : XK) : Cx :=
  cxOf (L2.CX P w) P w K mg base N qual (defScope st) f cdv A outer s H E
abbrev wE (E : XK) : WX := fun cls d _ H => E cls d H
theorem gf_of {x : Str} {f : Addr} {fd : FuncData} {ps : List Str} {k : Nat} {F : Fn} (hm : mg x = some (.ref f)) (kp : PySem.W.keepIn K (.ref f) = true) (b : Binds K fd ps []) (h : FnG P w K mg base (L2.CX P w) k f fd ps (spF ⟨K, P, w⟩ mg F)) : GF P w K mg base x k F := ⟨f, fd, ps, hm, kp, b, h⟩
end
section
variable {X : Cx} {W : WX} {pos : Pos}
theorem ge_lc {elt tg iter : Expr} {ifs : List Expr} {scope : Scope} (own : List (Str × Nat)) {it : SI} {g : SG} {sl : List Nat} {t : ST} {m : SE} (hc : X.calm = true) (hN : X.N.Nodup) (hi : GI X W tg iter it) (ok : BlkOk X.N X.env.scope scope own)
    (hg : ∀ (s : Shared) (H : Hp) (C : Addr) (cl : List (Str × Addr)) (fp : List Addr), GG (X.blk s H scope (compEnvC scope cl C X.env) fp) tg g sl)
    (ht : ∀ (s : Shared) (H : Hp) (C : Addr) (cl : List (Str × Addr)) (fp : List Addr), GTs (X.blk s H scope (compEnvC scope cl C X.env) fp) W0 ifs t)
    (he : ∀ (s : Shared) (H : Hp) (C : Addr) (cl : List (Str × Addr)) (fp : List Addr), GE (X.blk s H scope (compEnvC scope cl C X.env) fp) W0 elt m)
    (hsl : ∀ i ∈ sl, i ∈ own.map (·.2) := by decide) (hs : ∀ x, foldedSetIterable iter X.env x = pure x := by intro _; rfl) : GE X W (.ListComp elt [⟨tg, iter, ifs, 0⟩] scope pos) (eLc it g t m (own.map (·.2))) :=
  L2.PE.imp (pe_lc (g := tG X.KW g sl) (tt := tT X.KW X.mg W0 t) (te := tE X.KW X.mg W0 m) hc hN hi ok hg ht he hs) fun σ H Q h => lc_read hsl h
end
end Z
namespace Z
open PySem PySem.Spec PyProof.Rows L2
mutual
def PD.py : PD → PyData
  | .non => .none
  | .bl b => .bool b
  | .int i => .int i
  | .str s => .str (Z.str s)
  | .lst xs => .list (pyL xs)
  | .tup xs => .tuple (pyL xs)
def pyL : List PD → List PyData
  | [] => []
  | x :: xs => PD.py x :: pyL xs
end
mutual
def PD.asc : PD → Prop
  | .str s => ∀ c ∈ s, c < 128
  | .lst xs => ascL xs
  | .tup xs => ascL xs
  | _ => True
def ascL : List PD → Prop
  | [] => True
  | x :: xs => PD.asc x ∧ ascL xs
end
theorem str_beq (a b : List Nat) : (Z.str a == Z.str b) = (a == b) := by
  by_cases h : a = b
  · subst h; simp
  · have h' : Z.str a ≠ Z.str b := fun e => h (by have := congrArg (fun z : Str => z.cps.toList) e; simpa using this)
    rw [beq_eq_false_iff_ne.mpr h, beq_eq_false_iff_ne.mpr h']
mutual
theorem py_eqv : ∀ x y : PD, PyData.eqv x.py y.py = x.eqv y
  | .non, y => by cases y <;> simp [PD.py, PyData.eqv, PD.eqv]
  | .bl a, y => by cases y <;> simp [PD.py, PyData.eqv, PD.eqv, b2i]
  | .int i, y => by cases y <;> simp [PD.py, PyData.eqv, PD.eqv, b2i]
  | .str s, y => by cases y <;> simp [PD.py, PyData.eqv, PD.eqv, str_beq]
  | .lst xs, y => by cases y <;> simp [PD.py, PyData.eqv, PD.eqv, py_eqvL xs]
  | .tup xs, y => by cases y <;> simp [PD.py, PyData.eqv, PD.eqv, py_eqvL xs]
theorem py_eqvL : ∀ xs ys : List PD, PyData.eqvAll (pyL xs) (pyL ys) = eqvL xs ys
  | [], ys => by cases ys <;> simp [pyL, PyData.eqvAll, eqvL]
  | x :: xs, ys => by cases ys <;> simp [pyL, PyData.eqvAll, eqvL, py_eqv x, py_eqvL xs]
end
mutual
theorem py_depth : ∀ x : PD, x.py.depth = x.dep
  | .non => rfl
  | .bl _ => rfl
  | .int _ => rfl
  | .str _ => rfl
  | .lst xs => by simp only [PD.py, PyData.depth, PD.dep, py_depthL xs]
  | .tup xs => by simp only [PD.py, PyData.depth, PD.dep, py_depthL xs]
theorem py_depthL : ∀ xs : List PD, PyData.depthAll (pyL xs) = depL xs
  | [] => rfl
  | x :: xs => by simp only [pyL, PyData.depthAll, depL, py_depth x, py_depthL xs]
end
mutual
theorem py_lay : ∀ x : PD, x.asc → x.py.canLay0 = true
  | .non, _ => rfl
  | .bl _, _ => rfl
  | .int _, _ => rfl
  | .str s, h => by
    rw [PD.asc] at h
    rw [PD.py, PyData.canLay0]
    unfold PyData.strOk
    rw [Array.all_eq_true']
    intro c hc
    exact decide_eq_true (Nat.lt_trans (h c (by simpa using hc)) (by decide))
  | .lst xs, h => by rw [PD.asc] at h; rw [PD.py, PyData.canLay0]; exact py_layL xs h
  | .tup xs, h => by rw [PD.asc] at h; rw [PD.py, PyData.canLay0]; exact py_layL xs h
theorem py_layL : ∀ xs : List PD, ascL xs → PyData.canLayAll0 (pyL xs) = true
  | [], _ => rfl
  | x :: xs, h => by rw [ascL] at h; rw [pyL, PyData.canLayAll0, py_lay x h.1, py_layL xs h.2]; rfl
end
theorem py_shaped {x : PD} (h : x.asc) (d : x.dep ≤ 64) : SeqAt.shaped x.py = true := by
  unfold SeqAt.shaped
  rw [py_lay x h, py_depth]
  simpa using d
theorem pyL_map : ∀ xs : List PD, pyL xs = xs.map PD.py
  | [] => rfl
  | x :: xs => by simp [pyL, pyL_map xs]
section
variable {K : KW} {ι : List Addr} {H : Hp}
mutual
theorem pd_ok {g : Nat → Option PD} (hg : ∀ n y a, g n = some y → ι[n]? = some a → Dp K H (.ref a) y.py ∧ y.asc) : ∀ (d : D) (v : V) (x : PD), Rep K ι H d v → d.pd g = some x → Dp K H v x.py ∧ x.asc
  | .non, v, x, r, h => by rw [Rep] at r; rw [D.pd] at h; cases h; subst r; exact ⟨.non, trivial⟩
  | .bl b, v, x, r, h => by rw [Rep] at r; rw [D.pd] at h; cases h; subst r; exact ⟨.bl b, trivial⟩
  | .int i, v, x, r, h => by rw [Rep] at r; rw [D.pd] at h; cases h; subst r; exact ⟨.int i, trivial⟩
  | .str s, v, x, r, h => by rw [Rep] at r; rw [D.pd] at h; cases h; obtain ⟨rfl, r⟩ := r; exact ⟨.str _, r⟩
  | .tup xs, v, x, r, h => by
    rw [Rep] at r
    rw [D.pd] at h
    obtain ⟨a, vs, rfl, r1, r2⟩ := r
    obtain ⟨ys, h1, rfl⟩ := Option.map_eq_some_iff.mp h
    obtain ⟨q1, q2⟩ := pdL_ok hg xs vs ys r2 h1
    exact ⟨.tup r1.sq q1, q2⟩
  | .fl xs, v, x, r, h => by
    rw [Rep] at r
    rw [D.pd] at h
    obtain ⟨a, vs, rfl, r1, r2⟩ := r
    obtain ⟨ys, h1, rfl⟩ := Option.map_eq_some_iff.mp h
    obtain ⟨q1, q2⟩ := pdL_ok hg xs vs ys r2 h1
    exact ⟨.lst r1.seq q1, q2⟩
  | .ref n, v, x, r, h => by
    rw [Rep] at r
    rw [D.pd] at h
    obtain ⟨a, rfl, r1⟩ := r
    exact hg n x a h r1
  | .raw _, v, x, r, h => by rw [D.pd] at h; cases h
theorem pdL_ok {g : Nat → Option PD} (hg : ∀ n y a, g n = some y → ι[n]? = some a → Dp K H (.ref a) y.py ∧ y.asc) : ∀ (ds : List D) (vs : List V) (xs : List PD), RepL K ι H ds vs → pdL g ds = some xs → DpAll K H vs (pyL xs) ∧ ascL xs
  | [], vs, xs, r, h => by rw [RepL] at r; rw [pdL] at h; cases h; subst r; exact ⟨.nil, trivial⟩
  | d :: ds, vs, xs, r, h => by
    rw [RepL] at r
    rw [pdL] at h
    obtain ⟨v, t, rfl, r1, r2⟩ := r
    match g1 : d.pd g, g2 : pdL g ds, h with
    | some y, some ys, h =>
      cases h
      obtain ⟨a1, a2⟩ := pd_ok hg d v y r1 g1
      obtain ⟨b1, b2⟩ := pdL_ok hg ds t ys r2 g2
      exact ⟨.cons a1 b1, a2, b2⟩
end
theorem rdR_ok {S : Store} (s : Sim K ι S H) : ∀ (n : Nat) (r : Nat) (y : PD) (a : Addr), rdR n S r = some y → ι[r]? = some a → Dp K H (.ref a) y.py ∧ y.asc
  | 0, _, _, _, h, _ => by cases h
  | n + 1, r, y, a, h, ha => by
    unfold rdR at h
    match g : S[r]?, h with
    | some (.lst xs), h =>
      obtain ⟨ys, h1, rfl⟩ := Option.map_eq_some_iff.mp h
      obtain ⟨vs, e1, e2⟩ := s.get ha g
      obtain ⟨q1, q2⟩ := pdL_ok (rdR_ok s n) xs vs ys e2 h1
      exact ⟨.lst (SqL.of e1) q1, q2⟩
theorem dat_ok {S : Store} (s : Sim K ι S H) {d : D} {v : V} {x : PD} (r : Rep K ι H d v) (h : dat S d = some x) : Dp K H v x.py ∧ x.asc := pd_ok (rdR_ok s 70) d v x r h
theorem seq_ok {S : Store} (s : Sim K ι S H) {d : D} {v : V} {xs : List D} (r : Rep K ι H d v) (h : seqOf S d = some xs) : ∃ a vs, v = .ref a ∧ (SqL K H a vs ∨ TupAt H a vs (fK xs)) ∧ RepL K ι H xs vs := by
  cases d with
  | tup ys => rw [Rep] at r; obtain ⟨a, vs, rfl, r1, r2⟩ := r; cases h; exact ⟨a, vs, rfl, .inr r1, r2⟩
  | fl ys => rw [Rep] at r; obtain ⟨a, vs, rfl, r1, r2⟩ := r; cases h; exact ⟨a, vs, rfl, .inl r1.seq, r2⟩
  | ref n =>
    rw [Rep] at r
    obtain ⟨a, rfl, r1⟩ := r
    unfold seqOf at h
    dsimp only at h
    split at h
    · rename_i g
      cases h
      obtain ⟨vs, e1, e2⟩ := s.get r1 g
      exact ⟨a, vs, rfl, .inl (SqL.of e1), e2⟩
    · cases h
  | _ => cases h
theorem lst_ok {S : Store} (s : Sim K ι S H) {n : Nat} {v : V} {xs : List D} (r : Rep K ι H (.ref n) v) (h : S[n]? = some (.lst xs)) : ∃ a vs, v = .ref a ∧ ι[n]? = some a ∧ H a = some (.lst vs) ∧ RepL K ι H xs vs := by
  rw [Rep] at r
  obtain ⟨a, rfl, r1⟩ := r
  obtain ⟨vs, e1, e2⟩ := s.get r1 h
  exact ⟨a, vs, rfl, r1, e1, e2⟩
theorem Rep.str {s : List Nat} {v : V} (r : Rep K ι H (.str s) v) : v = .str (Z.str s) ∧ ∀ c ∈ s, c < 128 := by rw [Rep] at r; exact r
theorem RepL.nil {vs : List V} (r : RepL K ι H [] vs) : vs = [] := by rw [RepL] at r; exact r
theorem RepL.cons {d : D} {ds : List D} {vs : List V} (r : RepL K ι H (d :: ds) vs) : ∃ v r, vs = v :: r ∧ Rep K ι H d v ∧ RepL K ι H ds r := by rw [RepL] at r; exact r
theorem RepL.set {v : V} {d : D} (q : Rep K ι H d v) : ∀ {ds : List D} {vs : List V} (i : Nat), RepL K ι H ds vs → RepL K ι H (ds.set i d) (vs.set i v)
  | [], vs, i, r => by rw [r.nil]; simp [RepL]
  | x :: xs, vs, i, r => by
    obtain ⟨u, t, rfl, r1, r2⟩ := r.cons
    cases i with
    | zero => rw [List.set_cons_zero, List.set_cons_zero, RepL]; exact ⟨v, t, rfl, q, r2⟩
    | succ i => rw [List.set_cons_succ, List.set_cons_succ, RepL]; exact ⟨u, _, rfl, r1, RepL.set q i r2⟩
theorem RepL.sub {ds ds' : List D} {vs vs' : List V} (r : RepL K ι H ds vs) (hl : ds'.length = vs'.length) (h : ∀ (i : Nat) (d : D) (v : V), ds'[i]? = some d → vs'[i]? = some v → ∃ j : Nat, ds[j]? = some d ∧ vs[j]? = some v) : RepL K ι H ds' vs' :=
  .of_get hl.symm fun i d v h1 h2 => by
    obtain ⟨j, a, b⟩ := h i d v h1 h2
    obtain ⟨u, c, e⟩ := r.get a
    rw [b] at c; cases c
    exact e
theorem RepL.drop {ds : List D} {vs : List V} (r : RepL K ι H ds vs) (n : Nat) : RepL K ι H (ds.drop n) (vs.drop n) := r.sub (by simp [r.length]) fun i d v h1 h2 => ⟨n + i, by simpa using h1, by simpa using h2⟩
theorem RepL.take {ds : List D} {vs : List V} (r : RepL K ι H ds vs) (n : Nat) : RepL K ι H (ds.take n) (vs.take n) := r.sub (by simp [r.length]) fun i d v h1 h2 => by
  rw [List.getElem?_take] at h1 h2
  by_cases hi : i < n
  · exact ⟨i, by simpa [hi] using h1, by simpa [hi] using h2⟩
  · simp [hi] at h1
theorem RepL.eraseIdx {ds : List D} {vs : List V} (r : RepL K ι H ds vs) (n : Nat) : RepL K ι H (ds.eraseIdx n) (vs.eraseIdx n) := r.sub (by simp [List.length_eraseIdx, r.length]) fun i d v h1 h2 => by
  rw [List.getElem?_eraseIdx] at h1 h2
  by_cases hi : i < n
  · exact ⟨i, by simpa [hi] using h1, by simpa [hi] using h2⟩
  · exact ⟨i + 1, by simpa [hi] using h1, by simpa [hi] using h2⟩
theorem RepL.flat {ds : List D} {vs : List V} (r : RepL K ι H ds vs) : ∀ n : Nat, RepL K ι H (List.replicate n ds).flatten (List.replicate n vs).flatten
  | 0 => by simp [RepL]
  | n + 1 => by simp only [List.replicate_succ, List.flatten_cons]; exact r.append (RepL.flat r n)
theorem RepL.cut {ds : List D} {vs : List V} (r : RepL K ι H ds vs) (lo hi : Option Int) : RepL K ι H (Z.cut ds lo hi) (cutV vs lo hi) := by
  unfold Z.cut cutV
  have e : ∀ n d o, Z.sIx n d o = HT.sIx n d o := fun n d o => by cases o <;> rfl
  rw [e, e, r.length]
  exact (r.drop _).take _
end
section
variable {X : Cx}
theorem no_add : NoEx addD := by
  intro d e S c S'
  unfold addD
  split <;> (try split) <;> (try split) <;> simp [new1]
theorem zo_add : OpR X (binaryOp .Add) (r2 X addD) := by
  intro pins s σ H x y v u Q I rx ry ⟨ι, S, d, e, sm, rd, re, po⟩
  cases d <;> cases e <;> first
    | exact False.elim po
    | skip
  case int.int i j =>
    rw [Rep] at rd re
    exact op_add pins s σ H _ _ v u Q I rx ry ⟨i, j, rd, re, Po.ret po sm (by rw [Rep])⟩
  case str.str a b =>
    obtain ⟨rfl, h1⟩ := rd.str
    obtain ⟨rfl, h2⟩ := re.str
    dsimp only [addD] at po
    by_cases hl : a.length + b.length ≤ LINE
    · rw [if_pos hl] at po
      refine op_add_str pins s σ H _ _ v u Q I rx ry ⟨_, _, rfl, rfl, by rw [LINE_eq] at hl; simpa [Str.length, sizeLine] using hl, Po.ret po sm ?_⟩
      rw [Rep]
      refine ⟨?_, fun c hc => (List.mem_append.mp hc).elim (h1 c) (h2 c)⟩
      show V.str (⟨a.toArray ++ b.toArray⟩ : Str) = _
      simp
    · rw [if_neg hl] at po; exact po.elim
  case tup.tup a b =>
    rw [Rep] at rd re
    obtain ⟨p, vs, rfl, h1, h2⟩ := rd
    obtain ⟨q, ws, rfl, h3, h4⟩ := re
    dsimp only [addD] at po
    by_cases hl : a.length + b.length ≤ LINE
    · rw [if_pos hl] at po
      refine op_cat2 pins s σ H _ _ v u Q I rx ry ⟨p, q, vs, ws, rfl, rfl, h1.sq, h3.sq, by rw [h2.length, h4.length]; rw [LINE_eq] at hl; exact hl, fun e => ?_, fun _ e => ?_, fun _ _ t ht => ?_⟩
      · subst e
        have : a = [] := List.eq_nil_of_length_eq_zero (by rw [← h2.length]; rfl)
        subst this
        exact Po.ret po sm (by rw [Rep]; exact ⟨q, ws, rfl, h3, by simpa using h4⟩)
      · subst e
        have : b = [] := List.eq_nil_of_length_eq_zero (by rw [← h4.length]; rfl)
        subst this
        exact Po.ret po sm (by rw [Rep, List.append_nil]; exact ⟨p, vs, rfl, h1, h2⟩)
      · exact sm.newTup ht (h2.append h4) po
    · rw [if_neg hl] at po; exact po.elim
  case ref.ref m n =>
    dsimp only [addD] at po
    match g1 : S[m]?, g2 : S[n]?, po with
    | some (.lst a), some (.lst b), po =>
      obtain ⟨p, vs, rfl, i1, e1, r1⟩ := lst_ok sm rd g1
      obtain ⟨q, ws, rfl, i2, e2, r2⟩ := lst_ok sm re g2
      dsimp only at po
      by_cases hl : a.length + b.length ≤ LINE
      · rw [if_pos hl] at po
        refine op_cat pins s σ H _ _ v u Q I rx ry ⟨p, q, vs, ws, rfl, rfl, e1, e2, by rw [r1.length, r2.length]; rw [LINE_eq] at hl; exact hl, fun t ht => ?_⟩
        exact Po.ret (Po.mono (ext_new (t := [t]) (o := .lst (vs ++ ws)) ht) po) (sm.newL ht (r1.append r2)) (Rep.newL sm)
      · rw [if_neg hl] at po; exact po.elim
theorem no_sub : NoEx subD := by intro d e S c S'; unfold subD; split <;> simp
theorem zo_sub : OpR X (binaryOp .Sub) (r2 X subD) := by
  intro pins s σ H x y v u Q I rx ry ⟨ι, S, d, e, sm, rd, re, po⟩
  cases d <;> cases e <;> first
    | exact False.elim po
    | skip
  case int.int i j =>
    rw [Rep] at rd re
    exact op_sub pins s σ H _ _ v u Q I rx ry ⟨i, j, rd, re, Po.ret po sm (by rw [Rep])⟩
theorem no_mul : NoEx mulD := by
  intro d e S c S'
  unfold mulD
  split <;> (try split) <;> (try split) <;> simp [new1]
theorem zo_mul : OpR X (binaryOp .Mult) (r2 X mulD) := by
  intro pins s σ H x y v u Q I rx ry ⟨ι, S, d, e, sm, rd, re, po⟩
  cases d <;> cases e <;> first
    | exact False.elim po
    | skip
  case int.int i j =>
    rw [Rep] at rd re
    dsimp only [mulD] at po
    by_cases hc : (small i ∨ small j) ∨ i.natAbs.log2 + j.natAbs.log2 < 1000000
    · rw [if_pos hc] at po
      have q := Po.ret (x := V.int (i * j)) po sm (by rw [Rep])
      rcases hc with hc | hc
      · exact op_mul pins s σ H _ _ v u Q I rx ry ⟨i, j, rd, re, by rw [small_iff, small_iff] at hc; exact hc, q⟩
      · exact op_mulW pins s σ H _ _ v u Q I rx ry ⟨i, j, rd, re, hc, q⟩
    · rw [if_neg hc] at po; exact po.elim
  case ref.int m k =>
    dsimp only [mulD] at po
    match g1 : S[m]?, po with
    | some (.lst a), po =>
      obtain ⟨p, vs, rfl, i1, e1, r1⟩ := lst_ok sm rd g1
      rw [Rep] at re
      dsimp only at po
      by_cases hl : -9223372036854775808 ≤ k ∧ k < 9223372036854775808 ∧ a.length * k.toNat ≤ LINE
      · rw [if_pos hl] at po
        refine op_rep pins s σ H _ _ v u Q I rx ry ⟨p, k, vs, rfl, re, e1, hl.1, hl.2.1, by rw [r1.length]; have := hl.2.2; rw [LINE_eq] at this; exact this, fun t ht => ?_⟩
        exact Po.ret (Po.mono (ext_new (t := [t]) (o := .lst (List.replicate k.toNat vs).flatten) ht) po) (sm.newL ht (r1.flat _)) (Rep.newL sm)
      · rw [if_neg hl] at po; exact po.elim
  case tup.int a k =>
    dsimp only [mulD] at po
    rw [Rep] at rd
    rw [Rep] at re
    obtain ⟨p, vs, rfl, h1, h2⟩ := rd
    by_cases hc : 0 < a.length ∧ a.length ≤ 1000 ∧ 2 ≤ k ∧ k ≤ 1000
    · rw [if_pos hc] at po
      refine op_rep2 pins s σ H _ _ v u Q I rx ry ⟨p, k, vs, rfl, re, h1.sq, fun e => by rw [← h2.length, e] at hc; exact absurd hc.1 (by decide), hc.2.2.1, hc.2.2.2, by rw [h2.length]; exact hc.2.1, fun t ht => ?_⟩
      exact sm.newTup ht (h2.flat _) po
    · rw [if_neg hc] at po; exact po.elim
theorem no_fdiv : NoEx fdivD := by intro d e S c S'; unfold fdivD; split <;> (try split) <;> simp
theorem zo_fdiv : OpR X (binaryOp .FloorDiv) (r2 X fdivD) := by
  intro pins s σ H x y v u Q I rx ry ⟨ι, S, d, e, sm, rd, re, po⟩
  cases d <;> cases e <;> first
    | exact False.elim po
    | skip
  case int.int i j =>
    rw [Rep] at rd re
    dsimp only [fdivD] at po
    by_cases hc : 0 < j ∧ j.natAbs.log2 < 9000
    · rw [if_pos hc] at po
      exact op_fdivW pins s σ H _ _ v u Q I rx ry ⟨i, j, rd, re, hc, Po.ret po sm (by rw [Rep])⟩
    · rw [if_neg hc] at po; exact po.elim
theorem no_mod : NoEx modD := by intro d e S c S'; unfold modD; split <;> (try split) <;> simp
theorem zo_mod : OpR X (binaryOp .Mod) (r2 X modD) := by
  intro pins s σ H x y v u Q I rx ry ⟨ι, S, d, e, sm, rd, re, po⟩
  cases d <;> cases e <;> first
    | exact False.elim po
    | skip
  case int.int i j =>
    rw [Rep] at rd re
    dsimp only [modD] at po
    by_cases hc : 0 < j
    · rw [if_pos hc] at po
      exact op_mod pins s σ H _ _ v u Q I rx ry ⟨i, j, rd, re, hc, Po.ret po sm (by rw [Rep])⟩
    · rw [if_neg hc] at po; exact po.elim
theorem no_pow : NoEx powD := by intro d e S c S'; unfold powD; split <;> (try split) <;> simp
theorem zo_pow : OpR X (binaryOp .Pow) (r2 X powD) := by
  intro pins s σ H x y v u Q I rx ry ⟨ι, S, d, e, sm, rd, re, po⟩
  cases d <;> cases e <;> first
    | exact False.elim po
    | skip
  case int.int i j =>
    rw [Rep] at rd re
    dsimp only [powD] at po
    by_cases hc : 0 ≤ j ∧ j ≤ 1000000 ∧ small i
    · rw [if_pos hc] at po
      have h3 := hc.2.2
      rw [small_iff] at h3
      exact op_pow pins s σ H _ _ v u Q I rx ry ⟨i, j, rd, re, ⟨hc.1, hc.2.1, by omega⟩, Po.ret po sm (by rw [Rep])⟩
    · rw [if_neg hc] at po; exact po.elim
theorem zo_cmp {op : CmpOp} {f : D → D → Store → M D} {p : Int → Int → Bool} (hop : OpR X (compareOp op) (rI0 fun i j => .bl (p i j))) (h : ∀ i j S, f (.int i) (.int j) S = some (.ok (.bl (p i j)) S))
    (h' : ∀ d e S, f d e S ≠ none → ∃ i j, d = .int i ∧ e = .int j) : OpR X (compareOp op) (r2 X f) := by
  intro pins s σ H x y v u Q I rx ry ⟨ι, S, d, e, sm, rd, re, po⟩
  obtain ⟨i, j, rfl, rfl⟩ := h' d e S fun z => by rw [z] at po; exact po
  rw [h] at po
  rw [Rep] at rd re
  exact hop pins s σ H _ _ v u Q I rx ry ⟨i, j, rd, re, Po.ret po sm (by rw [Rep])⟩
theorem no_lt : NoEx ltD := by intro d e S c S'; unfold ltD; split <;> simp
theorem no_le : NoEx leD := by intro d e S c S'; unfold leD; split <;> simp
theorem no_gt : NoEx gtD := by intro d e S c S'; unfold gtD; split <;> simp
theorem zo_lt : OpR X (compareOp .Lt) (r2 X ltD) := zo_cmp op_lt (fun _ _ _ => rfl) fun d e S h => by cases d <;> cases e <;> first | exact absurd rfl h | exact ⟨_, _, rfl, rfl⟩
theorem zo_le : OpR X (compareOp .LtE) (r2 X leD) := zo_cmp op_le (fun _ _ _ => rfl) fun d e S h => by cases d <;> cases e <;> first | exact absurd rfl h | exact ⟨_, _, rfl, rfl⟩
theorem zo_gt : OpR X (compareOp .Gt) (r2 X gtD) := zo_cmp op_gt (fun _ _ _ => rfl) fun d e S h => by cases d <;> cases e <;> first | exact absurd rfl h | exact ⟨_, _, rfl, rfl⟩
theorem no_eq : NoEx eqD := by intro d e S c S'; unfold eqD; split <;> (try split) <;> simp
theorem no_neL : NoEx neL := by
  intro d e S c S' h
  unfold neL at h
  split at h
  · split at h
    · split at h <;> cases h
    · cases h
  · cases h
theorem no_ne : NoEx neD := by
  intro d e S c S' h
  unfold neD at h
  split at h
  · split at h
    · cases h
    · exact no_neL _ _ _ _ _ h
  · cases h
theorem neL_inv {d e : D} {S : Store} (h : neL d e S ≠ none) : ∃ (n m : Nat) (xs ys : List D), d = .ref n ∧ e = .ref m ∧ S[n]? = some (.lst xs) ∧ S[m]? = some (.lst ys) ∧ ¬ xs.length = ys.length ∧ neL d e S = some (.ok (.bl true) S) := by
  unfold neL at h ⊢
  split at h
  · rename_i n m
    split at h
    · rename_i xs ys g1 g2
      split at h
      · exact absurd rfl h
      · rename_i hl
        refine ⟨n, m, xs, ys, rfl, rfl, g1, g2, hl, ?_⟩
        rw [if_neg hl]
    · exact absurd rfl h
  · exact absurd rfl h
theorem zo_eq (hu : X.A.units + 64 < cLine) : OpR X (compareOp .Eq) (r2 X eqD) := by
  intro pins s σ H x y v u Q I rx ry ⟨ι, S, d, e, sm, rd, re, po⟩
  unfold eqD at po
  match g1 : dat S d, g2 : dat S e, po with
  | some a, some b, po =>
    dsimp only at po
    by_cases hc : a.dep ≤ 64 ∧ b.dep ≤ 64
    · rw [if_pos hc] at po
      obtain ⟨q1, q2⟩ := dat_ok sm rd g1
      obtain ⟨q3, q4⟩ := dat_ok sm re g2
      refine op_eqD hu pins s σ H _ _ v u Q I rx ry ⟨_, _, q1, q3, py_shaped q2 hc.1, py_shaped q4 hc.2, ?_⟩
      rw [py_eqv]
      exact Po.ret po sm (by rw [Rep])
    · rw [if_neg hc] at po; exact po.elim
theorem zo_ne (hu : X.A.units + 64 < cLine) : OpR X (compareOp .NotEq) (r2 X neD) := by
  intro pins s σ H x y v u Q I rx ry ⟨ι, S, d, e, sm, rd, re, po⟩
  unfold neD at po
  match g1 : dat S d, g2 : dat S e, po with
  | some a, some b, po =>
    dsimp only at po
    by_cases hc : a.dep ≤ 64 ∧ b.dep ≤ 64
    · rw [if_pos hc] at po
      obtain ⟨q1, q2⟩ := dat_ok sm rd g1
      obtain ⟨q3, q4⟩ := dat_ok sm re g2
      refine op_neD hu pins s σ H _ _ v u Q I rx ry ⟨_, _, q1, q3, py_shaped q2 hc.1, py_shaped q4 hc.2, ?_⟩
      rw [py_eqv]
      exact Po.ret po sm (by rw [Rep])
    · rw [if_neg hc] at po
      obtain ⟨n, m, xs, ys, rfl, rfl, g3, g4, hne, hr⟩ := neL_inv (fun z => by rw [z] at po; exact po)
      rw [hr] at po
      obtain ⟨p1, vs, rfl, i1, e1, r1⟩ := lst_ok sm rd g3
      obtain ⟨p2, us, rfl, i2, e2, r2⟩ := lst_ok sm re g4
      cases rx
      cases ry
      obtain ⟨its, rv, pl, _⟩ := I.list (SqL.of e1)
      obtain ⟨its2, rv2, pl2, _⟩ := I.list (SqL.of e2)
      have hsz : (its.toArray.size != its2.toArray.size) = true := by
        have q1 := rv.length
        have q2 := rv2.length
        have q3 := r1.length
        have q4 := r2.length
        simp
        omega
      exact (SeqAt.RcNeAt.lists_lengths pl.isList pl2.isList hsz (by omega)) _ _ _ _ ⟨.bl true, H, I, rfl, Po.ret po sm (by rw [Rep])⟩
theorem rep_isNon {K : KW} {ι : List Addr} {H : Hp} {d : D} {v : V} (r : Rep K ι H d v) : decide (v = .non) = isNonB d := by
  cases d with
  | non => rw [Rep] at r; subst r; rfl
  | bl _ => rw [Rep] at r; subst r; rfl
  | int _ => rw [Rep] at r; subst r; rfl
  | str _ => rw [Rep] at r; obtain ⟨rfl, _⟩ := r; rfl
  | tup _ => rw [Rep] at r; obtain ⟨_, _, rfl, _⟩ := r; rfl
  | ref _ => rw [Rep] at r; obtain ⟨_, rfl, _⟩ := r; rfl
  | fl _ => rw [Rep] at r; obtain ⟨_, _, rfl, _⟩ := r; rfl
  | raw _ => rw [Rep] at r; obtain ⟨rfl, _⟩ := r; rfl
theorem no_is : NoEx isD := by intro d e S c S'; unfold isD; split <;> simp
theorem zo_is : OpR X (compareOp .Is) (r2 X isD) := by
  intro pins s σ H x y v u Q I rx ry ⟨ι, S, d, e, sm, rd, re, po⟩
  unfold isD at po
  split at po
  · rw [Rep] at re
    exact op_isN pins s σ H _ _ v u Q I rx ry ⟨re, by rw [rep_isNon rd]; exact Po.ret po sm (by rw [Rep])⟩
  · rename_i a b
    rw [Rep] at rd re
    refine op_isBl pins s σ H _ _ v u Q I rx ry ⟨a, b, rd, re, ?_⟩
    exact Po.ret po sm (by rw [Rep, Bool.beq_eq_decide_eq])
  · exact po.elim
theorem no_in : NoEx inD := by intro d e S c S'; unfold inD; split <;> simp
theorem no_nin : NoEx ninD := by intro d e S c S'; unfold ninD; split <;> simp
theorem inB_cases {x c : D} {S : Store} {b : Bool} (h : inB x c S = some b) : (∃ k z, x = .str [k] ∧ c = .str z ∧ b = decide (k ∈ z)) ∨
    (∃ n y ys, c = .ref n ∧ dat S x = some y ∧ dat S (.ref n) = some (.lst ys) ∧ y.dep ≤ 64 ∧ (PD.lst ys).dep ≤ 64 ∧ b = ys.any fun z => z.eqv y) := by
  unfold inB at h
  split at h
  · split at h
    · cases h; exact .inl ⟨_, _, rfl, rfl, rfl⟩
    · cases h
  · split at h
    · split at h
      · cases h; rename_i hc; exact .inr ⟨_, _, _, rfl, by assumption, by assumption, hc.1, hc.2, rfl⟩
      · cases h
    · cases h
  · cases h
theorem any_py (ys : List PD) (y : PD) : ((pyL ys).any fun z => PyData.eqv z y.py) = ys.any fun z => z.eqv y := by
  rw [pyL_map, List.any_map]
  congr 1
  funext z
  exact py_eqv z y
theorem zo_in (hu : X.A.units + 65 < cLine) : OpR X (compareOp .In) (r2 X inD) := by
  intro pins s σ H x y v u Q I rx ry ⟨ι, S, d, e, sm, rd, re, po⟩
  unfold inD at po
  cases g : inB d e S with
  | none => rw [g] at po; exact po.elim
  | some b =>
    rw [g] at po
    have q := Po.ret (x := V.bl b) po sm (by rw [Rep])
    rcases inB_cases g with ⟨k, z, rfl, rfl, rfl⟩ | ⟨n, y, ys, rfl, h1, h2, h3, h4, rfl⟩
    · obtain ⟨rfl, _⟩ := rd.str
      obtain ⟨rfl, _⟩ := re.str
      exact op_in_sign pins s σ H _ _ v u Q I rx ry ⟨k, Z.str z, rfl, rfl, by simpa using q⟩
    · obtain ⟨q1, q2⟩ := dat_ok sm rd h1
      obtain ⟨q3, q4⟩ := dat_ok sm re h2
      refine op_inD hu pins s σ H _ _ v u Q I rx ry ⟨_, _, q1, q3, py_shaped q2 h3, py_shaped q4 h4, ?_⟩
      rw [any_py]
      exact q
theorem zo_nin (hu : X.A.units + 65 < cLine) : OpR X (compareOp .NotIn) (r2 X ninD) := by
  intro pins s σ H x y v u Q I rx ry ⟨ι, S, d, e, sm, rd, re, po⟩
  unfold ninD at po
  cases g : inB d e S with
  | none => rw [g] at po; exact po.elim
  | some b =>
    rw [g] at po
    have q := Po.ret (x := V.bl (!b)) po sm (by rw [Rep])
    rcases inB_cases g with ⟨k, z, rfl, rfl, rfl⟩ | ⟨n, y, ys, rfl, h1, h2, h3, h4, rfl⟩
    · obtain ⟨rfl, _⟩ := rd.str
      obtain ⟨rfl, _⟩ := re.str
      exact op_notIn_sign pins s σ H _ _ v u Q I rx ry ⟨k, Z.str z, rfl, rfl, by simpa using q⟩
    · obtain ⟨q1, q2⟩ := dat_ok sm rd h1
      obtain ⟨q3, q4⟩ := dat_ok sm re h2
      refine op_notInD hu pins s σ H _ _ v u Q I rx ry ⟨_, _, q1, q3, py_shaped q2 h3, py_shaped q4 h4, ?_⟩
      rw [any_py]
      exact q
end
end Z
namespace Z
open PySem PySem.Spec PyProof.Rows L2
section
variable {X : Cx} {W : WX} {a b c e : Expr} {ma mb mc : SE} {pos : Pos}
theorem atI_eq {α : Type} (xs : List α) (i : Int) : L2.atI xs i = Z.atI xs i := rfl
theorem no_ix : NoEx ixD := by
  intro d e S c S'
  unfold ixD
  split <;> (try split) <;> (try split) <;> (try split) <;> (try split) <;> simp
theorem RepL.atI {K : KW} {ι : List Addr} {H : Hp} {ds : List D} {vs : List V} {i : Int} {d : D} (r : RepL K ι H ds vs) (h : Z.atI ds i = some d) : ∃ v, L2.atI vs i = some v ∧ Rep K ι H d v := by
  unfold Z.atI at h
  obtain ⟨j, h1, h2⟩ := Option.bind_eq_some_iff.mp h
  obtain ⟨v, h3, h4⟩ := r.get h2
  refine ⟨v, ?_, h4⟩
  unfold L2.atI
  rw [r.length]
  show (Z.ixN ds.length i).bind _ = _
  rw [h1]
  exact h3
theorem zx_ix : IxR X (r2 X ixD) := by
  intro value slice pins s σ H x y v u Q I rx ry ⟨ι, S, d, e, sm, rd, re, po⟩ hs
  unfold ixD at po
  split at po
  · rename_i i
    rw [Rep] at re
    split at po
    · rename_i z
      split at po
      · rename_i hl
        split at po
        · rename_i c hc
          obtain ⟨rfl, h2⟩ := rd.str
          have hm : c ∈ z := by
            unfold Z.atI at hc
            obtain ⟨j, _, q⟩ := Option.bind_eq_some_iff.mp hc
            exact List.mem_of_getElem? q
          exact ix_str value slice pins s σ H _ _ v u Q I rx ry ⟨_, i, c, rfl, re, by rw [LINE_eq] at hl; simpa [Str.length, sizeLine] using hl, by simpa [atI_eq] using hc, Po.ret po sm (by rw [Rep]; exact ⟨rfl, fun k hk => by simp at hk; subst hk; exact h2 _ hm⟩)⟩ hs
        · exact po.elim
      · exact po.elim
    · split at po
      · rename_i xs hx
        split at po
        · rename_i w hw
          obtain ⟨p, vs, rfl, h1, h2⟩ := seq_ok sm rd hx
          obtain ⟨t, h3, h4⟩ := h2.atI hw
          rcases h1 with h1 | h1
          · exact ix_list value slice pins s σ H _ _ v u Q I rx ry ⟨p, vs, i, t, rfl, re, h1, h3, Po.ret po sm h4⟩ hs
          · exact ix_tup value slice pins s σ H _ _ v u Q I rx ry ⟨p, vs, i, t, rfl, re, h1.sq, h3, Po.ret po sm h4⟩ hs
        · exact po.elim
      · exact po.elim
  · exact po.elim
theorem ge_ix (ha : GE X W a ma) (hb : GE X W b mb) (hs : PlainIx b := by exact fun _ _ => rfl) : GE X W (.Subscript a b pos) (e2 ixD ma mb) := (pe_ix zx_ix ha hb hs).imp fun σ H Q h => e2_read no_ix h
/-- a slice's part -/
def prt : Option SE → Env → Store → M (Option Int)
  | none, _, S => some (.ok none S)
  | some m, ρ, S => Z.bd (m ρ S) fun x S2 => match x with | .int i => some (.ok (some i) S2) | _ => none
def tO (K : KW) (mg : Mg) (W : WX) (o : Option SE) : TO := fun σ H Q => ∃ ι ρ S, Sim K ι S H ∧ EnvR K ι H ρ σ ∧ Po (fun _ _ a b => b = a) K mg ι H Q (fun cls d H' => W cls d σ H') (prt o ρ S)
def GO (X : Cx) (W : WX) (e : Option Expr) (o : Option SE) : Prop := PO X e (tO X.KW X.mg W o)
theorem go_none : GO X W none none := ⟨fun pins s σ H Q I ⟨ι, ρ, S, sm, r, p⟩ => (po_none (X := X)).run pins s σ H Q I (Po.ret p sm rfl)⟩
theorem go_some (h : GE X W e ma) : GO X W (some e) (some ma) := ⟨fun pins s σ H Q I ⟨ι, ρ, S, sm, r, p⟩ => (po_some h).run pins s σ H Q I ⟨ι, ρ, S, sm, r, Po.bd p fun d S1 ι1 H1 x e1 s1 r1 p1 => by
  cases d with
  | int i => rw [Rep] at r1; exact ⟨i, r1, Po.ret p1 s1 rfl⟩
  | _ => exact p1.elim⟩⟩
theorem zs_sl : SlR X (fun x lo hi H Q => ∃ ι S d, Sim X.KW ι S H ∧ Rep X.KW ι H d x ∧ Po (Rep X.KW) X.KW X.mg ι H Q (fun _ _ _ => False) (slD lo hi d S)) := by
  intro pins s σ H x v vl vu lo hi sl Q I rx hs pl pu ⟨ι, S, d, sm, rd, po⟩
  unfold slD at po
  split at po
  · rename_i z
    split at po
    · rename_i hl
      obtain ⟨rfl, h2⟩ := rd.str
      refine sl_str pins s σ H _ v vl vu lo hi sl Q I rx hs pl pu ⟨_, rfl, by rw [LINE_eq] at hl; simpa [Str.length, sizeLine] using hl, Po.ret po sm ?_⟩
      rw [Rep]
      refine ⟨?_, fun k hk => h2 k ?_⟩
      · unfold cutS cut
        have e : ∀ n d o, Z.sIx n d o = HT.sIx n d o := fun n d o => by cases o <;> rfl
        simp only [e, Str.length]
        simp
      · unfold cut at hk
        exact List.mem_of_mem_drop (List.mem_of_mem_take hk)
    · exact po.elim
  · rename_i xs
    rw [Rep] at rd
    obtain ⟨p, vs, rfl, h1, h2⟩ := rd
    refine sl_tup2 pins s σ H _ v vl vu lo hi sl Q I rx hs pl pu ⟨p, vs, rfl, h1.sq, fun hw => ?_, fun _ t ht => ?_⟩
    · have hc : cutV vs lo hi = vs := by unfold cutV; rw [hw.1, hw.2]; simp
      refine Po.ret po sm ?_
      rw [Rep]
      have hcx : cut xs lo hi = xs := by
        have e : ∀ n d o, Z.sIx n d o = HT.sIx n d o := fun n d o => by cases o <;> rfl
        have hl := h2.length
        unfold cut
        rw [hl] at hw
        rw [e, e, hw.1, hw.2]
        simp
      rw [hcx]
      exact ⟨p, vs, rfl, h1, h2⟩
    · exact sm.newTup ht (h2.cut lo hi) po
  · split at po
    · rename_i g
      obtain ⟨p, vs, rfl, i1, e1, r1⟩ := lst_ok sm rd g
      refine sl_list pins s σ H _ v vl vu lo hi sl Q I rx hs pl pu ⟨p, vs, rfl, SqL.of e1, fun t ht => ?_⟩
      exact Po.ret (Po.mono (ext_new (t := [t]) (o := .lst (cutV vs lo hi)) ht) po) (sm.newL ht (r1.cut lo hi)) (Rep.newL sm)
    · exact po.elim
  · exact po.elim
theorem no_sl (lo hi : Option Int) (d : D) (S : Store) (c : String) (S' : Store) : slD lo hi d S ≠ some (.ex c S') := by
  unfold slD
  split <;> (try split) <;> simp [new1]
theorem ge_sl {lo hi : Option Expr} {ol oh : Option SE} {p2 : Pos} (he : GE X W e ma) (hl : GO X W lo ol) (hh : GO X W hi oh) : GE X W (.Subscript e (.Slice lo hi none p2) pos) (eSl ma ol oh) :=
  (pe_slice zs_sl he hl hh).imp fun σ H Q ⟨ι, ρ, S, s, r, p⟩ => by
    refine ⟨ι, ρ, S, s, r, Po.bd p fun d S1 ι1 H1 x e1 s1 r1 p1 => ?_⟩
    have p1 : Po (Rep X.KW) X.KW X.mg ι1 H1 Q (fun cls d H' => W cls d σ H') (Z.bd (prt ol ρ S1) fun l S3 => Z.bd (prt oh ρ S3) fun h S5 => slD l h d S5) := by
      cases ol <;> cases oh <;> exact p1
    refine ⟨ι1, ρ, S1, s1, r.ext e1, Po.bd p1 fun l S2 ι2 H2 y e2 s2 r2 p2 => ?_⟩
    obtain rfl : y = l := r2
    refine ⟨ι2, ρ, S2, s2, (r.ext e1).ext e2, Po.bd p2 fun h S3 ι3 H3 z e3 s3 r3 p3 => ?_⟩
    obtain rfl : z = h := r3
    exact ⟨ι3, S3, d, s3, Rep.ext e3 _ _ (Rep.ext e2 _ _ r1), p3.noex fun c S' => no_sl _ _ _ _ c S'⟩
theorem one_of {ds : List D} {vs : List V} {d : D} {K : KW} {ι : List Addr} {H : Hp} (r : RepL K ι H [d] vs) : ∃ v, vs = [v] ∧ Rep K ι H d v := by
  obtain ⟨v, t, rfl, h1, h2⟩ := r.cons
  rw [h2.nil]
  exact ⟨v, rfl, h1⟩
theorem no_len : NoExF lenF := by intro ds S c S'; unfold lenF; split <;> (try split) <;> simp
theorem zc_len : CallR X (.builtin "len") (rB X lenF) := by
  intro pins s σ H xs us Q I r ⟨ι, S, ds, sm, rd, po⟩
  unfold lenF at po
  split at po
  · rename_i z
    obtain ⟨v, rfl, h⟩ := one_of (ds := []) rd
    obtain ⟨rfl, _⟩ := h.str
    split at po
    · rename_i hl
      refine call_len_str pins s σ H _ us Q I r ⟨_, rfl, by rw [LINE_eq] at hl; simpa [Str.length, sizeLine] using hl, ?_⟩
      exact Po.ret po sm (by rw [Rep]; simp [Str.length])
    · exact po.elim
  · obtain ⟨v, rfl, h⟩ := one_of (ds := []) rd
    split at po
    · rename_i xs hx
      obtain ⟨p, vs, rfl, h1, h2⟩ := seq_ok sm h hx
      refine call_len_seq pins s σ H _ us Q I r ⟨p, vs, rfl, h1.imp id TupAt.sq, ?_⟩
      exact Po.ret po sm (by rw [Rep, h2.length])
    · exact po.elim
  · exact po.elim
theorem no_abs : NoExF absF := by intro ds S c S'; unfold absF; split <;> simp
theorem zc_abs : CallR X (.builtin "abs") (rB X absF) := by
  intro pins s σ H xs us Q I r ⟨ι, S, ds, sm, rd, po⟩
  unfold absF at po
  split at po
  · obtain ⟨v, rfl, h⟩ := one_of (ds := []) rd
    rw [Rep] at h
    exact call_abs pins s σ H _ us Q I r ⟨_, by rw [h], Po.ret po sm (by rw [Rep])⟩
  · exact po.elim
theorem bls_ok {K : KW} {ι : List Addr} {H : Hp} : ∀ {ds : List D} {vs : List V} {bs : List Bool}, RepL K ι H ds vs → blsOf ds = some bs → vs = bs.map V.bl
  | [], vs, bs, r, h => by rw [blsOf] at h; cases h; rw [r.nil]; rfl
  | d :: ds, vs, bs, r, h => by
    cases d with
    | bl b =>
      rw [blsOf] at h
      obtain ⟨cs, h1, rfl⟩ := Option.map_eq_some_iff.mp h
      obtain ⟨v, t, rfl, h2, h3⟩ := r.cons
      rw [Rep] at h2
      rw [h2, bls_ok h3 h1]
      rfl
    | _ => cases h
theorem no_all : NoExF allF := by intro ds S c S'; unfold allF; split <;> (try split) <;> (try split) <;> simp
theorem zc_all (hc : X.calm = true) : CallR X (.builtin "all") (rB X allF) := by
  intro pins s σ H xs us Q I r ⟨ι, S, ds, sm, rd, po⟩
  unfold allF at po
  split at po
  · split at po
    · rename_i g
      split at po
      · rename_i hb
        obtain ⟨v, rfl, h⟩ := one_of (ds := []) rd
        obtain ⟨p, vs, rfl, i1, e1, r1⟩ := lst_ok sm h g
        have := bls_ok r1 hb
        subst this
        exact cr_all hc pins s σ H _ us Q I r ⟨p, _, rfl, SqL.of e1, Po.ret po sm (by rw [Rep])⟩
      · exact po.elim
    · exact po.elim
  · exact po.elim
theorem no_list : NoExF listF := by intro ds S c S'; unfold listF; split <;> (try split) <;> simp [new1]
theorem zc_list : CallR X (.type "list") (rB X listF) := by
  intro pins s σ H xs us Q I r ⟨ι, S, ds, sm, rd, po⟩
  unfold listF at po
  split at po
  · obtain ⟨v, rfl, h⟩ := one_of (ds := []) rd
    split at po
    · rename_i xs hx
      obtain ⟨p, vs, rfl, h1, h2⟩ := seq_ok sm h hx
      refine call_list_of pins s σ H _ us Q I r ⟨p, vs, rfl, h1.imp id TupAt.sq, fun t ht => ?_⟩
      exact Po.ret (Po.mono (ext_new (t := [t]) (o := .lst vs) ht) po) (sm.newL ht h2) (Rep.newL sm)
    · exact po.elim
  · exact po.elim
def Ty.nm : Ty → String
  | .str => "str" | .int => "int" | .bool => "bool" | .tuple => "tuple" | .list => "list"
theorem ty_of {K : KW} {ι : List Addr} {H : Hp} {S : Store} {d : D} {v : V} {t : Ty} {b : Bool} (s : Sim K ι S H) (r : Rep K ι H d v) (h : isiB S t d = some b) : ∃ T : String, TyX K H v (.type T) ∧ PySem.W.kitOne K (.type T) (.type t.nm) = some b := by
  cases d with
  | non => rw [Rep] at r; subst r; cases h; exact ⟨_, .base .non, by cases t <;> exact kit_ty (by decide +kernel)⟩
  | bl x => rw [Rep] at r; subst r; exact ⟨_, .base (.bl x), by cases t <;> (cases h; exact kit_ty (by decide +kernel))⟩
  | int x => rw [Rep] at r; subst r; exact ⟨_, .base (.int x), by cases t <;> (cases h; exact kit_ty (by decide +kernel))⟩
  | str x => obtain ⟨rfl, _⟩ := r.str; exact ⟨_, .base (.str _), by cases t <;> (cases h; exact kit_ty (by decide +kernel))⟩
  | tup xs =>
    rw [Rep] at r
    obtain ⟨a, vs, rfl, h1, _⟩ := r
    refine ⟨"tuple", ?_, by cases t <;> (cases h; exact kit_ty (by decide +kernel))⟩
    cases hb : fK xs
    · rw [hb] at h1
      obtain ⟨o, _, h1⟩ := h1
      exact .fTuple h1
    · rw [hb] at h1
      exact .base (.tup h1)
  | fl xs =>
    rw [Rep] at r
    obtain ⟨a, vs, rfl, h1, _⟩ := r
    refine ⟨"list", ?_, by cases t <;> (cases h; exact kit_ty (by decide +kernel))⟩
    rcases h1 with ⟨o, h1⟩ | ⟨o, its, n, h1, h2, _⟩
    · exact .base (.frz h1)
    · exact .kList h1 h2
  | raw _ => cases h
  | ref n =>
    unfold isiB at h
    dsimp only at h
    split at h
    · rename_i g
      obtain ⟨p, vs, rfl, i1, e1, r1⟩ := lst_ok s r g
      exact ⟨"list", .base (.lst e1), by cases t <;> (cases h; exact kit_ty (by decide +kernel))⟩
    · cases h
/-- isinstance(e, T) -/
theorem ge_isi (t : Ty) {x T : Str} {p p2 : Pos} (he : GE X W e ma) (hg : Gl X x) (hm : X.mg x = none) (hv : bootBuiltins x = some (.builtin "isinstance")) (hg2 : Gl X T) (hm2 : X.mg T = none) (hv2 : bootBuiltins T = some (.type t.nm))
    (hn : x ≠ "__name__" := by decide) (hdb : (x == ("__debug__" : Str)) = false := by decide) (hn2 : T ≠ "__name__" := by decide) (hdb2 : (T == ("__debug__" : Str)) = false := by decide)
    (hs : starEach (e :: [.Name T p2]) X.env = (false, eval e X.env) :: starEach [.Name T p2] X.env := by rfl) (hpl : (backTo pos (starEach [.Name T p2] X.env)).any (·.1) = false := by rfl) : GE X W (.Call (.Name x p) [e, .Name T p2] [] pos) (e1 (isiD t) ma) :=
  (pe_callB call_isi hg hm hv (pa_cons he (pa_cons (pe_bltn (v := .ty t.nm) hg2 hm2 hv2 rfl hn2 hdb2) pa_nil) hs) hn hdb hs hpl).imp fun σ H Q ⟨ι, ρ, S, s, r, p⟩ => by
    refine ⟨ι, ρ, S, s, r, Po.bd p fun d S1 ι1 H1 y e1 s1 r1 p1 => ?_⟩
    unfold isiD at p1
    cases g : isiB S1 t d with
    | none => rw [g] at p1; exact p1.elim
    | some k =>
      rw [g] at p1
      obtain ⟨T, h1, h2⟩ := ty_of s1 r1 g
      exact ⟨y, .ty t.nm, _, _, k, rfl, .ty _, h1, h2, Po.ret p1 s1 (by rw [Rep])⟩
def rM (X : Cx) (F : Fn) : V → List V → Hp → VK → Prop := fun x vs H Q => ∃ ι S d ds, Sim X.KW ι S H ∧ Rep X.KW ι H d x ∧ RepL X.KW ι H ds vs ∧ Po (Rep X.KW) X.KW X.mg ι H Q (fun _ _ _ => False) (F (d :: ds) S)
def Rc.nm : Rc → String
  | .list => "list" | .str => "str" | .dict => "dict"
theorem rc_ok {K : KW} {ι : List Addr} {H : Hp} {S : Store} {d : D} {v : V} {t : Rc} (s : Sim K ι S H) (r : Rep K ι H d v) (h : rcB S t d = true) : tyV K t.nm v H := by
  unfold rcB at h
  split at h
  · obtain ⟨rfl, _⟩ := r.str
    cases t <;> first | rfl | cases h
  · split at h
    · rename_i g
      obtain ⟨p, vs, rfl, i1, e1, r1⟩ := lst_ok s r g
      exact .inl ⟨rfl, _, SqL.of e1⟩
    · rename_i g
      rw [Rep] at r
      obtain ⟨a, rfl, r1⟩ := r
      obtain ⟨ks, e, _⟩ := s.get r1 g
      exact .inr (.inr (.inl ⟨rfl, .inr ⟨ks, e⟩⟩))
    · cases h
  · cases h
theorem ge_mt (t : Rc) {id : String} {F : Fn} {o : Expr} {es : List Expr} {ms : List SE} {name : Str} {apos : Pos} (n : NoExF F) (pa : PlainAttrs t.nm) (slot : Slot t.nm name id) (hty : typeOf (.builtin id) = pure (.type "method_descriptor")) (hm : MtR X id (rM X F)) (ho : GE X W o ma) (ha : GA X W (e :: es) ms)
    (hbase : attributeBase o name X.env (eval o X.env) = eval o X.env := by rfl)
    (hfew : ((backTo pos (starEach (e :: es) X.env)).all (fun x => !x.1) && (backToKw pos (keywordEach [] X.env)).all (fun x => x.1.isSome)
      && decide ((e :: es).length + ([] : List Keyword).length + (if ([] : List Keyword).isEmpty then 0 else 1) < 30)) = true := by rfl)
    (hline : (apos.endLine == pos.line) = true := by rfl) (hs : starEach (e :: es) X.env = (false, eval e X.env) :: starEach es X.env := by rfl) (hplain : (backTo pos (starEach es X.env)).any (·.1) = false := by rfl) :
    GE X W (.Call (.Attribute o name apos) (e :: es) [] pos) (eMt t F ma ms) := (pe_bm pa slot hty hm ho ha hbase hfew hline hs hplain).imp fun σ H Q ⟨ι, ρ, S, s, r, p⟩ => by
  refine ⟨ι, ρ, S, s, r, Po.bd p fun d S1 ι1 H1 x e1 s1 r1 p1 => ?_⟩
  by_cases hr : rcB S1 t d = true
  · rw [if_pos hr] at p1
    refine ⟨rc_ok s1 r1 hr, ι1, ρ, S1, s1, r.ext e1, Po.evL p1 fun ds S2 ι2 H2 vs hd e2 s2 r2 p2 => ?_⟩
    exact ⟨ι2, S2, d, ds, s2, Rep.ext e2 _ _ r1, r2, p2.noex fun c S' => n _ _ _ _⟩
  · rw [if_neg hr] at p1; exact p1.elim
theorem ge_mt0 (t : Rc) {id : String} {F : Fn} {o : Expr} {name : Str} {apos : Pos} (n : NoExF F) (pa : PlainAttrs t.nm) (slot : Slot t.nm name id) (hty : typeOf (.builtin id) = pure (.type "method_descriptor")) (hm : MtR X id (rM X F)) (ho : GE X W o ma)
    (hbase : attributeBase o name X.env (eval o X.env) = eval o X.env := by rfl) (hline : (apos.endLine == pos.line) = true := by rfl) :
    GE X W (.Call (.Attribute o name apos) [] [] pos) (eMt t F ma []) := (pe_bm0 pa slot hty hm ho hbase hline).imp fun σ H Q ⟨ι, ρ, S, s, r, p⟩ => by
  refine ⟨ι, ρ, S, s, r, Po.bd p fun d S1 ι1 H1 x e1 s1 r1 p1 => ?_⟩
  by_cases hr : rcB S1 t d = true
  · rw [if_pos hr] at p1
    exact ⟨rc_ok s1 r1 hr, ι1, S1, d, [], s1, r1, by rw [RepL], Po.noex p1 fun c S' => n _ _ _ _⟩
  · rw [if_neg hr] at p1; exact p1.elim
theorem no_append : NoExF appendF := by intro ds S c S'; unfold appendF; split <;> (try split) <;> (try split) <;> simp
theorem zm_append : MtR X "list.append" (rM X appendF) := by
  intro pins s σ H x xs v us Q I rx r ⟨ι, S, d, ds, sm, rd, rds, po⟩
  unfold appendF at po
  split at po
  · rename_i n y heq
    cases heq
    obtain ⟨w, rfl, hw⟩ := one_of (ds := []) rds
    split at po
    · rename_i ys g
      obtain ⟨p, vs, rfl, i1, e1, r1⟩ := lst_ok sm rd g
      split at po
      · rename_i hl
        have em : Ext ι H ι (upd H p (.lst (vs ++ [w]))) := ext_mut e1 trivial
        refine mt_append pins s σ H _ _ v us Q I rx r ⟨p, vs, w, rfl, rfl, e1, by rw [r1.length]; rw [LINE_eq] at hl; exact hl, ?_⟩
        exact Po.ret (Po.mono em po) (sm.put i1 ⟨_, upd_same, RepL.ext em _ _ (r1.append (RepL.one hw))⟩ ⟨_, e1, trivial⟩) (by rw [Rep])
      · exact po.elim
    · exact po.elim
  · exact po.elim
theorem no_pop : NoExF popF := by intro ds S c S'; unfold popF; split <;> (try split) <;> (try split) <;> (try split) <;> simp
theorem RepL.dropLast {K : KW} {ι : List Addr} {H : Hp} {ds : List D} {vs : List V} (r : RepL K ι H ds vs) : RepL K ι H ds.dropLast vs.dropLast := by
  rw [List.dropLast_eq_take, List.dropLast_eq_take, r.length]
  exact r.take _
theorem zm_pop : MtR X "list.pop" (rM X popF) := by
  intro pins s σ H x xs v us Q I rx r ⟨ι, S, d, ds, sm, rd, rds, po⟩
  unfold popF at po
  split at po
  · rename_i n heq
    cases heq
    have e0 := rds.nil
    subst e0
    split at po
    · rename_i ys g
      obtain ⟨p, vs, rfl, i1, e1, r1⟩ := lst_ok sm rd g
      split at po
      · rename_i z hz
        obtain ⟨w, h1, h2⟩ := r1.get hz
        have em : Ext ι H ι (upd H p (.lst vs.dropLast)) := ext_mut e1 trivial
        refine mt_pop pins s σ H _ _ v us Q I rx r ⟨p, vs, w, rfl, rfl, e1, by rw [r1.length]; exact h1, ?_⟩
        exact Po.ret (Po.mono em po) (sm.put i1 ⟨_, upd_same, RepL.ext em _ _ r1.dropLast⟩ ⟨_, e1, trivial⟩) (Rep.ext em _ _ h2)
      · exact po.elim
    · exact po.elim
  · rename_i n i heq
    cases heq
    obtain ⟨wi, rfl, hwi⟩ := one_of (ds := []) rds
    rw [Rep] at hwi
    subst hwi
    split at po
    · rename_i ys g
      obtain ⟨p, vs, rfl, i1, e1, r1⟩ := lst_ok sm rd g
      split at po
      · rename_i k hk
        split at po
        · rename_i z hz
          obtain ⟨w, h1, h2⟩ := r1.get hz
          have em : Ext ι H ι (upd H p (.lst (vs.eraseIdx k))) := ext_mut e1 trivial
          obtain ⟨q1, q2, q3, q4⟩ := L2.ixN_seq (n := ys.length) (i := i) hk
          have hsz : vs.length ≤ sizeLine := (show ObjOk X.prog X.w H s.heap p (.lst vs) from I.hok p _ e1).1
          have hsz2 : ys.length ≤ 16777216 := by rw [← r1.length]; exact hsz
          refine mt_popAt pins s σ H _ _ v us Q I rx r ⟨p, vs, i, k, w, rfl, rfl, e1, by omega, by omega, by rw [r1.length]; exact q1, h1, ?_⟩
          exact Po.ret (Po.mono em po) (sm.put i1 ⟨_, upd_same, RepL.ext em _ _ (r1.eraseIdx k)⟩ ⟨_, e1, trivial⟩) (Rep.ext em _ _ h2)
        · exact po.elim
      · exact po.elim
    · exact po.elim
  · exact po.elim
theorem no_extend : NoExF extendF := by intro ds S c S'; unfold extendF; split <;> (try split) <;> (try split) <;> simp
theorem zm_extend : MtR X "list.extend" (rM X extendF) := by
  intro pins s σ H x xs v us Q I rx r ⟨ι, S, d, ds, sm, rd, rds, po⟩
  unfold extendF at po
  split at po
  · rename_i n m heq
    cases heq
    obtain ⟨w, rfl, hw⟩ := one_of (ds := []) rds
    split at po
    · rename_i ys zs g g'
      obtain ⟨p, vs, rfl, i1, e1, r1⟩ := lst_ok sm rd g
      obtain ⟨q, ws, rfl, i2, e2, r2⟩ := lst_ok sm hw g'
      split at po
      · rename_i hl
        have em : Ext ι H ι (upd H p (.lst (vs ++ ws))) := ext_mut e1 trivial
        refine mt_extend pins s σ H _ _ v us Q I rx r ⟨p, q, vs, ws, rfl, rfl, e1, e2, by rw [r1.length, r2.length]; rw [LINE_eq] at hl; exact hl, ?_⟩
        exact Po.ret (Po.mono em po) (sm.put i1 ⟨_, upd_same, RepL.ext em _ _ (r1.append r2)⟩ ⟨_, e1, trivial⟩) (by rw [Rep])
      · exact po.elim
    · exact po.elim
  · exact po.elim
theorem Po.ritm {K : KW} {mg : Mg} {ι : List Addr} {H : Hp} {R : It → Hp → Prop} {E : XK} {J : Itm} {S : Store} {j : It} (h : Po (RItm K) K mg ι H R E (some (.ok J S))) (s : Sim K ι S H) (r : RItm K ι H J j) : R j H := h ι H j .refl s r
theorem ritm_seq {K : KW} {ι : List Addr} {H : Hp} {xs : List D} {n : Nat} {a : Addr} (ha : ι[n]? = some a) : RItm K ι H ⟨xs, fun S => S[n]? = some (.lst xs)⟩ (Itl K a) := fun ι' H' S' e s c => by
  obtain ⟨vs, h1, h2⟩ := s.get (e.at ha) c
  refine ⟨fun i x hx => ?_, vs, SqL.of h1, by rw [h2.length]; exact Nat.le_refl _⟩
  obtain ⟨v, h3, h4⟩ := h2.get hx
  refine ⟨⟨vs, v, SqL.of h1, h3⟩, fun w H'' y => ?_⟩
  obtain ⟨rfl, y⟩ := y
  have := y vs (SqL.of h1)
  rw [h3] at this
  cases this
  exact ⟨.refl, s, h4⟩
theorem ritm_tup {K : KW} {ι : List Addr} {H : Hp} {xs : List D} {vs : List V} {a : Addr} (h1 : SqT K H a vs) (h2 : RepL K ι H xs vs) : RItm K ι H ⟨xs, fun _ => True⟩ (Itt K a) := fun ι' H' S' e s c => by
  have h1 := e.sqT h1
  have h2 := RepL.ext e _ _ h2
  refine ⟨fun i x hx => ?_, vs, h1, by rw [h2.length]; exact Nat.le_refl _⟩
  obtain ⟨v, h3, h4⟩ := h2.get hx
  refine ⟨⟨vs, v, h1, h3⟩, fun w H'' y => ?_⟩
  obtain ⟨rfl, y⟩ := y
  have := y vs h1
  rw [h3] at this
  cases this
  exact ⟨.refl, s, h4⟩
theorem ritm_fl {K : KW} {ι : List Addr} {H : Hp} {xs : List D} {vs : List V} {a : Addr} (h1 : FzL K H a vs) (h2 : RepL K ι H xs vs) : RItm K ι H ⟨xs, fun _ => True⟩ (Itl K a) := fun ι' H' S' e s c => by
  have h1 := e.fzL h1
  have h2 := RepL.ext e _ _ h2
  refine ⟨fun i x hx => ?_, vs, h1.seq, by rw [h2.length]; exact Nat.le_refl _⟩
  obtain ⟨v, h3, h4⟩ := h2.get hx
  refine ⟨⟨vs, v, h1.seq, h3⟩, fun w H'' y => ?_⟩
  obtain ⟨rfl, y⟩ := y
  have := y vs h1.seq
  rw [h3] at this
  cases this
  exact ⟨.refl, s, h4⟩
end
end Z
namespace Z
open PySem PySem.Spec PyProof.Rows L2
section
variable {X : Cx} {W : WX} {e tg : Expr} {m : SE} {pos : Pos}
theorem new_it {pins : List (Addr × Obj)} {σ : L2.St} {H : Hp} {sh : Shared} {R : It → Hp → Prop} (J : L2.Inv X pins σ H sh) (ob : Obj) {tn : Nat → Heap → Prop} {j : It}
    (tu : Turn X.prog X.w X.KW tg j [sh.heap.objs.size] sh.heap.objs.size tn) (t0 : tn 0 (sh.heap.push ob)) (q : R j H) : PIE X pins σ tg R (.ref sh.heap.objs.size) { sh with heap := sh.heap.push ob } := by
  refine ⟨_, _, tn, j, H, rfl, J.kept (t' := sh.toks) (fun b o g => Heap.get?_push_of_some _ g), tu, t0, fun b hb => ?_, q⟩
  obtain rfl : b = sh.heap.objs.size := by simpa using hb
  exact J.fpOk (Nat.le_refl _) (J.hok.fresh (Nat.le_refl _))
theorem ritm_str {K : KW} {ι : List Addr} {H : Hp} {s : List Nat} (ha : ∀ c ∈ s, c < 128) : RItm K ι H ⟨s.map fun c => .str [c], fun _ => True⟩ (Its (Z.str s)) := fun ι' H' S' ex sm c => by
  refine ⟨fun i x hx => ?_, by show (Z.str s).cps.size ≤ _; simp⟩
  rw [List.getElem?_map] at hx
  obtain ⟨k, hk, rfl⟩ := Option.map_eq_some_iff.mp hx
  have hi := (List.getElem?_eq_some_iff.mp hk).1
  refine ⟨by show i < (Z.str s).cps.size; simpa using hi, fun v H2 y => ?_⟩
  obtain ⟨rfl, c, h1, rfl⟩ := y
  have h1 : s[i]? = some c := by simpa using h1
  rw [hk] at h1; cases h1
  exact ⟨.refl, sm, by rw [Rep]; exact ⟨rfl, fun d hd => by simp at hd; subst hd; exact ha _ (List.mem_of_getElem? hk)⟩⟩
/-- what is walked, by its value -/
theorem iter_val {pins : List (Addr × Obj)} {σ : L2.St} {H : Hp} {sh : Shared} {R : It → Hp → Prop} {E : XK} {v : Value} {x : V} {ι : List Addr} {S : Store} {d : D} (J : L2.Inv X pins σ H sh) (rx : L2.RelV x v) (sm : Sim X.KW ι S H) (rd : Rep X.KW ι H d x)
    (p : Po (RItm X.KW) X.KW X.mg ι H R E (itmOf d S)) : wpAny (model X.prog X.w) X.A (pyIter v) (PIE X pins σ tg R) X.xe sh := by
  unfold itmOf at p
  split at p
  · split at p
    · rename_i xs g
      obtain ⟨a, vs, rfl, i1, e1, r1⟩ := lst_ok sm rd g
      obtain rfl : v = Value.ref a := rx
      obtain ⟨its, rv, pl, _⟩ := J.list (SqL.of e1)
      exact wpAny_pyIter_list pl.isList (new_it J _ (turn_list a _) ⟨_, Heap.get?_push_size _ rfl, rfl, rfl⟩ (Po.ritm p sm (ritm_seq i1)))
    · exact p.elim
  · rw [Rep] at rd
    obtain ⟨a, vs, rfl, h1, h2⟩ := rd
    obtain rfl : v = Value.ref a := rx
    obtain ⟨its, rv, pl, _⟩ := J.tuple h1.sq
    exact wpAny_pyIter_tuple (show sh.heap.IsTuple a its.toArray from pl) (new_it J _ (turn_tuple a _) ⟨_, Heap.get?_push_size _ rfl, rfl, rfl⟩ (Po.ritm p sm (ritm_tup h1.sq h2)))
  · rw [Rep] at rd
    obtain ⟨a, vs, rfl, h1, h2⟩ := rd
    obtain rfl : v = Value.ref a := rx
    obtain ⟨its, rv, pl, _⟩ := J.list h1.seq
    exact wpAny_pyIter_list pl.isList (new_it J _ (turn_list a _) ⟨_, Heap.get?_push_size _ rfl, rfl, rfl⟩ (Po.ritm p sm (ritm_fl h1 h2)))
  · rename_i s
    obtain ⟨rfl, ha⟩ := rd.str
    obtain ⟨t, rfl⟩ := rx
    have hall : (Z.str s).cps.all (· < 128) = true := by
      rw [Array.all_eq_true']
      intro c hc
      exact decide_eq_true (ha c (by simpa using hc))
    exact wpAny_pyIter_ascii hall (new_it J _ (turn_str _ _ t "str_ascii_iterator" (.inl rfl)) ⟨_, Heap.get?_push_size _ rfl, rfl, rfl⟩ (Po.ritm p sm (ritm_str ha)))
  · exact p.elim
theorem gi_any (h : GE X W e m) : GI X W tg e (iAny m) := by
  refine ⟨fun pins sh σ H R J ⟨ι, ρ, S, sm, r, p⟩ => ?_⟩
  have p : Po (RItm X.KW) X.KW X.mg ι H R (fun cls d H' => W cls d σ H') (Z.bd (m ρ S) itmOf) := p
  refine L2.thn (h.run pins sh σ H (fun x H1 => ∃ ι1 S1 d, Sim X.KW ι1 S1 H1 ∧ Rep X.KW ι1 H1 d x ∧ Po (RItm X.KW) X.KW X.mg ι1 H1 R (fun cls d H' => W cls d σ H') (itmOf d S1)) J ⟨ι, ρ, S, sm, r, Po.bd p fun d S1 ι1 H1 x e1 s1 r1 p1 => ⟨ι1, S1, d, s1, r1, p1⟩⟩) ?_
  rintro v sh1 ⟨x, H1, J1, rx, ι1, S1, d, s1, r1, p1⟩
  exact iter_val J1 rx s1 r1 p1
theorem ritm_range {K : KW} {ι : List Addr} {H : Hp} {lo : Int} {n : Nat} : RItm K ι H ⟨(List.range n).map fun (k : Nat) => .int (lo + k), fun _ => True⟩ (Itr lo n) := fun ι' H' S' ex sm c => by
  refine ⟨fun i x hx => ?_, by show n ≤ _; simp⟩
  rw [List.getElem?_map] at hx
  obtain ⟨k, hk, rfl⟩ := Option.map_eq_some_iff.mp hx
  have hi : i < n := by simpa using (List.getElem?_eq_some_iff.mp hk).1
  rw [List.getElem?_range hi] at hk
  cases hk
  refine ⟨hi, fun v H2 y => ?_⟩
  obtain ⟨rfl, rfl⟩ := y
  exact ⟨.refl, sm, by rw [Rep]⟩
/-- range(n) -/
theorem gi_r1 {a : Expr} {p : Pos} (ha : GE X W a m) (hg : Gl X "range") (hm : X.mg "range" = none) (hs : starEach [a] X.env = [(false, eval a X.env)] := by rfl) (hs2 : starEach [a] X.env = (false, eval a X.env) :: starEach [] X.env := by rfl) :
    GI X W tg (.Call (.Name "range" p) [a] [] pos) (iR1 m) := (pi_range1 hg hm (pa_cons ha pa_nil hs2) hs).imp fun σ H R ⟨ι, ρ, S, sm, r, p⟩ => by
  refine ⟨ι, ρ, S, sm, r, Po.bd p fun d S1 ι1 H1 x e1 s1 r1 p1 => ?_⟩
  cases d with
  | int n =>
    rw [Rep] at r1
    subst r1
    dsimp only at p1
    by_cases hc : r62 n
    · rw [if_pos hc] at p1
      rw [r62_iff] at hc
      refine ⟨n, rfl, by omega, by omega, Po.ritm p1 s1 ?_⟩
      have := ritm_range (K := X.KW) (ι := ι1) (H := H1) (lo := 0) (n := n.toNat)
      simpa using this
    · rw [if_neg hc] at p1; exact p1.elim
  | _ => exact p1.elim
theorem Po.bqb {α β α' : Type} {R : List Addr → Hp → α → β → Prop} {K mg ι H} {Q : β → Hp → Prop} {E : XK} {m : M α} {f : α → Store → M α'} {o : Res α'} (h : Z.bq m f = some o)
    (k : ∀ a S ι1 H1 x, Ext ι H ι1 H1 → Sim K ι1 S H1 → R ι1 H1 a x → f a S = some o → Q x H1) : Po R K mg ι H Q E m := by
  match m, h with
  | some (.ok a S), h => exact fun ι1 H1 x e s r => k a S ι1 H1 x e s r h
theorem gg_sub {o i : Expr} {mo mi : SE} (ho : GE X W o mo) (hi : GE X W i mi)
    (ha : ∀ v, assign (.Subscript o i pos) X.env v = (do
      let ov ← holding [v] (eval o X.env)
      let iv ← holding [v, ov] (eval i X.env)
      standAt pos
      holding [v, ov, iv] (setItem ov iv v)
      release [v, ov, iv] []) := by intro _; rfl) : GG X (.Subscript o i pos) (setF mo mi) [] := (pg_sub ho hi set_list ha).imp fun v σ H Q ⟨ι, ρ, S, d, ρ', S', s, r, rd, g, k⟩ => by
  unfold setF at g
  split at g
  · rename_i u S3 h
    cases g
    refine ⟨ι, ρ, S, s, r, Po.bqb h fun x S1 ι1 H1 y e1 s1 r1 h1 => ?_⟩
    refine ⟨ι1, ρ, S1, s1, r.ext e1, Po.bqb h1 fun z S2 ι2 H2 t e2 s2 r2 h2 => ?_⟩
    split at h2
    · rename_i n q
      split at h2
      · rename_i xs g2
        split at h2
        · rename_i j hj
          cases h2
          obtain ⟨p, vs, rfl, i1, f1, f2⟩ := lst_ok s2 (Rep.ext e2 _ _ r1) g2
          rw [Rep] at r2
          have em : Ext ι2 H2 ι2 (upd H2 p (.lst (vs.set j v))) := ext_mut f1 trivial
          refine ⟨p, vs, q, j, rfl, r2, f1, by rw [f2.length]; exact hj, ?_⟩
          exact k ι2 _ σ ((e1.trans e2).trans em) (s2.put i1 ⟨_, upd_same, RepL.ext em _ _ (RepL.set (Rep.ext e2 _ _ (Rep.ext e1 _ _ rd)) j f2)⟩ ⟨_, f1, trivial⟩) (((r.ext e1).ext e2).ext em) .refl
        · cases h2
      · cases h2
    · cases h2
  · cases g
end
end Z
namespace Z
/-- a def's outcome -/
def endF : Option Out → M D
  | some (.rt d S) => some (.ok d S)
  | some (.nx _ S) => some (.ok .non S)
  | some (.ex c _ S) => some (.ex c S)
  | _ => none
@[simp] theorem endF_rt (d : D) (S : Store) : endF (some (.rt d S)) = some (.ok d S) := rfl
@[simp] theorem endF_nx (ρ : Env) (S : Store) : endF (some (.nx ρ S)) = some (.ok .non S) := rfl
@[simp] theorem endF_ex (c : String) (ρ : Env) (S : Store) : endF (some (.ex c ρ S)) = some (.ex c S) := rfl
/-- a def by its body: n parameters, N names -/
def runF (n N : Nat) (b : SS) : Fn := fun ds S => if ds.length = n then endF (b (env0 N ds) S) else none
theorem runF_len {n N : Nat} {b : SS} {ds : List D} {S : Store} (h : runF n N b ds S ≠ none) : ds.length = n := by
  unfold runF at h
  by_cases e : ds.length = n
  · exact e
  · rw [if_neg e] at h; exact absurd rfl h
theorem run_eq {n : Nat} (N : Nat) {b : SS} {ds : List D} (S : Store) (h : ds.length = n) : runF n N b ds S = endF (b (ds.map some ++ List.replicate (N - n) none) S) := by unfold runF env0; rw [if_pos h, h]
section
variable {f g : D → D → Store → M D} {a b c : SE} {t t' : ST} {A B : SS} {ρ : Env} {S : Store}
@[simp] theorem x_var (i : Nat) : eVar i ρ S = match ρ[i]? with | some (some d) => some (.ok d S) | _ => none := rfl
@[simp] theorem x_c (d : D) : eC d ρ S = some (.ok d S) := rfl
@[simp] theorem x_1 (h : D → Store → M D) : e1 h a ρ S = bd (a ρ S) h := rfl
@[simp] theorem x_2 : e2 f a b ρ S = bd (a ρ S) fun x S1 => bd (b ρ S1) fun y S2 => f x y S2 := rfl
@[simp] theorem x_nil : evL [] ρ S = some (.ok [] S) := rfl
@[simp] theorem x_cons (r : List SE) : evL (a :: r) ρ S = bd (a ρ S) fun x S1 => bd (evL r ρ S1) fun xs S2 => some (.ok (x :: xs) S2) := rfl
@[simp] theorem x_tup (es : List SE) : eTup es ρ S = bd (evL es ρ S) fun xs S1 => some (.ok (.tup xs) S1) := rfl
@[simp] theorem x_lst (es : List SE) : eLst es ρ S = bd (evL es ρ S) fun xs S1 => some (.ok (.ref S1.length) (S1 ++ [.lst xs])) := rfl
@[simp] theorem x_call (F : Fn) (es : List SE) : eCall F es ρ S = bd (evL es ρ S) F := rfl
@[simp] theorem x_and : eAnd a b ρ S = bd (a ρ S) fun x S1 => match x with | .bl true => b ρ S1 | .bl false => some (.ok (.bl false) S1) | _ => none := rfl
@[simp] theorem x_or : eOr a b ρ S = bd (a ρ S) fun x S1 => match x with | .bl false => b ρ S1 | .bl true => some (.ok (.bl true) S1) | _ => none := rfl
@[simp] theorem x_not : eNot a ρ S = bd (a ρ S) fun x S1 => match x with | .bl b => some (.ok (.bl !b) S1) | _ => none := rfl
@[simp] theorem x_ch : eCh f g a b c ρ S = bd (a ρ S) fun x S1 => bd (b ρ S1) fun y S2 => bd (f x y S2) fun z S3 =>
  match z with | .bl true => bd (c ρ S3) fun w S4 => g y w S4 | .bl false => some (.ok (.bl false) S3) | _ => none := rfl
@[simp] theorem x_tval (e : SE) : tVal e ρ S = bd (e ρ S) fun x S1 => match x with | .bl b => some (.ok b S1) | _ => none := rfl
@[simp] theorem x_tand : tAnd t t' ρ S = bd (t ρ S) fun x S1 => if x = true then t' ρ S1 else some (.ok false S1) := rfl
@[simp] theorem x_tor : tOr t t' ρ S = bd (t ρ S) fun x S1 => if x = true then some (.ok true S1) else t' ρ S1 := rfl
@[simp] theorem x_tnot : tNot t ρ S = bd (t ρ S) fun x S1 => some (.ok (!x) S1) := rfl
@[simp] theorem x_tyes : tYes ρ S = some (.ok true S) := rfl
@[simp] theorem x_if : eIf t a b ρ S = bd (t ρ S) fun x S1 => if x = true then a ρ S1 else b ρ S1 := rfl
@[simp] theorem x_name (i : Nat) (d : D) : gName i d ρ S = some (ρ.set i (some d), S) := rfl
@[simp] theorem x_gall : gAll [] [] ρ S = some (ρ, S) := rfl
@[simp] theorem x_gcons (h : SG) (gs : List SG) (d : D) (ds : List D) : gAll (h :: gs) (d :: ds) ρ S = match h d ρ S with | some (ρ1, S1) => gAll gs ds ρ1 S1 | none => none := rfl
@[simp] theorem x_gtup (gs : List SG) (ds : List D) : gTup gs (.tup ds) ρ S = gAll gs ds ρ S := rfl
@[simp] theorem x_sq : sq A B ρ S = match A ρ S with | some (.nx ρ1 S1) => B ρ1 S1 | o => o := rfl
@[simp] theorem x_nx : sNx ρ S = some (.nx ρ S) := rfl
@[simp] theorem x_exp (e : SE) : sExp e ρ S = bo (e ρ S) ρ fun _ S1 => some (.nx ρ S1) := rfl
@[simp] theorem x_ret (e : SE) : sRet e ρ S = bo (e ρ S) ρ fun d S1 => some (.rt d S1) := rfl
@[simp] theorem x_sif : sIf t A B ρ S = bo (t ρ S) ρ fun x S1 => if x = true then A ρ S1 else B ρ S1 := rfl
@[simp] theorem x_asg (e : SE) (h : SG) : sAsg e h ρ S = bo (e ρ S) ρ fun d S1 => match h d ρ S1 with | some (ρ2, S2) => some (.nx ρ2 S2) | none => none := rfl
@[simp] theorem x_aug (i : Nat) (e : SE) : sAug i f e ρ S = bo (e2 f (eVar i) e ρ S) ρ fun d S1 => some (.nx (ρ.set i (some d)) S1) := rfl
@[simp] theorem x_any : iAny a ρ S = bd (a ρ S) itmOf := rfl
@[simp] theorem x_r1 : iR1 a ρ S = bd (a ρ S) fun d S1 => match d with
  | .int n => if r62 n then some (.ok ⟨(List.range n.toNat).map fun (k : Nat) => .int k, fun _ => True⟩ S1) else none
  | _ => none := rfl
@[simp] theorem x_for (it : SI) (h : SG) : sFor it h A ρ S = bo (it ρ S) ρ fun J S1 => forL J.chk h A J.xs ρ S1 := rfl
@[simp] theorem x_set (o i : SE) (d : D) : setF o i d ρ S = match bq (o ρ S) fun x S1 => bq (i ρ S1) fun y S2 => (match x, y with
    | .ref n, .int k => (match S2[n]? with
      | some (.lst xs) => (match ixN xs.length k with
        | some j => some (.ok () (S2.set n (.lst (xs.set j d))))
        | none => none)
      | _ => none)
    | _, _ => none) with
  | some (.ok _ S3) => some (ρ, S3)
  | _ => none := rfl
@[simp] theorem x_mt (ty : Rc) (F : Fn) (o : SE) (es : List SE) : eMt ty F o es ρ S = bd (o ρ S) fun d S1 => if rcB S1 ty d = true then bd (evL es ρ S1) fun ds S2 => F (d :: ds) S2 else none := rfl
@[simp] theorem x_sl (lo hi : Option SE) : eSl a lo hi ρ S = bd (a ρ S) fun d S1 =>
  bd (match lo with | none => some (.ok none S1) | some m => bd (m ρ S1) fun x S2 => match x with | .int i => some (.ok (some i) S2) | _ => none) fun l S3 =>
  bd (match hi with | none => some (.ok none S3) | some m => bd (m ρ S3) fun x S4 => match x with | .int i => some (.ok (some i) S4) | _ => none) fun h S5 => slD l h d S5 := rfl
end
section
variable {S : Store}
@[simp] theorem o_add (i j : Int) : addD (.int i) (.int j) S = some (.ok (.int (i + j)) S) := rfl
@[simp] theorem o_adds (a b : List Nat) : addD (.str a) (.str b) S = if a.length + b.length ≤ LINE then some (.ok (.str (a ++ b)) S) else none := rfl
@[simp] theorem o_addt (a b : List D) : addD (.tup a) (.tup b) S = if a.length + b.length ≤ LINE then some (.ok (.tup (a ++ b)) S) else none := rfl
@[simp] theorem o_addr (m n : Nat) : addD (.ref m) (.ref n) S = match S[m]?, S[n]? with
    | some (.lst a), some (.lst b) => if a.length + b.length ≤ LINE then some (.ok (.ref S.length) (S ++ [.lst (a ++ b)])) else none
    | _, _ => none := rfl
@[simp] theorem o_mult (a : List D) (k : Int) : mulD (.tup a) (.int k) S = if 0 < a.length ∧ a.length ≤ 1000 ∧ 2 ≤ k ∧ k ≤ 1000 then some (.ok (.tup (List.replicate k.toNat a).flatten) S) else none := rfl
@[simp] theorem o_mulr (m : Nat) (k : Int) : mulD (.ref m) (.int k) S = match S[m]? with
    | some (.lst a) => if -9223372036854775808 ≤ k ∧ k < 9223372036854775808 ∧ a.length * k.toNat ≤ LINE then some (.ok (.ref S.length) (S ++ [.lst (List.replicate k.toNat a).flatten])) else none
    | _ => none := rfl
@[simp] theorem o_sub (i j : Int) : subD (.int i) (.int j) S = some (.ok (.int (i - j)) S) := rfl
@[simp] theorem o_mul (i j : Int) : mulD (.int i) (.int j) S = if (small i ∨ small j) ∨ i.natAbs.log2 + j.natAbs.log2 < 1000000 then some (.ok (.int (i * j)) S) else none := rfl
@[simp] theorem o_fdiv (i j : Int) : fdivD (.int i) (.int j) S = if 0 < j ∧ j.natAbs.log2 < 9000 then some (.ok (.int (i / j)) S) else none := rfl
@[simp] theorem o_mod (i j : Int) : modD (.int i) (.int j) S = if 0 < j then some (.ok (.int (i % j)) S) else none := rfl
@[simp] theorem o_pow (i j : Int) : powD (.int i) (.int j) S = if 0 ≤ j ∧ j ≤ 1000000 ∧ small i then some (.ok (.int (i ^ j.toNat)) S) else none := rfl
@[simp] theorem o_neg (i : Int) : negD (.int i) S = some (.ok (.int (-i)) S) := rfl
@[simp] theorem o_lt (i j : Int) : ltD (.int i) (.int j) S = some (.ok (.bl (decide (i < j))) S) := rfl
@[simp] theorem o_le (i j : Int) : leD (.int i) (.int j) S = some (.ok (.bl (decide (i ≤ j))) S) := rfl
@[simp] theorem o_gt (i j : Int) : gtD (.int i) (.int j) S = some (.ok (.bl (decide (j < i))) S) := rfl
@[simp] theorem o_ge (i j : Int) : geD (.int i) (.int j) S = some (.ok (.bl (decide (j ≤ i))) S) := rfl
@[simp] theorem o_eq (i j : Int) : eqD (.int i) (.int j) S = some (.ok (.bl (decide (i = j))) S) := by
  unfold eqD dat
  simp [D.pd, PD.dep, PD.eqv]
  rfl
@[simp] theorem o_eqs (a b : List Nat) : eqD (.str a) (.str b) S = some (.ok (.bl (decide (a = b))) S) := by
  unfold eqD dat
  simp [D.pd, PD.dep, PD.eqv]
  exact Bool.eq_iff_iff.mpr (by simp)
@[simp] theorem o_eqb (a b : Bool) : eqD (.bl a) (.bl b) S = some (.ok (.bl (decide (a = b))) S) := by
  unfold eqD dat
  simp [D.pd, PD.dep, PD.eqv]
  rfl
@[simp] theorem o_ne (i j : Int) : neD (.int i) (.int j) S = some (.ok (.bl (!decide (i = j))) S) := by
  unfold neD dat
  simp [D.pd, PD.dep, PD.eqv]
  rfl
@[simp] theorem o_nes (a b : List Nat) : neD (.str a) (.str b) S = some (.ok (.bl (!decide (a = b))) S) := by
  unfold neD dat
  simp [D.pd, PD.dep, PD.eqv]
  exact Bool.eq_iff_iff.mpr (by simp)
@[simp] theorem o_neb (a b : Bool) : neD (.bl a) (.bl b) S = some (.ok (.bl (!decide (a = b))) S) := by
  unfold neD dat
  simp [D.pd, PD.dep, PD.eqv]
  rfl
@[simp] theorem o_ixs (s : List Nat) (i : Int) : ixD (.str s) (.int i) S = if s.length ≤ LINE then (match atI s i with | some c => some (.ok (.str [c]) S) | none => none) else none := rfl
@[simp] theorem o_ixt (xs : List D) (i : Int) : ixD (.tup xs) (.int i) S = match atI xs i with | some x => some (.ok x S) | none => none := rfl
@[simp] theorem o_ixf (xs : List D) (i : Int) : ixD (.fl xs) (.int i) S = match atI xs i with | some x => some (.ok x S) | none => none := rfl
@[simp] theorem o_ixr (n : Nat) (i : Int) : ixD (.ref n) (.int i) S = match seqOf S (.ref n) with | some xs => (match atI xs i with | some x => some (.ok x S) | none => none) | none => none := rfl
@[simp] theorem o_sqt (xs : List D) : seqOf S (.tup xs) = some xs := rfl
@[simp] theorem o_sqf (xs : List D) : seqOf S (.fl xs) = some xs := rfl
@[simp] theorem o_sqr (n : Nat) : seqOf S (.ref n) = match S[n]? with | some (.lst xs) => some xs | _ => none := rfl
@[simp] theorem o_lens (s : List Nat) : lenF [.str s] S = if s.length ≤ LINE then some (.ok (.int s.length) S) else none := rfl
@[simp] theorem o_lent (xs : List D) : lenF [.tup xs] S = some (.ok (.int xs.length) S) := rfl
@[simp] theorem o_lenf (xs : List D) : lenF [.fl xs] S = some (.ok (.int xs.length) S) := rfl
@[simp] theorem o_lenr (n : Nat) : lenF [.ref n] S = match seqOf S (.ref n) with | some xs => some (.ok (.int xs.length) S) | none => none := rfl
@[simp] theorem o_abs (i : Int) : absF [.int i] S = some (.ok (.int (if i < 0 then -i else i)) S) := rfl
@[simp] theorem o_max (i j : Int) : maxF [.int i, .int j] S = some (.ok (.int (if j > i then j else i)) S) := rfl
@[simp] theorem o_min (i j : Int) : minF [.int i, .int j] S = some (.ok (.int (if j < i then j else i)) S) := rfl
@[simp] theorem o_list (d : D) : listF [d] S = match seqOf S d with | some xs => some (.ok (.ref S.length) (S ++ [.lst xs])) | none => none := rfl
@[simp] theorem o_tuple (d : D) : tupleF [d] S = match seqOf S d with | some xs => some (.ok (.tup xs) S) | none => none := rfl
@[simp] theorem o_app (n : Nat) (x : D) : appendF [.ref n, x] S = match S[n]? with
    | some (.lst xs) => if xs.length < LINE then some (.ok .non (S.set n (.lst (xs ++ [x])))) else none
    | _ => none := rfl
@[simp] theorem o_pop (n : Nat) (i : Int) : popF [.ref n, .int i] S = match S[n]? with
    | some (.lst xs) => (match ixN xs.length i with
      | some k => (match xs[k]? with | some x => some (.ok x (S.set n (.lst (xs.eraseIdx k)))) | none => none)
      | none => none)
    | _ => none := rfl
@[simp] theorem o_rcr (n : Nat) (t : Rc) : rcB S t (.ref n) = match S[n]?, t with | some (.lst _), .list => true | some (.st _), .dict => true | _, _ => false := rfl
@[simp] theorem o_rcs (s : List Nat) (t : Rc) : rcB S t (.str s) = match t with | .str => true | _ => false := rfl
@[simp] theorem o_itr (n : Nat) : itmOf (.ref n) S = match S[n]? with
    | some (.lst xs) => some (.ok ⟨xs, fun S => S[n]? = some (.lst xs)⟩ S)
    | _ => none := rfl
@[simp] theorem o_itt (xs : List D) : itmOf (.tup xs) S = some (.ok ⟨xs, fun _ => True⟩ S) := rfl
@[simp] theorem o_itf (xs : List D) : itmOf (.fl xs) S = some (.ok ⟨xs, fun _ => True⟩ S) := rfl
@[simp] theorem o_its (s : List Nat) : itmOf (.str s) S = some (.ok ⟨s.map fun c => .str [c], fun _ => True⟩ S) := rfl
@[simp] theorem lg_lt {n : Nat} (h : n < 18446744073709551616) : n.log2 < 9000 := by
  by_cases h0 : n = 0
  · subst h0; decide
  · exact Nat.lt_of_lt_of_le ((Nat.log2_lt h0).mpr (show n < 2 ^ 64 from h)) (by decide)
@[simp] theorem leLINE {n : Nat} (h : n ≤ 16777216) : n ≤ LINE := by rw [LINE_eq]; exact h
@[simp] theorem ltLINE {n : Nat} (h : n < 16777216) : n < LINE := by rw [LINE_eq]; exact h
@[simp] theorem r62_nat {n : Nat} (h : n ≤ 1000000000) : r62 (n : Int) := (r62_iff _).mpr (by omega)
@[simp] theorem r62_lit {i : Int} (h0 : -1000000000 ≤ i) (h1 : i ≤ 1000000000) : r62 i := (r62_iff _).mpr (by omega)
theorem r62_of {i : Int} (h0 : -1000000000 ≤ i) (h1 : i ≤ 1000000000) : r62 i := (r62_iff _).mpr (by omega)
@[simp] theorem r62_0 : r62 0 := r62_of (by decide) (by decide)
@[simp] theorem r62_1 : r62 1 := r62_of (by decide) (by decide)
@[simp] theorem small_0 : small 0 := (small_iff _).mpr (by decide)
@[simp] theorem small_1 : small 1 := (small_iff _).mpr (by decide)
@[simp] theorem small_nat {n : Nat} (h : n < 18446744073709551616) : small (n : Int) := (small_iff _).mpr (by omega)
@[simp] theorem small_lit {i : Int} (h0 : -1000000000000000000 ≤ i) (h1 : i ≤ 1000000000000000000) : small i := (small_iff _).mpr (by omega)
theorem at0 {α : Type} (x : α) (xs : List α) : atI (x :: xs) 0 = some x := by simp [atI, ixN]
@[simp] theorem ixN_lit (n : Nat) (k : Nat) : ixN n (OfNat.ofNat k) = if k < n then some k else none := by
  unfold ixN
  rw [if_pos (by exact Int.natCast_nonneg k)]
  by_cases h : k < n
  · rw [if_pos h, if_pos (by exact Int.ofNat_lt.mpr h)]; rfl
  · rw [if_neg h, if_neg (by exact fun g => h (Int.ofNat_lt.mp g))]
end
end Z
namespace Z
open PySem PySem.Spec PyProof.Rows L2
theorem _root_.L2.Room.u65 {k : Nat} {A : Around} (r : Room k A) : A.units + 65 < cLine := by have := r.un; omega
theorem _root_.L2.RoomG.u65 {k : Nat} {A : Around} (h : RoomG k A) : A.units + 65 < cLine := h.r.u65
theorem _root_.L2.RoomG.units {k : Nat} {A : Around} (h : RoomG k A) : A.units + 64 < cLine := h.r.units
section
variable {X : Cx}
theorem no_iadd : NoEx iaddD := by
  intro d e S c S' h
  cases d <;> cases e <;> cases h
theorem zi_add : OpR X (inplaceOp .Add) (r2 X iaddD) := by
  intro pins s σ H x y v u Q I rx ry ⟨ι, S, d, e, sm, rd, re, po⟩
  cases d <;> cases e <;> first
    | exact False.elim po
    | skip
  case int.int i j =>
    rw [Rep] at rd re
    subst rd re
    exact iop_add pins s σ H _ _ v u Q I rx ry ⟨i, j, rfl, rfl, Po.ret po sm (by rw [Rep])⟩
end
section
variable {P : Program} {w : World} {K : PySem.W.Frag} {mg : Mg} {base : Heap}
/-- THE RULE for a def that is taken by its body -/
theorem fn_run {x qual : Str} {st : Stmt} {f : Addr} {fd : FuncData} {N ps : List Str} {k n : Nat} {b : SS} (Fu : Fun K x qual st f fd) (S : FnScope N ps (defScope st)) (hn : n = ps.length)
    (der : ∀ (cdv : Value) (A : Around) (outer : List PySem.Env) (s : Shared) (H : Hp) (E : XK), RoomG k (A.deeper (envOfC qual (defScope st) s.heap.objs.size f cdv)) → GSs (cx P w K mg base N qual st f cdv A outer s H E) (wE E) (defBody st) b) :
    FnG P w K mg base (L2.CX P w) (k + 1) f fd ps (spF ⟨K, P, w⟩ mg (runF n N.length b)) := by
  subst hn
  have hpl : ps.length ≤ N.length := by have := congrArg List.length S.pre; rw [List.length_take] at this; omega
  refine Fu.okG S (fun vs H Q E h => ?_) (fun cdv A outer s H vs Q E hr h => ?_)
  · obtain ⟨ι, S, ds, s, r, p⟩ := h
    rw [r.length]
    exact runF_len fun e => by rw [e] at p; exact p
  · refine ⟨_, der cdv A outer s H E hr, ?_⟩
    obtain ⟨ι, S0, ds, s0, r, p⟩ := h
    have hl : ds.length = ps.length := runF_len (fun e => by rw [e] at p; exact p)
    refine ⟨ι, env0 N.length ds, S0, s0, .start r (by rw [hl]; exact hpl), ?_⟩
    unfold runF at p
    rw [if_pos hl] at p
    match g : b (env0 N.length ds) S0, p with
    | none, p => exact p.elim
    | some (.rt d S'), p => exact fun ι1 H1 v e1 s1 r1 => p ι1 H1 v e1 s1 r1
    | some (.nx ρ S'), p => exact fun ι1 H1 σ1 e1 s1 r1 => p ι1 H1 .non e1 s1 (by rw [Rep])
    | some (.ex c ρ S'), p => exact fun ι1 H1 σ1 cls e1 s1 r1 g1 => p ι1 H1 cls e1 s1 g1
    | some (.bk ρ S'), p => exact p.elim
    | some (.ct ρ S'), p => exact p.elim
/-- the law's own promise -/
def spL (K : PySem.W.Frag) (R : Fn) : Sp := fun vs H Q _ => ∃ (a : Addr) (ns : List Int), vs = [.ref a] ∧ FzL K H a (ns.map V.int) ∧ Only H ∧ (∃ S', R [.fl (ns.map .int)] [] = some (.ok (.bl true) S')) ∧ ∀ H', Q (.bl true) H'
theorem repL_ints {K : KW} {ι : List Addr} {H : Hp} : ∀ ns : List Int, RepL K ι H (ns.map .int) (ns.map V.int)
  | [] => by rw [List.map_nil, RepL]; rfl
  | n :: r => by rw [List.map_cons, RepL]; exact ⟨_, _, rfl, by rw [Rep], repL_ints r⟩
theorem sim_nil {K : KW} {H : Hp} : Sim K [] [] H := ⟨rfl, List.Pairwise.nil, fun i o a h _ => by simp at h⟩
theorem law_ok {f : Addr} {fd : FuncData} {ps : List Str} {k : Nat} {R : Fn} (h : FnG P w K mg base (L2.CX P w) k f fd ps (spF ⟨K, P, w⟩ mg R)) : FnG P w K mg base (L2.CX P w) k f fd ps (spL K R) :=
  h.imp fun vs H Q E ⟨a, ns, e, hz, ho, ⟨S', hR⟩, q⟩ => by
    subst e
    refine ⟨[], [], [.fl (ns.map .int)], sim_nil, ?_, ?_⟩
    · rw [RepL]
      exact ⟨_, _, rfl, by rw [Rep]; exact ⟨a, _, rfl, hz, repL_ints ns⟩, by rw [RepL]⟩
    · rw [hR]
      intro ι' H' v e1 s1 r1
      rw [Rep] at r1
      subst r1
      exact q H'
theorem fz_only {H : Hp} {a : Addr} {xs : List V} (ho : Only H) (h : SqL K H a xs) : FzL K H a xs := by
  rcases h with (h | h) | h
  · rcases ho a with e | ⟨o, ys, e⟩
    · rw [e] at h; cases h
    · rw [e] at h; cases h
  · exact .inl h
  · exact .inr h
end
/-- THE END: R answers True at every script of at most n numbers -/
theorem walkZ {l : PySem.W.OpenLaw} {n k : Nat} {q : Program} {loose : List Str} {XP : (Str → Option Value) → Heap → Prop} {YP : World → Heap → Prop} {d : DefRec} {K : Params → PySem.W.Frag} {R : Fn}
    (hn : l.most = some n) (hn2 : n ≤ sizeLine) (hr : RoomG k callerA) (hdf : d.params.defaults = [])
    (hY : ∀ (w : World) (h : Heap), YP w h → (K w.params).In h)
    (hR : ∀ ns : List Int, ns.length ≤ n → (∀ z ∈ ns, Builtin.Int.intBits z ≤ 1048576) → ∃ S', R [.fl (ns.map .int)] [] = some (.ok (.bl true) S'))
    (F : ∀ (w : World) (mg : Str → Option Value) (fa : Addr) (h : Heap), (K w.params).In h → h.Ns mainGlobals mg → mg d.name = some (.ref fa) →
      ∃ fd : FuncData, (∀ (s : Shared) (u : Value), BindsTo s fd ⟨[u], []⟩ [("script", u)]) ∧ ∀ base : Heap, (K w.params).In base → base.Ns mainGlobals mg → FnG l.prog w (K w.params) mg base (L2.CX l.prog w) k fa fd ["script"] (spF ⟨K w.params, l.prog, w⟩ mg R)) :
    PySem.W.WalkO q loose XP YP l.row.toRowW d [] (fun f vs => PySem.call f vs) :=
  L2.walk_ofG (x := "script") (CX := fun w => L2.CX l.prog w) (sp := fun w => spL (K w.params) R) hn hn2 hdf hr hY
    (fun w mg fa h X G hm => let ⟨fd, hb, hF⟩ := F w mg fa h X G hm; ⟨fd, hb, fun base X' G' => law_ok (hF base X' G')⟩)
    (fun w H a ns hl hb hO hS => ⟨a, ns, rfl, fz_only hO hS, hO, hR ns hl hb, fun _ => rfl⟩)
    (fun w H s e s' ⟨_, _, _, _, _, _, _, _, _, _, _, _, h⟩ => h)
section
variable {X : Cx} {W : WX} {pos : Pos}
/-- a text of the module -/
theorem ge_gs {x s : Str} {t : Tok} {cs : List Nat} (hm : X.mg x = some (.str s t)) (hs : s = str cs) (ha : (cs.all fun c => decide (c < 128)) = true) (hg : Gl X x) (hd : (x == ("__debug__" : Str)) = false := by decide) : GE X W (.Name x pos) (eC (.str cs)) :=
  ge_glob (v := .str s) hg hm ⟨_, rfl⟩ (fun _ _ => by rw [Rep]; exact ⟨by rw [hs], fun c hc => of_decide_eq_true (List.all_eq_true.mp ha c hc)⟩) hd
theorem ge_gi {x : Str} {i : Int} {t : Tok} (hm : X.mg x = some (.int i t)) (hg : Gl X x) (hd : (x == ("__debug__" : Str)) = false := by decide) : GE X W (.Name x pos) (eC (.int i)) :=
  ge_glob (v := .int i) hg hm ⟨_, rfl⟩ (fun _ _ => by rw [Rep]) hd
end
end Z
namespace Z
open PySem PySem.Spec PyProof.Rows L2
theorem fnok_none {P : Program} {w : World} {K : PySem.W.Frag} {mg : Mg} {base : Heap} {f : Addr} {fd : FuncData} {ps : List Str} {k : Nat} : FnG P w K mg base (L2.CX P w) k f fd ps (spF ⟨K, P, w⟩ mg fun _ _ => none) :=
  ⟨fun _ _ _ _ ⟨_, _, _, _, _, p⟩ => False.elim p, fun _ _ _ _ _ _ _ _ _ _ _ _ _ ⟨_, _, _, _, _, p⟩ => False.elim p⟩
end Z
namespace Z
def intsL : List D → Option (List Int)
  | [] => some []
  | .int i :: r => (intsL r).map (i :: ·)
  | _ :: _ => none
def strsL : List D → Option (List (List Nat))
  | [] => some []
  | .str s :: r => (strsL r).map (s :: ·)
  | _ :: _ => none
theorem strsL_map : ∀ ns : List (List Nat), strsL (ns.map .str) = some ns
  | [] => rfl
  | n :: r => by simp [strsL, strsL_map r]
theorem strsL_eq : ∀ {ds : List D} {ns : List (List Nat)}, strsL ds = some ns → ds = ns.map .str
  | [], ns, h => by cases h; rfl
  | d :: ds, ns, h => by
    cases d with
    | str i =>
      rw [strsL] at h
      obtain ⟨ms, h1, rfl⟩ := Option.map_eq_some_iff.mp h
      rw [strsL_eq h1]; rfl
    | _ => cases h
def intF : Fn := fun ds S => match ds with
  | [.int i] => some (.ok (.int i) S)
  | [.bl b] => some (.ok (.int (if b = true then 1 else 0)) S)
  | _ => none
/-- a number's figures -/
def dec (i : Int) : List Nat := (toString i).toList.map Char.toNat
def strF : Fn := fun ds S => match ds with
  | [.int i] => if i.natAbs.log2 < 1920 then some (.ok (.str (dec i)) S) else none
  | [.str s] => some (.ok (.str s) S)
  | _ => none
def joinS (sep : List Nat) : List (List Nat) → List Nat
  | [] => []
  | [x] => x
  | x :: y :: r => x ++ sep ++ joinS sep (y :: r)
def joinF : Fn := fun ds S => match ds with
  | [.str sep, .ref n] => (match S[n]? with
    | some (.lst xs) => (match strsL xs with
      | some ys => if (ys.map List.length).sum + ys.length * sep.length ≤ 16777216 then some (.ok (.str (joinS sep ys)) S) else none
      | none => none)
    | _ => none)
  | _ => none
def sumF : Fn := fun ds S => match ds with
  | [.ref n] => (match S[n]? with
    | some (.lst xs) => (match intsL xs with
      | some ys => some (.ok (.int ys.sum) S)
      | none => none)
    | _ => none)
  | _ => none
def maxI : List Int → Option Int
  | [] => none
  | x :: r => some (r.foldl max x)
def maxLF : Fn := fun ds S => match ds with
  | [.ref n] => (match S[n]? with
    | some (.lst xs) => (match (intsL xs).bind maxI with
      | some y => some (.ok (.int y) S)
      | none => none)
    | _ => none)
  | _ => none
/-- the numbers lo, lo + c, .., n of them -/
def stepsL (lo c : Int) (n : Nat) : List D := (List.range n).map fun (k : Nat) => .int (lo + (k : Int) * c)
/-- range(a, b) -/
noncomputable def iR2 (a b : SE) : SI := fun ρ S => bd (a ρ S) fun d S1 => bd (b ρ S1) fun e S2 => match d, e with
  | .int i, .int j => if r62 i ∧ r62 j then some (.ok ⟨(List.range (j - i).toNat).map fun (k : Nat) => .int (i + k), fun _ => True⟩ S2) else none
  | _, _ => none
@[irreducible] def r24 (i j k : Int) : Prop := (0 ≤ i ∧ i < 16777216) ∧ (0 ≤ j ∧ j < 16777216) ∧ 0 < k ∧ k < 16777216
noncomputable instance (i j k : Int) : Decidable (r24 i j k) := Classical.propDecidable _
/-- range(a, b, c), c above 0 -/
noncomputable def iR3 (a b c : SE) : SI := fun ρ S => bd (a ρ S) fun d S1 => bd (b ρ S1) fun e S2 => bd (c ρ S2) fun f S3 => match d, e, f with
  | .int i, .int j, .int k => if r24 i j k then some (.ok ⟨stepsL i k (if i < j then ((j - i - 1) / k + 1).toNat else 0), fun _ => True⟩ S3) else none
  | _, _, _ => none
/-- list(range(n)) -/
noncomputable def eLR (a : SE) : SE := fun ρ S => bd (a ρ S) fun d S1 => match d with
  | .int n => if r62 n ∧ n.toNat ≤ LINE then new1 (.lst ((List.range n.toNat).map fun (k : Nat) => .int k)) S1 else none
  | _ => none
section
variable {S : Store} {ρ : Env}
@[simp] theorem o_int (i : Int) : intF [.int i] S = some (.ok (.int i) S) := rfl
@[simp] theorem o_intb (b : Bool) : intF [.bl b] S = some (.ok (.int (if b = true then 1 else 0)) S) := rfl
@[simp] theorem o_str (i : Int) : strF [.int i] S = if i.natAbs.log2 < 1920 then some (.ok (.str (dec i)) S) else none := rfl
@[simp] theorem o_join (sep : List Nat) (n : Nat) : joinF [.str sep, .ref n] S = match S[n]? with
    | some (.lst xs) => (match strsL xs with
      | some ys => if (ys.map List.length).sum + ys.length * sep.length ≤ 16777216 then some (.ok (.str (joinS sep ys)) S) else none
      | none => none)
    | _ => none := rfl
@[simp] theorem o_sum (n : Nat) : sumF [.ref n] S = match S[n]? with
    | some (.lst xs) => (match intsL xs with
      | some ys => some (.ok (.int ys.sum) S)
      | none => none)
    | _ => none := rfl
@[simp] theorem o_maxL (n : Nat) : maxLF [.ref n] S = match S[n]? with
    | some (.lst xs) => (match (intsL xs).bind maxI with
      | some y => some (.ok (.int y) S)
      | none => none)
    | _ => none := rfl
@[simp] theorem x_r2 (a b : SE) : iR2 a b ρ S = bd (a ρ S) fun d S1 => bd (b ρ S1) fun e S2 => match d, e with
  | .int i, .int j => if r62 i ∧ r62 j then some (.ok ⟨(List.range (j - i).toNat).map fun (k : Nat) => .int (i + k), fun _ => True⟩ S2) else none
  | _, _ => none := rfl
@[simp] theorem x_r3 (a b c : SE) : iR3 a b c ρ S = bd (a ρ S) fun d S1 => bd (b ρ S1) fun e S2 => bd (c ρ S2) fun f S3 => match d, e, f with
  | .int i, .int j, .int k => if r24 i j k then some (.ok ⟨stepsL i k (if i < j then ((j - i - 1) / k + 1).toNat else 0), fun _ => True⟩ S3) else none
  | _, _, _ => none := rfl
@[simp] theorem x_lr (a : SE) : eLR a ρ S = bd (a ρ S) fun d S1 => match d with
  | .int n => if r62 n ∧ n.toNat ≤ LINE then some (.ok (.ref S1.length) (S1 ++ [.lst ((List.range n.toNat).map fun (k : Nat) => .int k)])) else none
  | _ => none := rfl
end
end Z
namespace Z
def inRb (n : Int) : PD → Bool
  | .int i => decide (0 ≤ i ∧ i < n)
  | .bl b => decide ((if b = true then (1 : Int) else 0) < n)
  | _ => false
def inRD : D → D → Store → M D := fun d e S => match e with
  | .int n => (match dat S d with
    | some x => if x.dep ≤ 60 ∧ 0 ≤ n ∧ n ≤ 1000 then some (.ok (.bl (inRb n x)) S) else none
    | none => none)
  | _ => none
end Z
namespace Z
/-- d[::-1] -/
def revD : D → Store → M D := fun d S => match d with
  | .ref n => (match S[n]? with
    | some (.lst xs) => new1 (.lst xs.reverse) S
    | _ => none)
  | _ => none
end Z
namespace Z
/-- text.split(c): cur, what stands ahead -/
def splitA (c : Nat) : List Nat → List Nat → List (List Nat)
  | cur, [] => [cur]
  | cur, x :: r => if x = c then cur :: splitA c [] r else splitA c (cur ++ [x]) r
def splitF : Fn := fun ds S => match ds with
  | [.str s, .str [c]] => if s.length + 2 ≤ 16777216 then new1 (.lst ((splitA c [] s).map .str)) S else none
  | _ => none
end Z
namespace Z
/-- int(word), a figure's too -/
def intTF : Fn := fun ds S => match ds with
  | [.str [k]] => if 48 ≤ k ∧ k ≤ 57 then some (.ok (.int ((k : Int) - 48)) S) else none
  | ds => intF ds S
@[simp] theorem o_intT (k : Nat) (S : Store) : intTF [.str [k]] S = if 48 ≤ k ∧ k ≤ 57 then some (.ok (.int ((k : Int) - 48)) S) else none := rfl
@[simp] theorem o_split (s : List Nat) (c : Nat) (S : Store) : splitF [.str s, .str [c]] S = if s.length + 2 ≤ 16777216 then some (.ok (.ref S.length) (S ++ [.lst ((splitA c [] s).map .str)])) else none := rfl
@[simp] theorem o_rev (n : Nat) (S : Store) : revD (.ref n) S = match S[n]? with
    | some (.lst xs) => some (.ok (.ref S.length) (S ++ [.lst xs.reverse]))
    | _ => none := rfl
end Z
namespace Z
/-- try: b, except the class x: h -/
def sTry (x : String) (b h : SS) : SS := fun ρ S => match b ρ S with
  | some (.ex c ρ1 S1) => if c = x then h ρ1 S1 else none
  | o => o
@[simp] theorem x_raise (c : String) (ρ : Env) (S : Store) : sRaise c ρ S = some (.ex c ρ S) := rfl
@[simp] theorem x_try (x : String) (b h : SS) (ρ : Env) (S : Store) : sTry x b h ρ S = match b ρ S with
    | some (.ex c ρ1 S1) => if c = x then h ρ1 S1 else none
    | o => o := rfl
end Z
namespace Z
def kEq0 : D → D → Bool
  | .int i, .int j => decide (i = j)
  | .str s, .str t => decide (s = t)
  | _, _ => false
def kEqL : List D → List D → Bool
  | [], [] => true
  | x :: xs, y :: ys => kEq0 x y && kEqL xs ys
  | _, _ => false
def tget (kvs : List (List D × D)) (k : List D) : Option D := (kvs.find? fun p => kEqL p.1 k).map (·.2)
def tput (kvs : List (List D × D)) (k : List D) (v : D) : List (List D × D) :=
  if (kvs.any fun p => kEqL p.1 k) = true then kvs.map (fun p => if kEqL p.1 k = true then (p.1, v) else p) else kvs ++ [(k, v)]
def eDctT : SE := fun _ S => new1 (.st []) S
/-- (a, ..) not in d -/
def eTNi (es : List SE) (d : SE) : SE := fun ρ S => bd (evL es ρ S) fun ks S1 => bd (d ρ S1) fun x S2 => match x with
  | .ref n => (match S2[n]? with
    | some (.st kvs) => if fK ks = true then some (.ok (.bl (!(tget kvs ks).isSome)) S2) else none
    | _ => none)
  | _ => none
/-- d[a, ..] -/
def eTGet (d : SE) (es : List SE) : SE := fun ρ S => bd (d ρ S) fun x S1 => bd (evL es ρ S1) fun ks S2 => match x with
  | .ref n => (match S2[n]? with
    | some (.st kvs) => if fK ks = true then (match tget kvs ks with | some v => some (.ok v S2) | none => none) else none
    | _ => none)
  | _ => none
/-- d[a, ..] = v -/
def sTPut (d : SE) (es : List SE) (v : SE) : SS := fun ρ S => bo (v ρ S) ρ fun w S1 => bo (d ρ S1) ρ fun x S2 => bo (evL es ρ S2) ρ fun ks S3 => match x with
  | .ref n => (match S3[n]? with
    | some (.st kvs) => if fK ks = true ∧ ks.length ≤ 1000 ∧ kvs.length < 16000000 then some (.nx ρ (S3.set n (.st (tput kvs ks w)))) else none
    | _ => none)
  | _ => none
section
variable {ρ : Env} {S : Store}
@[simp] theorem x_dctT : eDctT ρ S = some (.ok (.ref S.length) (S ++ [.st []])) := rfl
@[simp] theorem x_tni (es : List SE) (d : SE) : eTNi es d ρ S = bd (evL es ρ S) fun ks S1 => bd (d ρ S1) fun x S2 => match x with
  | .ref n => (match S2[n]? with
    | some (.st kvs) => if fK ks = true then some (.ok (.bl (!(tget kvs ks).isSome)) S2) else none
    | _ => none)
  | _ => none := rfl
@[simp] theorem x_tget (es : List SE) (d : SE) : eTGet d es ρ S = bd (d ρ S) fun x S1 => bd (evL es ρ S1) fun ks S2 => match x with
  | .ref n => (match S2[n]? with
    | some (.st kvs) => if fK ks = true then (match tget kvs ks with | some v => some (.ok v S2) | none => none) else none
    | _ => none)
  | _ => none := rfl
@[simp] theorem x_tput (es : List SE) (d v : SE) : sTPut d es v ρ S = bo (v ρ S) ρ fun w S1 => bo (d ρ S1) ρ fun x S2 => bo (evL es ρ S2) ρ fun ks S3 => match x with
  | .ref n => (match S3[n]? with
    | some (.st kvs) => if fK ks = true ∧ ks.length ≤ 1000 ∧ kvs.length < 16000000 then some (.nx ρ (S3.set n (.st (tput kvs ks w)))) else none
    | _ => none)
  | _ => none := rfl
end
end Z
namespace Z
/-- repr(i) -/
def reprIF : Fn := fun ds S => match ds with
  | [.int i] => if i.natAbs.log2 < 1920 then some (.ok (.str (dec i)) S) else none
  | _ => none
@[simp] theorem o_reprI (i : Int) (S : Store) : reprIF [.int i] S = if i.natAbs.log2 < 1920 then some (.ok (.str (dec i)) S) else none := rfl
end Z
namespace Z
def kvL : D → Option (List D)
  | .tup ks => if fK ks = true then some ks else none
  | _ => none
/-- a dict as it is read: it may be locked by a walk -/
def stAt (S : Store) : D → Option (List (List D × D))
  | .ref n => (match S[n]? with | some (.st kvs) => some kvs | some (.dct kvs) => some kvs | _ => none)
  | _ => none
def kIn (x y : D) (S : Store) : M D := match kvL x, stAt S y with
  | some ks, some kvs => some (.ok (.bl (tget kvs ks).isSome) S)
  | _, _ => none
def kNi (x y : D) (S : Store) : M D := match kvL x, stAt S y with
  | some ks, some kvs => some (.ok (.bl (!(tget kvs ks).isSome)) S)
  | _, _ => none
def kGet (y x : D) (S : Store) : M D := match kvL x, stAt S y with
  | some ks, some kvs => (match tget kvs ks with | some v => some (.ok v S) | none => none)
  | _, _ => none
/-- d[k] = v -/
def sKPut (d k v : SE) : SS := fun ρ S => bo (v ρ S) ρ fun w S1 => bo (d ρ S1) ρ fun y S2 => bo (k ρ S2) ρ fun x S3 => match y, kvL x with
  | .ref n, some ks => (match S3[n]? with
    | some (.st kvs) => if kvs.length < 16000000 then some (.nx ρ (S3.set n (.st (tput kvs ks w)))) else none
    | _ => none)
  | _, _ => none
/-- {k: v} -/
def eDct1 (k v : SE) : SE := fun ρ S => bd (k ρ (S ++ [.st []])) fun x S1 => bd (v ρ S1) fun w S2 => match kvL x, S2[S.length]? with
  | some ks, some (.st []) => some (.ok (.ref S.length) (S2.set S.length (.st [(ks, w)])))
  | _, _ => none
def prOf : List D → Option (List (List D × D))
  | [] => some []
  | .tup [k, v] :: r => (match kvL k, prOf r with | some ks, some t => some ((ks, v) :: t) | _, _ => none)
  | _ => none
/-- dict(xs), of a list of pairs -/
def dictF : Fn := fun ds S => match ds with
  | [.ref n] => (match S[n]? with
    | some (.lst xs) => (match prOf xs with
      | some kvs => if kvs.length < 16000000 then new1 (.st (kvs.foldl (fun acc p => tput acc p.1 p.2) [])) S else none
      | none => none)
    | _ => none)
  | _ => none
def i0 : D → Bool
  | .int _ => true
  | _ => false
/-- what is walked: the keys of a dict that is locked -/
def iKeyD (d : SE) : SI := fun ρ S => bd (d ρ S) fun y S1 => match y with
  | .ref n => (match S1[n]? with
    | some (.dct kvs) => if (kvs.all fun p => fK p.1 && p.1.all i0) = true then some (.ok ⟨kvs.map fun p => .tup p.1, fun S => S[n]? = some (.dct kvs)⟩ S1) else none
    | _ => none)
  | _ => none
section
variable {ρ : Env} {S : Store}
@[simp] theorem x_kput (d k v : SE) : sKPut d k v ρ S = bo (v ρ S) ρ fun w S1 => bo (d ρ S1) ρ fun y S2 => bo (k ρ S2) ρ fun x S3 => match y, kvL x with
  | .ref n, some ks => (match S3[n]? with
    | some (.st kvs) => if kvs.length < 16000000 then some (.nx ρ (S3.set n (.st (tput kvs ks w)))) else none
    | _ => none)
  | _, _ => none := rfl
@[simp] theorem x_dct1 (k v : SE) : eDct1 k v ρ S = bd (k ρ (S ++ [.st []])) fun x S1 => bd (v ρ S1) fun w S2 => match kvL x, S2[S.length]? with
  | some ks, some (.st []) => some (.ok (.ref S.length) (S2.set S.length (.st [(ks, w)])))
  | _, _ => none := rfl
@[simp] theorem x_keyD (d : SE) : iKeyD d ρ S = bd (d ρ S) fun y S1 => match y with
  | .ref n => (match S1[n]? with
    | some (.dct kvs) => if (kvs.all fun p => fK p.1 && p.1.all i0) = true then some (.ok ⟨kvs.map fun p => .tup p.1, fun S => S[n]? = some (.dct kvs)⟩ S1) else none
    | _ => none)
  | _ => none := rfl
@[simp] theorem o_kvL (ks : List D) : kvL (.tup ks) = if fK ks = true then some ks else none := rfl
@[simp] theorem o_stAt (n : Nat) : stAt S (.ref n) = (match S[n]? with | some (.st kvs) => some kvs | some (.dct kvs) => some kvs | _ => none) := rfl
@[simp] theorem o_kIn (x y : D) : kIn x y S = match kvL x, stAt S y with
  | some ks, some kvs => some (.ok (.bl (tget kvs ks).isSome) S)
  | _, _ => none := rfl
@[simp] theorem o_kNi (x y : D) : kNi x y S = match kvL x, stAt S y with
  | some ks, some kvs => some (.ok (.bl (!(tget kvs ks).isSome)) S)
  | _, _ => none := rfl
@[simp] theorem o_kGet (x y : D) : kGet y x S = match kvL x, stAt S y with
  | some ks, some kvs => (match tget kvs ks with | some v => some (.ok v S) | none => none)
  | _, _ => none := rfl
@[simp] theorem o_dictF (n : Nat) : dictF [.ref n] S = (match S[n]? with
    | some (.lst xs) => (match prOf xs with
      | some kvs => if kvs.length < 16000000 then some (.ok (.ref S.length) (S ++ [.st (kvs.foldl (fun acc p => tput acc p.1 p.2) [])])) else none
      | none => none)
    | _ => none) := rfl
end
end Z
namespace Z
def ltN : List Nat → List Nat → Bool
  | _, [] => false
  | [], _ :: _ => true
  | x :: xs, y :: ys => if x < y then true else if y < x then false else ltN xs ys
theorem ltN_irr : ∀ a : List Nat, ltN a a = false
  | [] => rfl
  | x :: xs => by simp [ltN, ltN_irr xs]
theorem ltN_tri : ∀ a b : List Nat, ltN a b = true ∨ a = b ∨ ltN b a = true
  | [], [] => .inr (.inl rfl)
  | [], y :: ys => .inl rfl
  | x :: xs, [] => .inr (.inr rfl)
  | x :: xs, y :: ys => by
    rcases Nat.lt_trichotomy x y with h | h | h
    · left; simp [ltN, h]
    · subst h
      rcases ltN_tri xs ys with h | h | h
      · left; simp [ltN, h]
      · right; left; rw [h]
      · right; right; simp [ltN, h]
    · right; right; simp [ltN, h]
theorem ltN_tr : ∀ {a b c : List Nat}, ltN a b = true → ltN b c = true → ltN a c = true
  | a, [], c, h, _ => by cases a <;> cases h
  | a, _ :: _, [], _, h => by cases h
  | [], y :: ys, z :: zs, _, _ => rfl
  | x :: xs, y :: ys, z :: zs, h, g => by
    unfold ltN at h g ⊢
    by_cases h1 : x < y
    · by_cases g1 : y < z
      · rw [if_pos (by omega)]
      · rw [if_neg g1] at g
        by_cases g2 : z < y
        · rw [if_pos g2] at g; cases g
        · rw [if_pos (by omega)]
    · rw [if_neg h1] at h
      by_cases h2 : y < x
      · rw [if_pos h2] at h; cases h
      · rw [if_neg h2] at h
        have e : x = y := by omega
        subst e
        by_cases g1 : x < z
        · rw [if_pos g1]
        · rw [if_neg g1] at g ⊢
          by_cases g2 : z < x
          · rw [if_pos g2] at g; cases g
          · rw [if_neg g2] at g ⊢
            exact ltN_tr h g
theorem ltN_asym {a b : List Nat} (h : ltN a b = true) : ltN b a = false := by
  cases g : ltN b a with
  | false => rfl
  | true => have := ltN_tr h g; rw [ltN_irr] at this; cases this
abbrev Strict (l : List (List Nat)) : Prop := l.Pairwise fun a b => ltN a b = true
abbrev Weak (l : List (List Nat)) : Prop := l.Pairwise fun a b => ltN b a = false
/-- strictly rising lists of the same members are one and the same -/
theorem strict_eq : ∀ {l m : List (List Nat)}, Strict l → Strict m → (∀ x, x ∈ l ↔ x ∈ m) → l = m
  | [], [], _, _, _ => rfl
  | [], b :: m, _, _, h => absurd ((h b).mpr (by simp)) (by simp)
  | a :: l, [], _, _, h => absurd ((h a).mp (by simp)) (by simp)
  | a :: l, b :: m, hl, hm, h => by
    obtain ⟨l1, l2⟩ := List.pairwise_cons.mp hl
    obtain ⟨m1, m2⟩ := List.pairwise_cons.mp hm
    have e : a = b := by
      rcases List.mem_cons.mp ((h a).mp (by simp)) with e | e
      · exact e
      · rcases List.mem_cons.mp ((h b).mpr (by simp)) with e' | e'
        · exact e'.symm
        · have p := m1 a e
          have q := l1 b e'
          rw [ltN_asym p] at q
          cases q
    subst e
    rw [strict_eq l2 m2 fun x => ⟨fun hx => by
      rcases List.mem_cons.mp ((h x).mp (List.mem_cons_of_mem _ hx)) with e | e
      · subst e; have := l1 x hx; rw [ltN_irr] at this; cases this
      · exact e, fun hx => by
      rcases List.mem_cons.mp ((h x).mpr (List.mem_cons_of_mem _ hx)) with e | e
      · subst e; have := m1 x hx; rw [ltN_irr] at this; cases this
      · exact e⟩]
theorem strict_of {l : List (List Nat)} (h : Weak l) (nd : l.Nodup) : Strict l := by
  induction l with
  | nil => exact List.Pairwise.nil
  | cons a l ih =>
    obtain ⟨h1, h2⟩ := List.pairwise_cons.mp h
    obtain ⟨n1, n2⟩ := List.nodup_cons.mp nd
    refine List.pairwise_cons.mpr ⟨fun b hb => ?_, ih h2 n2⟩
    rcases ltN_tri a b with c | c | c
    · exact c
    · subst c; exact absurd hb n1
    · rw [h1 b hb] at c; cases c
def insU (x : List Nat) : List (List Nat) → List (List Nat)
  | [] => [x]
  | y :: r => if x = y then y :: r else if ltN x y = true then x :: y :: r else y :: insU x r
def sortU (ws : List (List Nat)) : List (List Nat) := ws.foldr insU []
theorem insU_mem {x z : List Nat} : ∀ {l : List (List Nat)}, z ∈ insU x l ↔ z = x ∨ z ∈ l
  | [] => by simp [insU]
  | y :: r => by
    unfold insU
    split
    · rename_i h; subst h; simp
    · split
      · simp
      · rw [List.mem_cons, insU_mem, List.mem_cons]
        constructor
        · rintro (h | h | h)
          · exact .inr (.inl h)
          · exact .inl h
          · exact .inr (.inr h)
        · rintro (h | h | h)
          · exact .inr (.inl h)
          · exact .inl h
          · exact .inr (.inr h)
theorem insU_strict {x : List Nat} : ∀ {l : List (List Nat)}, Strict l → Strict (insU x l)
  | [], _ => List.pairwise_singleton _ _
  | y :: r, h => by
    obtain ⟨h1, h2⟩ := List.pairwise_cons.mp h
    unfold insU
    split
    · exact h
    · rename_i hne
      split
      · rename_i hlt
        exact List.pairwise_cons.mpr ⟨fun z hz => by rcases List.mem_cons.mp hz with e | e; subst e; exact hlt; exact ltN_tr hlt (h1 z e), h⟩
      · rename_i hlt
        refine List.pairwise_cons.mpr ⟨fun z hz => ?_, insU_strict h2⟩
        rcases insU_mem.mp hz with e | e
        · subst e
          rcases ltN_tri y z with c | c | c
          · exact c
          · exact absurd c.symm hne
          · exact absurd c hlt
        · exact h1 z e
theorem sortU_mem {z : List Nat} : ∀ {ws : List (List Nat)}, z ∈ sortU ws ↔ z ∈ ws
  | [] => by simp [sortU]
  | w :: ws => by
    have ih := sortU_mem (z := z) (ws := ws)
    unfold sortU at ih ⊢
    rw [List.foldr_cons, insU_mem, ih, List.mem_cons]
theorem sortU_strict : ∀ ws : List (List Nat), Strict (sortU ws)
  | [] => List.Pairwise.nil
  | w :: ws => insU_strict (sortU_strict ws)
theorem strict_nodup {l : List (List Nat)} (h : Strict l) : l.Nodup := h.imp fun {a b} e => by rintro rfl; rw [ltN_irr] at e; cases e
def strL : List D → Option (List (List Nat))
  | [] => some []
  | .str s :: r => (strL r).map (s :: ·)
  | _ => none
theorem strL_map : ∀ ws : List (List Nat), strL (ws.map .str) = some ws
  | [] => rfl
  | w :: ws => by rw [List.map_cons, strL, strL_map ws]; rfl
/-- sorted(set(xs)), texts -/
def ssetF : Fn := fun ds S => match ds with
  | [.ref n] => (match S[n]? with
    | some (.lst xs) => (match strL xs with
      | some ws => if ws.length < 64 then new1 (.lst ((sortU ws).map .str)) S else none
      | none => none)
    | _ => none)
  | _ => none
/-- len(set(xs)), texts -/
def lsetF : Fn := fun ds S => match ds with
  | [.ref n] => (match S[n]? with
    | some (.lst xs) => (match strL xs with
      | some ws => if ws.length < 64 then some (.ok (.int (sortU ws).length) S) else none
      | none => none)
    | _ => none)
  | _ => none
theorem sset_of {S : Store} {n : Nat} {ws : List (List Nat)} (h : S[n]? = some (.lst (ws.map .str))) (hl : ws.length < 64) : ssetF [.ref n] S = some (.ok (.ref S.length) (S ++ [.lst ((sortU ws).map .str)])) := by
  unfold ssetF
  dsimp only
  rw [h]
  dsimp only
  rw [strL_map]
  dsimp only
  rw [if_pos hl]
  rfl
theorem lset_of {S : Store} {n : Nat} {ws : List (List Nat)} (h : S[n]? = some (.lst (ws.map .str))) (hl : ws.length < 64) : lsetF [.ref n] S = some (.ok (.int (sortU ws).length) S) := by
  unfold lsetF
  dsimp only
  rw [h]
  dsimp only
  rw [strL_map]
  dsimp only
  rw [if_pos hl]
end Z
namespace Z
def fget (kvs : List (D × D)) (k : D) : Option D := (kvs.find? fun p => kEq0 p.1 k).map (·.2)
def fput (kvs : List (D × D)) (k v : D) : List (D × D) :=
  if (kvs.any fun p => kEq0 p.1 k) = true then kvs.map (fun p => if kEq0 p.1 k = true then (p.1, v) else p) else kvs ++ [(k, v)]
def dkAt (S : Store) : D → Option (List (D × D))
  | .ref n => (match S[n]? with | some (.dk kvs) => some kvs | some (.dkl kvs) => some kvs | _ => none)
  | _ => none
def fIn (x y : D) (S : Store) : M D := match dkAt S y with
  | some kvs => if k0 x = true then some (.ok (.bl (fget kvs x).isSome) S) else none
  | none => none
def fNi (x y : D) (S : Store) : M D := match dkAt S y with
  | some kvs => if k0 x = true then some (.ok (.bl (!(fget kvs x).isSome)) S) else none
  | none => none
def fGet (y x : D) (S : Store) : M D := match dkAt S y with
  | some kvs => if k0 x = true then (match fget kvs x with | some v => some (.ok v S) | none => none) else none
  | none => none
/-- d[k] = v -/
def sFPut (d k v : SE) : SS := fun ρ S => bo (v ρ S) ρ fun w S1 => bo (d ρ S1) ρ fun y S2 => bo (k ρ S2) ρ fun x S3 => match y with
  | .ref n => (match S3[n]? with
    | some (.dk kvs) => if kvs.length < 16000000 ∧ k0 x = true then some (.nx ρ (S3.set n (.dk (fput kvs x w)))) else none
    | _ => none)
  | _ => none
/-- {} -/
def eDctF : SE := fun _ S => new1 (.dk []) S
/-- {k: v} -/
def eFDct1 (k v : SE) : SE := fun ρ S => bd (k ρ (S ++ [.dk []])) fun x S1 => bd (v ρ S1) fun w S2 => match S2[S.length]? with
  | some (.dk []) => if k0 x = true then some (.ok (.ref S.length) (S2.set S.length (.dk [(x, w)]))) else none
  | _ => none
/-- d.get(k, v) -/
def eFGet2 (d k v : SE) : SE := fun ρ S => bd (d ρ S) fun y S1 => match dkAt S1 y with
  | some _ => bd (k ρ S1) fun x S2 => bd (v ρ S2) fun w S3 => (match dkAt S3 y with
    | some kvs => if k0 x = true then some (.ok ((fget kvs x).getD w) S3) else none
    | none => none)
  | none => none
/-- len(d), d a dict -/
def dlenF : Fn := fun ds S => match ds with
  | [.ref n] => (match S[n]? with
    | some (.st kvs) => if kvs.length < 16000000 then some (.ok (.int kvs.length) S) else none
    | some (.dk kvs) => if kvs.length < 16000000 then some (.ok (.int kvs.length) S) else none
    | _ => none)
  | _ => none
@[simp] theorem o_dlen (n : Nat) (S : Store) : dlenF [.ref n] S = (match S[n]? with
    | some (.st kvs) => if kvs.length < 16000000 then some (.ok (.int kvs.length) S) else none
    | some (.dk kvs) => if kvs.length < 16000000 then some (.ok (.int kvs.length) S) else none
    | _ => none) := rfl
/-- enumerate(t), t a tuple -/
def enumL : Nat → List D → List D
  | _, [] => []
  | k, d :: ds => .tup [.int (k : Nat), d] :: enumL (k + 1) ds
def iEnum1 (a : SE) : SI := fun ρ S => bd (a ρ S) fun d S1 => match d with
  | .tup ds => some (.ok ⟨enumL 0 ds, fun _ => True⟩ S1)
  | _ => none
/-- t[::-1], a tuple -/
def revTD : D → Store → M D := fun d S => match d with
  | .tup xs => some (.ok (.tup xs.reverse) S)
  | _ => none
section
variable {ρ : Env} {S : Store}
@[simp] theorem x_enum1 (a : SE) : iEnum1 a ρ S = bd (a ρ S) fun d S1 => match d with
  | .tup ds => some (.ok ⟨enumL 0 ds, fun _ => True⟩ S1)
  | _ => none := rfl
@[simp] theorem o_revT (xs : List D) : revTD (.tup xs) S = some (.ok (.tup xs.reverse) S) := rfl
@[simp] theorem x_dctF : eDctF ρ S = some (.ok (.ref S.length) (S ++ [.dk []])) := rfl
@[simp] theorem o_dkAt (n : Nat) : dkAt S (.ref n) = (match S[n]? with | some (.dk kvs) => some kvs | some (.dkl kvs) => some kvs | _ => none) := rfl
@[simp] theorem o_fIn (x y : D) : fIn x y S = match dkAt S y with
  | some kvs => if k0 x = true then some (.ok (.bl (fget kvs x).isSome) S) else none
  | none => none := rfl
@[simp] theorem o_fNi (x y : D) : fNi x y S = match dkAt S y with
  | some kvs => if k0 x = true then some (.ok (.bl (!(fget kvs x).isSome)) S) else none
  | none => none := rfl
@[simp] theorem o_fGet (x y : D) : fGet y x S = match dkAt S y with
  | some kvs => if k0 x = true then (match fget kvs x with | some v => some (.ok v S) | none => none) else none
  | none => none := rfl
@[simp] theorem x_fput (d k v : SE) : sFPut d k v ρ S = bo (v ρ S) ρ fun w S1 => bo (d ρ S1) ρ fun y S2 => bo (k ρ S2) ρ fun x S3 => match y with
  | .ref n => (match S3[n]? with
    | some (.dk kvs) => if kvs.length < 16000000 ∧ k0 x = true then some (.nx ρ (S3.set n (.dk (fput kvs x w)))) else none
    | _ => none)
  | _ => none := rfl
@[simp] theorem x_fdct1 (k v : SE) : eFDct1 k v ρ S = bd (k ρ (S ++ [.dk []])) fun x S1 => bd (v ρ S1) fun w S2 => match S2[S.length]? with
  | some (.dk []) => if k0 x = true then some (.ok (.ref S.length) (S2.set S.length (.dk [(x, w)]))) else none
  | _ => none := rfl
@[simp] theorem x_fget2 (d k v : SE) : eFGet2 d k v ρ S = bd (d ρ S) fun y S1 => match dkAt S1 y with
  | some _ => bd (k ρ S1) fun x S2 => bd (v ρ S2) fun w S3 => (match dkAt S3 y with
    | some kvs => if k0 x = true then some (.ok ((fget kvs x).getD w) S3) else none
    | none => none)
  | none => none := rfl
@[simp] theorem o_k0i (i : Int) : k0 (.int i) = true := rfl
@[simp] theorem o_k0s (s : List Nat) : k0 (.str s) = true := rfl
end
end Z
namespace Z
open PySem PySem.Spec PyProof.Rows L2
section
variable {X : Cx} {W : WX} {a b c e tg : Expr} {ma mb mc m : SE} {pos : Pos}
theorem strs_ok {K : KW} {ι : List Addr} {H : Hp} : ∀ {ns : List (List Nat)} {vs : List V}, RepL K ι H (ns.map .str) vs → vs = (ns.map str).map V.str ∧ ∀ s ∈ ns, ∀ c ∈ s, c < 128
  | [], vs, r => by rw [List.map_nil] at r; rw [r.nil]; exact ⟨rfl, fun _ h => by cases h⟩
  | n :: ns, vs, r => by
    rw [List.map_cons] at r
    obtain ⟨v, t, rfl, h1, h2⟩ := r.cons
    rw [Rep] at h1
    obtain ⟨h3, h4⟩ := strs_ok h2
    rw [h1.1, h3]
    refine ⟨rfl, fun s hs => ?_⟩
    rcases List.mem_cons.mp hs with rfl | hs
    · exact h1.2
    · exact h4 s hs
theorem no_int : NoExF intF := by intro ds S c S'; unfold intF; split <;> simp
theorem zc_int : CallR X (.type "int") (rB X intF) := by
  intro pins s σ H xs us Q I r ⟨ι, S, ds, sm, rd, po⟩
  unfold intF at po
  split at po
  · obtain ⟨v, rfl, h⟩ := one_of (ds := []) rd
    rw [Rep] at h
    exact call_int1 pins s σ H _ us Q I r (.inl ⟨_, by rw [h], Po.ret po sm (by rw [Rep])⟩)
  · obtain ⟨v, rfl, h⟩ := one_of (ds := []) rd
    rw [Rep] at h
    exact call_int1 pins s σ H _ us Q I r (.inr ⟨_, by rw [h], Po.ret po sm (by rw [Rep])⟩)
  · exact po.elim
theorem dec_eq (i : Int) : Str.ofString (toString i) = str (dec i) := Str.ofString_eq_toList _
theorem dec_asc (i : Int) : ∀ c ∈ dec i, c < 128 := fun c h => by
  obtain ⟨k, h1, rfl⟩ := List.mem_map.mp h
  exact int_ascii i k h1
theorem join_str (sep : List Nat) : ∀ ys : List (List Nat), Str.join (str sep) (ys.map str) = str (joinS sep ys)
  | [] => rfl
  | [x] => rfl
  | x :: y :: r => by
    have h := join_str sep (y :: r)
    rw [List.map_cons] at h
    rw [List.map_cons, List.map_cons, Str.join, h, joinS]
    · show (⟨((str x).cps ++ (str sep).cps) ++ (str (joinS sep (y :: r))).cps⟩ : Str) = _
      simp [str]
    · simp
theorem join_asc {sep : List Nat} (hs : ∀ c ∈ sep, c < 128) : ∀ ys : List (List Nat), (∀ s ∈ ys, ∀ c ∈ s, c < 128) → ∀ c ∈ joinS sep ys, c < 128
  | [], _, c, h => by cases h
  | [x], g, c, h => g x (by simp) c h
  | x :: y :: r, g, c, h => by
    rw [joinS] at h
    rcases List.mem_append.mp h with h | h
    · rcases List.mem_append.mp h with h | h
      · exact g x (by simp) c h
      · exact hs c h
    · exact join_asc hs (y :: r) (fun s hs' => g s (List.mem_cons_of_mem _ hs')) c h
theorem no_join : NoExF joinF := by intro ds S c S'; unfold joinF; split <;> (try split) <;> (try split) <;> (try split) <;> simp
theorem zm_join : MtR X "str.join" (rM X joinF) := by
  intro pins s σ H x xs v us Q I rx r ⟨ι, S, d, ds, sm, rd, rds, po⟩
  unfold joinF at po
  split at po
  · rename_i sep n heq
    cases heq
    obtain ⟨w, rfl, hw⟩ := one_of (ds := []) rds
    split at po
    · rename_i ys g
      obtain ⟨p, vs, rfl, i1, e1, r1⟩ := lst_ok sm hw g
      split at po
      · rename_i zs hz
        split at po
        · rename_i hl
          have := strsL_eq hz
          subst this
          obtain ⟨q1, q2⟩ := strs_ok r1
          rw [Rep] at rd
          refine mt_join pins s σ H _ _ v us Q I rx r ⟨str sep, p, zs.map str, rd.1, rfl, .inl (by rw [← q1]; exact SqL.of e1), ?_, Po.ret po sm ?_⟩
          · simpa [Str.length, Function.comp_def] using hl
          · rw [Rep, show Txt.join (str sep) (zs.map str) = Str.join (str sep) (zs.map str) from PySem.StrLaws.glued_eq_join _ _, join_str]
            exact ⟨rfl, join_asc rd.2 zs q2⟩
        · exact po.elim
      · exact po.elim
    · exact po.elim
  · exact po.elim
end
end Z
namespace Z
open PySem PySem.Spec PyProof.Rows L2 PySem.SeqAt PySem.MeetsSeq
theorem plain_rng_loop : plainId "range.__contains__.loop" = true := by decide +kernel
theorem entry_rng_loop : entryFor table "range.__contains__.loop" = some Builtin.«range.__contains__.loop» := entryFor_of_tree (by kernel_rfl)
theorem rsize (n : Nat) : Builtin.Range.rangeSize 0 (n : Int) 1 = n := by
  rw [rangeSize_one]; split <;> omega
theorem rng_loop (r : Addr) (n : Nat) (t u v : Tok) (x : Value) (k : Nat) : ∀ i : Nat, n - i = k → Meets (Builtin.«range.__contains__.loop» ⟨[.ref r, x, rawInt i], []⟩)
    (fun A R s => s.heap.get? r = some { cls := .type "range", dict := none, data := .fields #[.int 0 t, .int n u, .int 1 v], slots := #[] } ∧
      (∀ (j : Int) (tk : Tok) (s' : Shared), s'.heap = s.heap → SeqAt.EqAt A.in1 s' (.int j tk) x false) ∧ ∀ tk, R (.ok (.ret (.bool false))) { s with toks := tk }) := by
  induction k with
  | zero =>
    intro i hk prog w A R s h
    obtain ⟨hp, g, d, tk, os⟩ := s; obtain ⟨hl, he, h⟩ := h
    wp_walk
    rw [rsize, if_pos (show (i : Int) ≥ n by omega)]
    wp_walk
    exact h tk
  | succ k ih =>
    intro i hk prog w A R s h
    obtain ⟨hp, g, d, tk, os⟩ := s; obtain ⟨hl, he, h⟩ := h
    wp_walk
    rw [rsize, if_neg (show ¬ (i : Int) ≥ n by omega)]
    generalize hEB : eqBool = EB
    wp_walk
    subst hEB
    refine he _ _ { heap := hp, gens := g, drawn := d, toks := tk + 1, os := os } rfl prog w _ _ ?_
    have hc : ((i : Int) + 1) = ((i + 1 : Nat) : Int) := by push_cast; rfl
    wp_walk
    rw [hc]
    exact ⟨plainId_quiet plain_rng_loop _, codeAny_builtin entry_rng_loop (by
      rw [Around.under_plainId plain_rng_loop _]
      exact ih (i + 1) (by omega) prog w A R _ ⟨hl, fun j tk' s' hs => he j tk' s' hs, h⟩)⟩
theorem rng_contains (r : Addr) (n : Nat) (t u v : Tok) (x : Value) (hx : Builtin.Range.rangeExactInt? x = none) : Meets (Builtin.«range.__contains__» ⟨[.ref r, x], []⟩)
    (fun A R s => s.heap.get? r = some { cls := .type "range", dict := none, data := .fields #[.int 0 t, .int n u, .int 1 v], slots := #[] } ∧
      (∀ (j : Int) (tk : Tok) (s' : Shared), s'.heap = s.heap → SeqAt.EqAt A.in1 s' (.int j tk) x false) ∧ ∀ tk, R (.ok (.ret (.bool false))) { s with toks := tk }) := by
  intro prog w A R s h
  obtain ⟨hp, g, d, tk, os⟩ := s; obtain ⟨hl, he, h⟩ := h
  wp_walk
  rw [hx]
  wp_walk
  exact ⟨plainId_quiet plain_rng_loop _, codeAny_builtin entry_rng_loop (by
    rw [Around.under_plainId plain_rng_loop _]
    exact rng_loop r n t u v x _ 0 rfl prog w A R _ ⟨hl, fun j tk' s' hs => he j tk' s' hs, h⟩)⟩
theorem rng_contains_bool (r : Addr) (n : Nat) (t u v : Tok) (b : Bool) : Meets (Builtin.«range.__contains__» ⟨[.ref r, .bool b], []⟩)
    (fun A R s => s.heap.get? r = some { cls := .type "range", dict := none, data := .fields #[.int 0 t, .int n u, .int 1 v], slots := #[] } ∧ R (.ok (.ret (.bool (Builtin.Range.rangePlace? 0 n 1 (if b then 1 else 0)).isSome))) s) := by
  intro prog w A R s h
  obtain ⟨hp, g, d, tk, os⟩ := s; obtain ⟨hl, h⟩ := h
  wp_walk
  exact h
section
variable {X : Cx}
theorem eqv_no {j : Int} : ∀ {x : PD}, (∀ i, x ≠ .int i) → (∀ b, x ≠ .bl b) → PyData.eqv (.int j) x.py = false
  | .int i, h, _ => absurd rfl (h i)
  | .bl b, _, h => absurd rfl (h b)
  | .non, _, _ => by simp [PD.py, PyData.eqv]
  | .str s, _, _ => by simp [PD.py, PyData.eqv]
  | .lst s, _, _ => by simp [PD.py, PyData.eqv]
  | .tup s, _, _ => by simp [PD.py, PyData.eqv]
theorem op_in_rngD (hu : X.A.units + 65 < cLine) : OpR X (compareOp .In) (fun x y H Q => ∃ ι S d a n pd, Sim X.KW ι S H ∧ Rep X.KW ι H d x ∧ y = V.ref a ∧ H a = some (.rng 0 n) ∧ dat S d = some pd ∧ pd.dep ≤ 60 ∧ 0 ≤ n ∧ Q (.bl (inRb n pd)) H) := by
  intro pins s σ H x y v u Q I rx ry ⟨ι, S, d, a, n, pd, sm, rd, hy, ha, hd, h60, hn, q⟩
  subst hy
  obtain ⟨n, rfl⟩ : ∃ m : Nat, n = m := ⟨n.toNat, (Int.toNat_of_nonneg hn).symm⟩
  obtain ⟨q1, q2⟩ := dat_ok sm rd hd
  obtain ⟨as, rr⟩ := Dp.reads I _ x v q1 rx
  obtain rfl : u = Value.ref a := ry
  obtain ⟨t1, t2, t3, ho⟩ := I.hok a _ ha
  have gen : Builtin.Range.rangeExactInt? v = none → (∀ i, pd ≠ .int i) → (∀ b, pd ≠ .bl b) → inRb n pd = false → wpAny (model X.prog X.w) X.A (compareOp .In v (Value.ref a)) (EP X pins σ Q) X.xe s := fun hv h1 h2 h3 => by
    show wpAny _ _ (do return Value.bool (← contains (Value.ref a) v)) _ _ s
    refine wpAny_bind (wpAny_contains_slot (T := "range") ⟨_, ho, rfl⟩ F.slot_range_contains (call_meets F.slot_range_contains ⟨_, ho, rfl⟩ F.entry_range_contains (F.args_range_contains_2 _ _) (rng_contains a n t1 t2 t3 v hv)
      ⟨ho, fun j tk s' hs => ?_, fun tk => wpAny_truthy_bool (wpAny_pure ⟨.bl false, H, I.tok _, rfl, by rw [h3] at q; exact q⟩)⟩))
    have e := eqAt_reads (.int j) pd.py X.A.in1 s' (.int j tk) v [] as (Reads.int j tk) (by rw [hs]; exact rr) rfl (py_lay pd q2) (by show X.A.units + 1 + _ < _; rw [py_depth]; omega)
    rw [eqv_no h1 h2] at e
    exact e
  cases pd with
  | int i =>
    cases q1
    exact op_in_rng pins s σ H (V.int i) (V.ref a) v (Value.ref a) Q I rx rfl ⟨i, a, 0, n, rfl, rfl, ha, q⟩
  | bl b =>
    cases q1
    cases rx
    show wpAny _ _ (do return Value.bool (← contains (Value.ref a) (.bool b))) _ _ s
    refine wpAny_bind (wpAny_contains_slot (T := "range") ⟨_, ho, rfl⟩ F.slot_range_contains (call_meets F.slot_range_contains ⟨_, ho, rfl⟩ F.entry_range_contains (F.args_range_contains_2 _ _) (rng_contains_bool a n t1 t2 t3 b)
      ⟨ho, wpAny_truthy_bool (wpAny_pure ⟨.bl _, H, I, rfl, ?_⟩)⟩))
    rw [place1]
    have e : decide ((0 : Int) ≤ (if b = true then 1 else 0) ∧ (if b = true then (1 : Int) else 0) < n) = inRb n (.bl b) := by
      unfold inRb
      rw [Bool.eq_iff_iff]
      simp only [decide_eq_true_eq]
      constructor
      · exact fun h => h.2
      · exact fun h => ⟨by split <;> omega, h⟩
    rw [e]
    exact q
  | non => cases rr; exact gen rfl (fun _ => nofun) (fun _ => nofun) rfl
  | str z => cases rr; exact gen rfl (fun _ => nofun) (fun _ => nofun) rfl
  | lst z => cases rr; exact gen rfl (fun _ => nofun) (fun _ => nofun) rfl
  | tup z => cases rr; exact gen rfl (fun _ => nofun) (fun _ => nofun) rfl
theorem cr_rng1 : CallR X (.type "range") (fun vs H Q => ∃ i, vs = [V.int i] ∧ ∀ p, H p = none → Q (.ref p) (upd H p (.rng 0 i))) := by
  intro pins s σ H vs us Q I r h
  obtain ⟨i, rfl, q⟩ := h
  obtain ⟨u, rfl, t, rfl⟩ := vals1 r
  refine call_range_1 ⟨.ref s.heap.objs.size, upd H s.heap.objs.size (.rng 0 i), I.laid (t' := s.toks + 1 + 1) (fun b o e => Heap.get?_push_of_some _ e) (Nat.le_refl _) ?_, rfl, q _ (I.hok.fresh (Nat.le_refl _))⟩
  exact ⟨s.toks, t, s.toks + 1, Heap.get?_push_size _ rfl⟩
variable {W : WX} {a b : Expr} {ma mb : SE} {pos q : Pos}
theorem no_inR : NoEx inRD := by intro d e S c S'; unfold inRD; split <;> (try split) <;> (try split) <;> simp
theorem inr_read {σ : L2.St} {H : Hp} {Q : VK} (h : tE X.KW X.mg W (e2 inRD ma mb) σ H Q) : tOp (fun x y H Q => ∃ ι S d a n pd, Sim X.KW ι S H ∧ Rep X.KW ι H d x ∧ y = V.ref a ∧ H a = some (.rng 0 n) ∧ dat S d = some pd ∧ pd.dep ≤ 60 ∧ 0 ≤ n ∧ Q (.bl (inRb n pd)) H) (tE X.KW X.mg W ma)
    (fun σ H Q => tE X.KW X.mg W mb σ H fun y H1 => ∃ i, [y] = [V.int i] ∧ ∀ p, H1 p = none → Q (.ref p) (upd H1 p (.rng 0 i))) σ H Q := by
  obtain ⟨ι, ρ, S, s, r, p⟩ := h
  refine ⟨ι, ρ, S, s, r, Po.bd p fun d S1 ι1 H1 x e1 s1 r1 p1 => ?_⟩
  refine ⟨ι1, ρ, S1, s1, r.ext e1, Po.bd p1 fun d' S2 ι2 H2 y e2 s2 r2 p2 => ?_⟩
  have p2 := p2.noex (E' := fun _ _ _ => False) fun c S' => no_inR d d' S2 c S'
  unfold inRD at p2
  cases d' with
  | int n =>
    dsimp only at p2
    rw [Rep] at r2
    refine ⟨n, by rw [r2], fun pa hpa => ?_⟩
    match g : dat S2 d, p2 with
    | some pd, p2 =>
      dsimp only at p2
      by_cases hc : pd.dep ≤ 60 ∧ 0 ≤ n ∧ n ≤ 1000
      · rw [if_pos hc] at p2
        have ex := ext_tup (ι := ι2) (o := HO.rng 0 n) hpa
        exact ⟨ι2, S2, d, pa, n, pd, s2.tup hpa, Rep.ext ex _ _ (Rep.ext e2 _ _ r1), rfl, upd_same, g, hc.1, hc.2.1, Po.ret (Po.mono ex p2) (s2.tup hpa) (by rw [Rep])⟩
      · rw [if_neg hc] at p2; exact p2.elim
  | _ => exact p2.elim
theorem pe_rng1 {x : Str} {p : Pos} {t : TE} (hg : Gl X x) (hm : X.mg x = none) (hv : bootBuiltins x = some (.type "range")) (hb : PE X b t) 
    (hn : x ≠ "__name__" := by decide) (hdb : (x == ("__debug__" : Str)) = false := by decide) (he : starEach [b] X.env = (false, eval b X.env) :: starEach [] X.env := by rfl) (hpl : (backTo q (starEach [] X.env)).any (·.1) = false := by rfl) :
    PE X (.Call (.Name x p) [b] [] q) (fun σ H Q => t σ H fun y H1 => ∃ i, [y] = [V.int i] ∧ ∀ p, H1 p = none → Q (.ref p) (upd H1 p (.rng 0 i))) :=
  (pe_callTy cr_rng1 hg hm hv (pa_cons hb pa_nil he) hn hdb he hpl).imp fun σ H Q h => h
theorem gt_inr {x : Str} {p : Pos} (hu : X.A.units + 65 < cLine) (hg : Gl X x) (hm : X.mg x = none) (hv : bootBuiltins x = some (.type "range")) (ha : GE X W a ma) (hb : GE X W b mb)
    (hn : x ≠ "__name__" := by decide) (hdb : (x == ("__debug__" : Str)) = false := by decide) (he : starEach [b] X.env = (false, eval b X.env) :: starEach [] X.env := by rfl) (hpl : (backTo q (starEach [] X.env)).any (·.1) = false := by rfl)
    (hbm : behindInMarks .In (.Call (.Name x p) [b] [] q) = false := by first | exact nobehind _ (by decide) (by decide) | rfl) :
    GT X W (.Compare a [.In] [.Call (.Name x p) [b] [] q] pos) (tVal (e2 inRD ma mb)) := (pt_cmpR (op_in_rngD hu) ha (pe_rng1 hg hm hv hb hn hdb he hpl) hbm).imp fun σ H Q h => inr_read (tVal_read h)
end
end Z
namespace Z
open PySem PySem.Spec PyProof.Rows L2
/-- a class of errors over ValueError -/
structure ExC (K : PySem.W.Frag) (mg : Mg) (x : Str) (C : Addr) : Prop where
  gF : mg x = some (.ref C)
  xF : PySem.W.excIn K C [.type "ValueError", .type "Exception", .type "BaseException", .type "object"] "ValueError.__new__" = true
  kF : PySem.W.keepIn K (.ref C) = true
  bF : PySem.W.subIn K (.ref C) (.type "BaseException") = some true
  tF : PySem.W.typeIn K (.ref C) = some (.type "type")
  eF : PySem.W.exmOne K (.ref C) (.ref C) = some true
theorem exm_self {K : PySem.W.Frag} {S : Addr} (h1 : PySem.W.subIn K (.ref S) (.type "BaseException") = some true) (h2 : PySem.W.isClsIn K S = true) (h3 : PySem.W.typeIn K (.ref S) = some (.type "type")) (h4 : PySem.W.subIn K (.ref S) (.ref S) = some true) :
    PySem.W.exmOne K (.ref S) (.ref S) = some true := by
  have e1 : (PySem.W.subIn K (.ref S) (.type "BaseException") == some true) = true := by rw [h1] <;> rfl
  have e2 : ((PySem.W.clsIn K S).isSome && PySem.W.typeIn K (.ref S) == some (.type "type")) = true := by
    have h2' : (PySem.W.clsIn K S).isSome = true := h2
    rw [h2', h3] <;> rfl
  show (if (PySem.W.subIn K (.ref S) (.type "BaseException") == some true) = true then (if ((PySem.W.clsIn K S).isSome && PySem.W.typeIn K (.ref S) == some (.type "type")) = true then PySem.W.subIn K (.ref S) (.ref S) else none) else none) = some true
  rw [if_pos e1, if_pos e2]
  exact h4
end Z
namespace L2
open PySem PySem.Spec PyProof.Rows
end L2
namespace Z
open PySem PySem.Spec PyProof.Rows L2
section
variable {X : Cx} {W : WX} {e k v : Expr} {m mk mv : SE} {pos : Pos}
/-- what stays when a dict is unlocked -/
structure Wk (H H' : Hp) : Prop where
  tup : ∀ a xs, H a = some (.tup xs) → H' a = some (.tup xs)
  frz : ∀ a o xs, H a = some (.frz o (.lst xs)) → H' a = some (.frz o (.lst xs))
  frzT : ∀ a o xs, H a = some (.frz o (.tup xs)) → H' a = some (.frz o (.tup xs))
  cod : ∀ a q, H a = some (LamX.CodeO a q) → H' a = some (LamX.CodeO a q)
theorem Wk.tupAt {H H' : Hp} (e : Wk H H') {a : Addr} {xs : List V} : ∀ {b : Bool}, TupAt H a xs b → TupAt H' a xs b
  | true, h => e.tup _ _ h
  | false, ⟨o, h1, h2⟩ => ⟨o, h1, e.frzT _ _ _ h2⟩
end
end Z
namespace L2
open PySem PySem.Spec PyProof.Rows
def wOf (e : Int × Value) : Str := match e.2 with | .str s _ => s | _ => Str.empty
def GoodW (P : Program) (w : World) (e : Int × Value) : Prop := ∃ s t, e.2 = Value.str s t ∧ e.1 = (strKind P w).hash s
def SetW (P : Program) (w : World) (h : Heap) (a : Addr) (L : List Str) : Prop :=
  ∃ o es ep t, h.get? a = some o ∧ o.ExactSet ∧ o.data = .set es ep t ∧ (∀ e ∈ es.toList, GoodW P w e) ∧ es.toList.map wOf = L ∧ L.Nodup ∧ es.size < scanBound ∧ t.fits es.size = true ∧ Ris t.place.toList ∧ (w.params.followText "set-order" = true ∨ t.led = true)
section
variable {P : Program} {w : World} {A : Around} {E : Value → Shared → Prop} {s : Shared} {a : Addr} {L : List Str}
theorem goodW_is {e : Int × Value} (g : GoodW P w e) (k : Str) : (strKind P w).is k e.2 = true ↔ wOf e = k := by
  obtain ⟨x, t, h1, _⟩ := g
  unfold wOf
  rw [h1]
  exact ⟨fun h => ((strKind P w).inj _ x k (strKind_is P w x t) h), fun h => by rw [← h]; exact strKind_is P w x t⟩
theorem goodW_elems {l : List (Int × Value)} (g : ∀ e ∈ l, GoodW P w e) : ElemsOf (strKind P w) l := fun e he => by
  obtain ⟨x, t, h1, h2⟩ := g e he
  exact ⟨⟨x, by rw [h1]; exact strKind_is P w x t, h2⟩, by rw [h1]; rfl⟩
theorem goodW_mem {l : List (Int × Value)} (g : ∀ e ∈ l, GoodW P w e) (k : Str) : k ∈ l.map wOf ↔ ∃ e ∈ l, (strKind P w).is k e.2 = true := by
  rw [List.mem_map]
  exact ⟨fun ⟨e, he, q⟩ => ⟨e, he, (goodW_is (g e he) k).mpr q⟩, fun ⟨e, he, q⟩ => ⟨e, he, (goodW_is (g e he) k).mp q⟩⟩
theorem SetW.keep {h h' : Heap} (R : SetW P w h a L) (k : ∀ o, h.get? a = some o → h'.get? a = some o) : SetW P w h' a L := by
  obtain ⟨o, es, ep, t, ho, r⟩ := R
  exact ⟨o, es, ep, t, k o ho, r⟩
theorem strs_at_raw {us : List Value} {xs : List Str} (h : StrsAre us xs) (i : Nat) (v : Value) (hv : us[i]? = some v) : ∃ t, v = .str (xs.getD i Str.empty) t := SS.strs_at h i v hv
/-- a new set's table, and what is done when it grew too full -/
theorem setW_tail {g : Bool → Sem Unit} (hg : ∀ (b : Bool) (s₁ : Shared) (Q' : Unit → Shared → Prop), Q' () s₁ → wpAny (model P w) A (g b) Q' E s₁) {o : Obj} {es : Array (Int × Value)} {ep : Nat} {t : SetTable} (ho : s.heap.get? a = some o) (hex : o.ExactSet) (hd : o.data = .set es ep t)
    {es1 : Array (Int × Value)} {t2 : SetTable} (g1 : ∀ e ∈ es1.toList, GoodW P w e) (nd : (es1.toList.map wOf).Nodup) (hb : es1.size < scanBound) (hf : t2.fits es1.size = true) (hr : Ris t2.place.toList) (hl : w.params.followText "set-order" = true ∨ t2.led = true) {wd : Bool} {R : Option Bool → Shared → Prop}
    (hR : ∀ h' L', Heap.SameBut a s.heap h' → L'.Perm (es1.toList.map wOf) → SetW P w h' a L' → R (some true) { s with heap := h' }) :
    wpAny (model P w) A (do
        storeSet a es1 t2
        if (!wd && t2.tooFull) = true then do
            g (relayAll t2 es1 (SetTable.grown es1.size)).2.2
            storeSet a (relayAll t2 es1 (SetTable.grown es1.size)).1 (relayAll t2 es1 (SetTable.grown es1.size)).2.1
            pure (some true)
          else pure (some true)) R E s := by
  have ho1 := store_at (es' := es1) (t' := t2) ho hd
  have sb := Heap.SameBut.update s.heap a (Obj.putSet es1 t2)
  refine wpAny_bind (wpAny_storeSet_of ho hd ?_ (fits_of_scanBound hb))
  by_cases c : (!wd && t2.tooFull) = true
  · rw [if_pos c]
    obtain ⟨es2, t3, gave, e⟩ : ∃ es2 t3 gave, relayAll t2 es1 (SetTable.grown es1.size) = (es2, t3, gave) := ⟨_, _, _, rfl⟩
    have q1 := relayAll_perm t2 es1 (SetTable.grown es1.size)
    have q2 := relayAll_fits t2 es1 (SetTable.grown es1.size)
    have q3 := relayAll_ris t2 es1 (SetTable.grown es1.size)
    have q4 := relayAll_led t2 es1 (SetTable.grown es1.size)
    rw [e] at q1 q2 q3 q4 ⊢
    dsimp only at q1 q2 q3 q4 ⊢
    have hz : es2.size < scanBound := by rw [← Array.length_toList, q1.length_eq, Array.length_toList]; exact hb
    refine wpAny_bind (hg _ _ _ (wpAny_bind (wpAny_storeSet_of ho1 rfl ?_ (fits_of_scanBound hz))))
    have ho2 := store_at (es' := es2) (t' := t3) ho1 rfl
    refine wpAny_pure (hR _ (es2.toList.map wOf) (sb.trans (Heap.SameBut.update _ a _)) (q1.map wOf) ⟨_, es2, _, t3, ho2, hex, rfl, fun e he => g1 e (q1.mem_iff.mp he), rfl, (q1.map wOf).nodup_iff.mpr nd, hz, q2, q3, ?_⟩)
    exact hl.imp id fun z => by rw [q4]; exact z
  · rw [if_neg c]
    exact wpAny_pure (hR _ _ sb (List.Perm.refl _) ⟨_, es1, _, t2, ho1, hex, rfl, g1, rfl, nd, hb, hf, hr, hl⟩)
theorem setW_add {k : Str} {tk : Tok} {Q : Bool → Shared → Prop} (R : SetW P w s.heap a L) (room : L.length + 1 < scanBound)
    (hQ : ∀ h' L' b, Heap.SameBut a s.heap h' → SetW P w h' a L' → (∀ x, x ∈ L' ↔ x ∈ L ∨ x = k) → L'.length ≤ L.length + 1 → Q b { s with heap := h' }) :
    wpAny (model P w) A (setAddHashed a (.str k tk) ((strKind P w).hash k)) Q E s := by
  obtain ⟨o, es, ep, t, ho, hex, hd, g, rfl, nd, hb, hf, hr, hl⟩ := R
  have hkey : (strKind P w).is k (.str k tk) = true := strKind_is P w k tk
  have hsc : (Value.str k tk).scannable = true := rfl
  have hel : ElemsOf (strKind P w) es.toList := goodW_elems g
  unfold setAddHashed setAddHashedIn
  refine wpAny_holding (wpAny_bind (wpAny_setState_of ho hd hf ?_))
  dsimp only
  rw [byScan_of hsc hb hel]
  simp only [↓reduceIte]
  unfold setAddByScan
  refine wpAny_bind (wpAny_bind (wpAny_rule (wpAny_bind (wpAny_setScan_of hkey ho hd hf hel ?_))))
  cases hfi : List.findIdx? (fun e => (strKind P w).is k e.2) es.toList with
  | some j =>
    dsimp only
    obtain ⟨hj, pj, _⟩ := List.findIdx?_eq_some_iff_getElem.mp hfi
    have hk : k ∈ es.toList.map wOf := (goodW_mem g k).mpr ⟨_, List.getElem_mem hj, pj⟩
    exact wpAny_pure (wpAny_pure (hQ s.heap _ _ (Heap.SameBut.refl a s.heap) ⟨o, es, ep, t, ho, hex, hd, g, rfl, nd, hb, hf, hr, hl⟩ (fun x => ⟨.inl, fun h => h.elim id fun e => e ▸ hk⟩) (Nat.le_succ _)))
  | none =>
    dsimp only
    have hk : k ∉ es.toList.map wOf := fun z => by
      obtain ⟨e, he, q⟩ := (goodW_mem g k).mp z
      have c := List.findIdx?_eq_none_iff.mp hfi e he
      rw [q] at c
      cases c
    have pm := layNew_perm t es ((strKind P w).hash k) (.str k tk)
    have hf1 := layNew_fits t es ((strKind P w).hash k) (.str k tk)
    have hr1 := layNew_ris t es ((strKind P w).hash k) (.str k tk) hr
    have hl1 := layNew_led t es ((strKind P w).hash k) (.str k tk)
    generalize layNew t es ((strKind P w).hash k) (.str k tk) = Z at pm hf1 hr1 hl1 ⊢
    obtain ⟨es1, t1, wd, gave⟩ := Z
    dsimp only at pm hf1 hr1 hl1 ⊢
    rw [Array.toList_push] at pm
    have pc : es1.toList.Perm (((strKind P w).hash k, Value.str k tk) :: es.toList) := pm.trans (List.perm_append_singleton _ _)
    have pk : (es1.toList.map wOf).Perm (k :: es.toList.map wOf) := pc.map wOf
    have g1 : ∀ e ∈ es1.toList, GoodW P w e := fun e he => by
      rcases List.mem_cons.mp (pc.mem_iff.mp he) with z | z
      · rw [z]; exact ⟨k, tk, rfl, rfl⟩
      · exact g e z
    have nd1 : (es1.toList.map wOf).Nodup := pk.nodup_iff.mpr (List.nodup_cons.mpr ⟨hk, nd⟩)
    have hsz : es1.size = es.size + 1 := by rw [← Array.length_toList, pc.length_eq, List.length_cons, Array.length_toList]
    have hb1 : es1.size < scanBound := by rw [hsz]; simpa using room
    have hled : w.params.followText "set-order" = true ∨ t1.led = true := hl.imp id fun z => by rw [hl1]; exact z
    have fin : ∀ h' L', Heap.SameBut a s.heap h' → L'.Perm (es1.toList.map wOf) → SetW P w h' a L' → ∀ b, Q b { s with heap := h' } := fun h' L' sb pl r b => by
      refine hQ h' L' b sb r (fun x => ?_) ?_
      · rw [(pl.trans pk).mem_iff, List.mem_cons]; exact Or.comm
      · rw [(pl.trans pk).length_eq]; simp
    have hrule : ∀ (b : Bool) (s₁ : Shared) (Q' : Unit → Shared → Prop), Q' () s₁ → wpAny (model P w) A (match b with | true => rule "set.scan.the-table-gave-way" | false => pure ()) Q' E s₁ :=
      fun b s₁ Q' q => by cases b <;> first | exact wpAny_pure q | exact wpAny_rule q
    refine wpAny_bind (hrule _ _ _ ?_)
    split
    · refine wpAny_bind ?_
      rw [hashByValue_scannable 8 hsc]
      refine wpAny_pure ?_
      refine setW_tail ?_ ho hex hd g1 nd1 hb1 ?_ ?_ ?_ ?_
      · intro b s₁ Q' q; cases b <;> first | exact wpAny_pure q | exact wpAny_rule q
      · first | (split <;> first | exact hf1 | exact SetTable.fits_plain_off hf1) | exact hf1
      · first | (split <;> exact hr1) | exact hr1
      · first | (split <;> exact hled) | exact hled
      · intro h' L' sb pl r; dsimp only; exact wpAny_pure (fin h' L' sb pl r _)
    · refine wpAny_bind (wpAny_pure ?_)
      simp only [↓reduceIte]
      refine setW_tail ?_ ho hex hd g1 nd1 hb1 hf1 hr1 hled ?_
      · intro b s₁ Q' q; cases b <;> first | exact wpAny_pure q | exact wpAny_rule q
      · intro h' L' sb pl r; dsimp only; exact wpAny_pure (fin h' L' sb pl r _)
theorem setW_new {h : Heap} {a : Addr} (ho : h.get? a = some { cls := .type "set", dict := none, data := .set #[] 0 (.fresh 0 0 (!w.params.followText "set-order")) }) : SetW P w h a [] :=
  ⟨_, #[], 0, _, ho, ⟨rfl, rfl, rfl⟩, rfl, (fun e he => by simp at he), rfl, List.nodup_nil, (by decide), (by rfl), List.Pairwise.nil, by
    show _ ∨ (!w.params.followText "set-order") = true
    cases w.params.followText "set-order"
    · exact .inr rfl
    · exact .inl rfl⟩
/-- the texts of a walk put into the set -/
theorem setW_update {I : Addr} {fp wr : List Addr} {G : Array GenState → Array GenState → Prop} {n : Nat} {Pv : Nat → Value → Prop} {St : Nat → Shared → Prop} {R : Result → Shared → Prop}
    (W : WalksS P w A.in1 I fp wr G n Pv St) (S : Addr) (hSf : S ∉ fp) (ns : List Str) (hn : n = ns.length) (hb : ns.length + 1 < scanBound) (hval : ∀ i v, Pv i v → ∃ k t, ns[i]? = some k ∧ v = .str k t) :
    ∀ (k i : Nat) (s : Shared), n - i = k → i ≤ n → St i s → (∃ L, L.length ≤ i ∧ SetW P w s.heap S L ∧ ∀ x, x ∈ L ↔ x ∈ ns.take i) →
      (∀ s' L, Moved (S :: wr) G s s' → L.length ≤ n → SetW P w s'.heap S L → (∀ x, x ∈ L ↔ x ∈ ns) → R (.ok (.ret .none)) s') →
      codeAny (model P w) A (.builtin "set.update.loop" ⟨[.ref S, .ref I], []⟩) R s := by
  have hSw : S ∉ wr := fun h => hSf (W.sub _ h)
  have hsub : ∀ b ∈ wr, b ∈ S :: wr := fun b hb => List.mem_cons_of_mem _ hb
  intro k
  induction k with
  | zero =>
    rintro i s hk' hi hst ⟨L, hc, hS, hm'⟩ hR
    obtain rfl : i = n := by omega
    refine codeAny_builtin F.entry_set_update_loop ?_
    rw [Around.under_plainId F.plain_set_update_loop _]
    show wpAny _ A.in1 (pyNext (.ref I) >>= _) _ _ s
    refine wpAny_bind (W.done s _ _ hst fun s' hm => ?_)
    show wpAny _ A.in1 (ret Value.none) _ _ s'
    rw [List.take_of_length_le (by omega)] at hm'
    exact wpAny_pure (hR s' L (hm.mono hsub) hc (hS.keep fun o e => hm.heap S o hSw e) hm')
  | succ k ih =>
    rintro i s hk' hi hst ⟨L, hc, hS, hm'⟩ hR
    have hlt : i < n := by omega
    refine codeAny_builtin F.entry_set_update_loop ?_
    rw [Around.under_plainId F.plain_set_update_loop _]
    show wpAny _ A.in1 (pyNext (.ref I) >>= _) _ _ s
    refine wpAny_bind (W.item i s _ _ hlt hst fun v s' hP hst' hm => ?_)
    obtain ⟨z, t, hz, rfl⟩ := hval i v hP
    have hS' : SetW P w s'.heap S L := hS.keep fun o e => hm.heap S o hSw e
    show wpAny _ A.in1 (holding [Value.str z t] (setAdd S (.str z t)) >>= _) _ _ s'
    refine wpAny_bind (wpAny_holding ?_)
    unfold setAdd
    refine wpAny_holding (wpAny_bind ((strKind P w).pyHash (k := z) (strKind_is _ _ _ _) ?_))
    refine setW_add (s := { s' with toks := s'.toks + 1 }) hS' (by omega) fun h' L' b hsb hS2 hm2 hl2 => ?_
    refine wpAny_pure ⟨plainId_quiet F.plain_set_update_loop _, ih (i + 1) _ (by omega) hlt (W.frame _ s' _ _ hst' (Nat.le_succ _) fun b hb o e => ?_) ⟨L', by omega, hS2, fun x => ?_⟩ fun s'' L2 hm'' hc'' hS'' hx => ?_⟩
    · rw [hsb.2 b (fun h : b = S => hSf (by rw [← h]; exact hb))]; exact e
    · rw [hm2 x, hm' x, List.take_add_one, hz]
      simp [List.mem_append]
    · refine hR s'' L2 (Moved.trans W.gtrans ((hm.mono hsub).then_heap (Nat.le_succ _) fun b o hb e => ?_) hm'') hc'' hS'' hx
      rw [hsb.2 b (fun h : b = S => hb (by rw [h]; exact List.mem_cons_self))]; exact e
/-- set(l), l a list of texts -/
abbrev eSet (w : World) : Obj := { cls := .type "set", dict := none, data := .set #[] 0 (.fresh 0 0 (!w.params.followText "set-order")) }
set_option maxHeartbeats 3200000 in
theorem setW_call {l : Addr} {items : Array Value} (ns : List Str) {Q : Value → Shared → Prop} (hh : A.handled = none) (hl : s.heap.IsList l items) (hit : StrsAre items.toList ns) (hb : ns.length + 1 < scanBound)
    (h : ∀ (h' : Heap) (tk : Nat) (L : List Str), SetW P w h' s.heap.objs.size L → L.length ≤ ns.length → (∀ x, x ∈ L ↔ x ∈ ns) → (∀ b o, s.heap.get? b = some o → h'.get? b = some o) → Q (.ref s.heap.objs.size) { s with heap := h', toks := tk }) :
    wpAny (model P w) A (call (.type "set") [.ref l]) Q E s := by
  have hisz : items.size = ns.length := by
    have q := StrsAre.length hit
    rw [Array.length_toList] at q
    exact q
  obtain ⟨c, tl, hmro⟩ := F.called_set.mro
  have hmade := F.called_set.made
  have hsub := F.called_set.sub
  refine wpAny_call (codeAny_of_tree ?_)
  show wpAny _ _ (callAny (.type "set") _) _ _ _
  refine wpAny_pure ⟨Code.quiet_builtin _ (by decide +kernel), codeAny_builtin F.entry_type_call ?_⟩
  rw [Around.under_plain (weight_type_call_type "set" [.ref l] []) rfl]
  have h1 := F.called_set.notType
  have h2 := F.called_set.canCreate
  have hct := F.typeCall_set_1 (.ref l)
  repeat (any_goals (first | assumption | wp_step))
  refine codeAny_mono (code_set_led1 (.ref l) (E := E) (Q₁ := fun obj s₁ => obj = .ref s.heap.objs.size ∧ s₁ = { s with heap := s.heap.push (eSet w) }) ⟨rfl, rfl⟩) fun r s₁ hr => ?_
  cases r with
  | error e => exact hr
  | ok fl =>
    cases fl with
    | ret obj =>
      obtain ⟨rfl, rfl⟩ := hr
      have hS : (s.heap.push (eSet w)).get? s.heap.objs.size = some (eSet w) := Heap.get?_push_size _ rfl
      have hT : Shared.TypeIs { s with heap := s.heap.push (eSet w) } (.ref s.heap.objs.size) "set" := ⟨_, hS, rfl⟩
      have hli := F.called_set.init.lookup
      have hbi := F.called_set.init.bind (.ref s.heap.objs.size)
      repeat (any_goals (first | assumption | wp_step))
      refine codeAny_mono (codeAny_call_builtin (R := wants (fun r s₂ => r = .none ∧ ∃ h' tk L, s₂ = { s with heap := h', toks := tk } ∧ SetW P w h' s.heap.objs.size L ∧ L.length ≤ ns.length ∧ (∀ x, x ∈ L ↔ x ∈ ns) ∧
          (∀ b o, s.heap.get? b = some o → h'.get? b = some o)) E) F.called_set.init.plain F.entry_set_init (check_set_init_1 hT ?_)) fun r₂ s₂ hr₂ => ?_
      · obtain ⟨⟨ocls, odict, odata, oslots⟩, hol, hcl, nl, hdl⟩ := hl
        simp only at hcl hdl
        subst hcl; subst hdl
        have hol' : (s.heap.push (eSet w)).get? l = some { cls := .type "list", dict := odict, data := .seq items nl, slots := oslots } := Heap.get?_push_of_some _ hol
        have hsls := F.sub_list_set
        have hslf := F.sub_list_frozenset
        have hne : (Value.type "list" == Value.type "dict") = false := by decide
        have hl1 : (s.heap.push (eSet w)).IsList l items := ⟨_, hol', rfl, nl, rfl⟩
        unfold Builtin.«set.__init__» noKeywords Builtin.Frozenset.updateFrom
        generalize hPI : pyIter = PI
        wp_walk
        subst hPI
        refine wpAny_pyIter_list hl1 ?_
        refine wpAny_bind (wpAny_runValue ?_)
        have hlS : l < s.heap.objs.size := Heap.lt_size hol
        have hh3 : A.in1.in1.in1.handled = none := by simp [hh]
        have hz1 : (s.heap.push (eSet w)).objs.size = s.heap.objs.size + 1 := Heap.size_push ..
        have hneI : l ≠ (s.heap.push (eSet w)).objs.size := by rw [hz1]; exact Nat.ne_of_lt (Nat.lt_succ_of_lt hlS)
        have hSf : s.heap.objs.size ∉ [(s.heap.push (eSet w)).objs.size, l] := by
          rw [hz1]; simp only [List.mem_cons, List.mem_singleton, List.not_mem_nil, or_false, not_or]
          exact ⟨Nat.ne_of_lt (Nat.lt_succ_self _), Nat.ne_of_gt hlS⟩
        have hval : ∀ (i : Nat) (v : Value), items[i]? = some v → ∃ k t, ns[i]? = some k ∧ v = .str k t := fun i v hv => by
          have hi : i < ns.length := by rw [← hisz]; exact (Array.getElem?_eq_some_iff.mp hv).1
          obtain ⟨t, e⟩ := L2.strs_at_raw hit i v (by rw [Array.getElem?_toList]; exact hv)
          exact ⟨ns[i], t, List.getElem?_eq_getElem hi, by rw [e, List.getD_eq_getElem?_getD, List.getElem?_eq_getElem hi]; rfl⟩
        refine setW_update ((Walks.list hh3 _ l hneI items).toS) s.heap.objs.size
          hSf ns hisz hb hval (items.size - 0) 0 _ (by omega) (Nat.zero_le _)
          ⟨⟨_, Heap.get?_push_size _ rfl, rfl, rfl⟩, (hl1.push _)⟩ ?hS0 ?hR
        case hS0 =>
          refine ⟨[], Nat.le_refl 0, setW_new ?_, fun x => by simp⟩
          exact Heap.get?_push_of_some _ hS
        case hR =>
          intro s' L hm hc' hS' hx
          obtain ⟨h', g2, d', tk', os'⟩ := s'
          have eg : g2 = s.gens := hm.gens
          have ed : d' = s.drawn := hm.drawn
          have eo : os' = s.os := hm.os
          subst eg; subst ed; subst eo
          show wpAny _ _ _ _ _ _
          refine wpAny_pure ?_
          show wpAny _ _ (ret Value.none) _ _ _
          refine wpAny_pure ⟨rfl, h', tk', L, rfl, hS', by rw [← hisz]; exact hc', hx, fun b o e => ?_⟩
          have hb0 : b < s.heap.objs.size := Heap.lt_size e
          exact hm.heap b o (by rw [hz1]; simp only [List.mem_cons, List.mem_singleton, List.not_mem_nil, or_false, not_or]; exact ⟨Nat.ne_of_lt hb0, Nat.ne_of_lt (Nat.lt_succ_of_lt hb0)⟩) (Heap.get?_push_of_some _ (Heap.get?_push_of_some _ e))
      · cases r₂ with
        | error e => exact hr₂
        | ok fl₂ =>
          cases fl₂ with
          | ret r =>
            obtain ⟨rfl, h', tk, L, rfl, hS', hc', hx, hk'⟩ := hr₂
            repeat (any_goals (first | assumption | wp_step))
            exact h _ _ _ hS' hc' hx hk'
          | _ => exact hr₂.elim
    | _ => exact hr.elim
/-- sorted(set), texts -/
theorem setW_sorted {Q : Value → Shared → Prop} (R : SetW P w s.heap a L) (hh : A.handled = none) (h64 : L.length < 64)
    (hQ : ∀ s' p (out : Array Value) (c : Nat) (ys : List Str), (∀ b o, s.heap.get? b = some o → s'.heap.get? b = some o) → s'.gens = s.gens → s'.os = s.os → s.heap.objs.size ≤ p →
      s'.heap.get? p = some (seqObj "list" out c) → StrsAre out.toList ys → sortedS ys = true → ys.Perm L → Q (.ref p) s') :
    wpAny (model P w) A (call (.builtin "sorted") [.ref a]) Q E s := by
  obtain ⟨o, es, ep, t, ho, hex, hd, g, rfl, nd, hb, hf, hr, hl⟩ := R
  refine Calls.call_function_entry kind_sorted plain_sorted entry_sorted (args_sorted1 _) ?_
  unfold Builtin.«sorted»
  refine wpAny_bind (m := checkCount "sorted" 1 1 _) (wpAny_pure ?_)
  refine wpAny_bind (collect_set (A := A.in1) hh ⟨o, ho, hex.1, hd⟩ hf hb hr hl fun s1 vs k1 hz g1 o1 pm => ?_)
  have hvl : vs.length = (es.toList.map wOf).length := by rw [pm.length_eq, List.length_map, List.length_map]
  have wo : ∀ (e : Int × Value), GoodW P w e → wOf e = strOf e.2 := fun e he => by obtain ⟨x, t, q, _⟩ := he; unfold wOf; rw [q]; rfl
  have hI : ∀ l : List Value, (∀ v ∈ l, ∃ x t, v = Value.str x t) → StrsAre l (l.map strOf) := fun l => by
    induction l with
    | nil => intro _; exact .nil
    | cons v l ih =>
      intro h
      obtain ⟨x, t, rfl⟩ := h v List.mem_cons_self
      exact .cons x t (ih fun u hu => h u (List.mem_cons_of_mem _ hu))
  have hS : StrsAre vs (vs.map strOf) := hI vs fun v hv => by
    obtain ⟨e, he, q⟩ := List.mem_map.mp (pm.mem_iff.mp hv)
    obtain ⟨x, t, h1, _⟩ := g e he
    exact ⟨x, t, by rw [← q]; exact h1⟩
  have pk : (vs.map strOf).Perm (es.toList.map wOf) := by
    have q := pm.map strOf
    rw [List.map_map] at q
    refine q.trans (List.Perm.of_eq (List.map_congr_left fun e he => (wo e (g e he)).symm))
  refine wpAny_bind (wpAny_newList ?_ (by rw [hvl, sizeLine_eq]; omega))
  have hoL : (s1.heap.push (seqObj "list" vs.toArray 0)).get? s1.heap.objs.size = some (seqObj "list" vs.toArray 0) := Heap.get?_push_size _ rfl
  refine wpAny_bind (wpAny_holding (wpAny_call_entry slot_list_sort ⟨_, hoL, rfl⟩ entry_list_sort
    (list_sort_treeK strKind_oneLt hoL hS.keysOf (fun v₁ v₂ rest e => keyKind_strs (by rw [← e]; exact hS)) (by rw [hvl]; exact h64) fun st' hp hs => ⟨_, rfl, ?_⟩) (args_list_sort _)))
  obtain ⟨ys, y1, y2, y3⟩ := sorted_out_str hS hp hs
  obtain ⟨c, hc⟩ := sortedHeap_at (vs := vs) (out := (arrOf st').map (·.2)) hoL
  refine wpAny_pure ⟨_, rfl, hQ _ s1.heap.objs.size ((arrOf st').map (·.2)) c ys (fun b u e => ?_) g1 o1 hz hc y1 y3 (y2.trans pk)⟩
  have q := k1 b u e
  have hlt := Heap.lt_size q
  show (sortedHeap (s1.heap.push (seqObj "list" vs.toArray 0)) s1.heap.objs.size vs _).get? b = some u
  rw [sortedHeap_old (Nat.ne_of_lt hlt) (by rw [size_push']; exact Nat.lt_succ_of_lt hlt)]
  exact Heap.get?_push_of_some _ q
end
end L2
namespace Z
open PySem PySem.Spec PyProof.Rows L2
theorem lt_eq : ∀ a b : List Nat, ltCps a b = ltN a b
  | [], [] => rfl
  | [], _ :: _ => rfl
  | _ :: _, [] => rfl
  | x :: xs, y :: ys => by
    rw [ltCps, ltN, lt_eq xs ys]
    by_cases h : x < y
    · simp [h]
    · by_cases g : y < x
      · have : ¬ x = y := by omega
        simp [h, g, this]
      · have : x = y := by omega
        simp [this]
def un (y : Str) : List Nat := y.cps.toList
theorem str_un (y : Str) : str (un y) = y := rfl
theorem un_str (s : List Nat) : un (str s) = s := rfl
theorem weak_tr {a b c : List Nat} (h : ltN b a = false) (g : ltN c b = false) : ltN c a = false := by
  cases e : ltN c a with
  | false => rfl
  | true =>
    rcases ltN_tri b a with d | d | d
    · rw [h] at d; cases d
    · subst d; rw [g] at e; cases e
    · have := ltN_tr e d; rw [g] at this; cases this
theorem rising_weak : ∀ (p : Str) (ys : List Str), risingS p ys = true → Weak ((p :: ys).map un)
  | p, [], _ => List.pairwise_singleton _ _
  | p, x :: r, h => by
    rw [risingS, Bool.and_eq_true, Bool.not_eq_true', lt_eq] at h
    have ih := rising_weak x r h.2
    rw [List.map_cons]
    refine List.pairwise_cons.mpr ⟨fun z hz => ?_, ih⟩
    rw [List.map_cons] at hz ih
    rcases List.mem_cons.mp hz with e | e
    · subst e; exact h.1
    · exact weak_tr h.1 ((List.pairwise_cons.mp ih).1 z e)
theorem sorted_weak {ys : List Str} (h : sortedS ys = true) : Weak (ys.map un) := by
  cases ys with
  | nil => exact List.Pairwise.nil
  | cons y r => exact rising_weak y r h
theorem map_str (ys : List Str) : (ys.map un).map str = ys := by simp [Function.comp_def, str_un]
theorem strL_eq : ∀ {xs : List D} {ws : List (List Nat)}, strL xs = some ws → xs = ws.map .str
  | [], ws, h => by cases h; rfl
  | x :: r, ws, h => by
    cases x with
    | str s =>
      rw [strL] at h
      obtain ⟨t, ht, rfl⟩ := Option.map_eq_some_iff.mp h
      rw [List.map_cons, ← strL_eq ht]
    | _ => cases h
section
variable {K : KW} {ι : List Addr} {H : Hp}
theorem repL_txt : ∀ {ws : List (List Nat)} {vs : List V}, RepL K ι H (ws.map .str) vs → vs = (ws.map str).map V.str ∧ ∀ s ∈ ws, ∀ c ∈ s, c < 128
  | [], vs, h => by
    have := h.nil
    subst this
    exact ⟨rfl, fun s hs => by cases hs⟩
  | w :: ws, vs, h => by
    obtain ⟨v, t, rfl, h1, h2⟩ := h.cons
    rw [Rep] at h1
    obtain ⟨rfl, h3⟩ := h1
    obtain ⟨e, h4⟩ := repL_txt h2
    exact ⟨by rw [e]; rfl, fun s hs => by rcases List.mem_cons.mp hs with rfl | hs; exact h3; exact h4 s hs⟩
theorem txt_repL : ∀ {ws : List (List Nat)}, (∀ s ∈ ws, ∀ c ∈ s, c < 128) → RepL K ι H (ws.map .str) ((ws.map str).map V.str)
  | [], _ => by rw [List.map_nil, RepL]; rfl
  | w :: ws, h => by
    rw [List.map_cons, RepL]
    exact ⟨_, _, rfl, by rw [Rep]; exact ⟨rfl, h w (by simp)⟩, txt_repL fun s hs => h s (List.mem_cons_of_mem _ hs)⟩
end
section
variable {X : Cx} {W : WX} {e : Expr} {m : SE} {p p2 q pos : Pos}
def tSetW (K : PySem.W.Frag) (ta : TE) (R : List Str → Hp → Prop) : L2.St → Hp → Prop := fun σ H => ta σ H fun x H1 => ∃ (l : Addr) (ns : List Str), x = V.ref l ∧ SqL K H1 l (ns.map V.str) ∧ ns.length < 64 ∧ R ns H1
theorem pe_sortedSetW {a : Expr} {ta : TE} (hc : X.calm = true) (hg : Gl X "sorted") (hm : X.mg "sorted" = none) (hg2 : Gl X "set") (hm2 : X.mg "set" = none) (ha : PE X a ta)
    (na : starEach [a] X.env = (false, eval a X.env) :: starEach [] X.env := by rfl) : PE X (.Call (.Name "sorted" p) [.Call (.Name "set" p2) [a] [] q] [] pos)
      (fun σ H Q => tSetW X.KW ta (fun ns H1 => ∀ (ys : List Str) (p : Addr), H1 p = none → sortedS ys = true → ys.Nodup → (∀ x, x ∈ ys ↔ x ∈ ns) → ys.length < 64 → Q (.ref p) (upd H1 p (.lst (ys.map V.str)))) σ H) := by
  refine ⟨fun pins s σ H Q I h => ?_⟩
  have hb : bootBuiltins "sorted" = some (.builtin "sorted") := by decide +kernel
  refine Call_ (ld_blt I hg hm hb ?_)
  refine PyProof.Rows.callWith_builtin1 (PyProof.Rows.args_cons ?_ rfl) rfl rfl
  refine Call_ (ld_blt I hg2 hm2 PyProof.Rows.boot_set ?_)
  refine PyProof.Rows.callWith_type1 (PyProof.Rows.args_cons (thn (ha.run pins s σ H _ I h) fun v s1 ⟨x, H1, I1, r1, q1⟩ => PyProof.Rows.args_nil ?_) na) na rfl
  obtain ⟨l, ns, rfl, hq, h64, q1⟩ := q1
  cases r1
  obtain ⟨its, r, pl, hz⟩ := I1.list hq
  refine setW_call (I1.ok.hd hc) pl.isList (ns := ns) (by simpa using r.strs) (by unfold scanBound; omega) fun h' tk L hS hl hx hk => ?_
  refine PyProof.Rows.args_nil ?_
  have I2 : Inv X pins σ H1 { s1 with heap := h', toks := tk } := I1.kept hk
  have hnd : L.Nodup := by obtain ⟨_, _, _, _, _, _, _, _, _, nd, _⟩ := hS; exact nd
  refine setW_sorted (s := { s1 with heap := h', toks := tk }) hS (I2.ok.hd hc) (by omega) fun s' pp out c ys k g o hp hg' hi hs pm => ?_
  have hlen : (ys.map V.str).length ≤ sizeLine := by rw [List.length_map, pm.length_eq, sizeLine_eq]; omega
  have hn : H1 pp = none := I2.hok.fresh hp
  have J : Inv X pins σ (upd H1 pp (.lst (ys.map V.str))) { ({ s1 with heap := h', toks := tk } : Shared) with heap := s'.heap, gens := s'.gens, drawn := s'.drawn, toks := s'.toks } :=
    I2.call (ch := []) (Un.laid k hp hn) (I2.hok.laid k hp ⟨hlen, out.toList, c, vals_of_strs hi, hg'⟩) (by rw [g]; exact I2.bare) (fun _ z => nomatch z)
  have e : s' = { ({ s1 with heap := h', toks := tk } : Shared) with heap := s'.heap, gens := s'.gens, drawn := s'.drawn, toks := s'.toks } := by
    cases s'
    cases s1
    cases o
    rfl
  rw [e]
  exact ⟨.ref pp, _, J, rfl, q1 ys pp hn hs (pm.nodup_iff.mpr hnd) (fun x => by rw [pm.mem_iff]; exact hx x) (by rw [pm.length_eq]; omega)⟩
theorem pe_lenSetW {a : Expr} {ta : TE} (hc : X.calm = true) (hg : Gl X "len") (hm : X.mg "len" = none) (hg2 : Gl X "set") (hm2 : X.mg "set" = none) (ha : PE X a ta)
    (na : starEach [a] X.env = (false, eval a X.env) :: starEach [] X.env := by rfl) : PE X (.Call (.Name "len" p) [.Call (.Name "set" p2) [a] [] q] [] pos)
      (fun σ H Q => tSetW X.KW ta (fun ns H1 => ∀ L : List Str, L.Nodup → (∀ x, x ∈ L ↔ x ∈ ns) → Q (.int (L.length : Nat)) H1) σ H) := by
  refine ⟨fun pins s σ H Q I h => ?_⟩
  refine Call_ (ld_blt I hg hm PySem.boot_len ?_)
  refine PyProof.Rows.callWith_builtin1 (PyProof.Rows.args_cons ?_ rfl) rfl rfl
  refine Call_ (ld_blt I hg2 hm2 PyProof.Rows.boot_set ?_)
  refine PyProof.Rows.callWith_type1 (PyProof.Rows.args_cons (thn (ha.run pins s σ H _ I h) fun v s1 ⟨x, H1, I1, r1, q1⟩ => PyProof.Rows.args_nil ?_) na) na rfl
  obtain ⟨l, ns, rfl, hq, h64, q1⟩ := q1
  cases r1
  obtain ⟨its, r, pl, hz⟩ := I1.list hq
  refine setW_call (I1.ok.hd hc) pl.isList (ns := ns) (by simpa using r.strs) (by unfold scanBound; omega) fun h' tk L hS hl hx hk => ?_
  refine PyProof.Rows.args_nil ?_
  obtain ⟨o, es, ep, t, ho, hex, hd, _, hL, hnd, _, hf, _⟩ := hS
  have I2 : Inv X pins σ H1 { s1 with heap := h', toks := tk } := I1.kept hk
  have hn : es.size = L.length := by rw [← hL, List.length_map, Array.length_toList]
  refine call_len_set ho hex hd hf (by rw [hn]; omega) ⟨.int L.length, H1, I2.tok _, ⟨_, by rw [hn]⟩, q1 L hnd hx⟩
theorem set_read {F : Fn} (hF : ∀ ds S c S', F ds S ≠ some (.ex c S')) {R : List Str → Hp → Prop} {Q : VK} {σ : L2.St} {H : Hp} (h : tE X.KW X.mg W (eCall F [m]) σ H Q)
    (k : ∀ (ι : List Addr) (S : Store) (H1 : Hp) (n : Nat) (a : Addr) (vs : List V) (xs : List D), Sim X.KW ι S H1 → ι[n]? = some a → S[n]? = some (.lst xs) → H1 a = some (.lst vs) → RepL X.KW ι H1 xs vs → Po (Rep X.KW) X.KW X.mg ι H1 Q (fun cls d H' => W cls d σ H') (F [.ref n] S) → ∃ ns : List Str, vs = ns.map V.str ∧ ns.length < 64 ∧ R ns H1)
    (hno : ∀ d S, (∀ n, d ≠ D.ref n) → F [d] S = none) (hno2 : ∀ n S, (∀ xs, S[n]? ≠ some (MO.lst xs)) → F [.ref n] S = none) : tSetW X.KW (tE X.KW X.mg W m) R σ H := by
  obtain ⟨ι, ρ, S, s, r, p⟩ := h
  have p : Po (Rep X.KW) X.KW X.mg ι H Q (fun cls d H' => W cls d σ H') (Z.bd (m ρ S) fun d S1 => F [d] S1) := by
    have e : eCall F [m] ρ S = Z.bd (m ρ S) fun d S1 => F [d] S1 := by
      simp only [eCall, evL]
      cases m ρ S with
      | none => rfl
      | some o => cases o <;> rfl
    rw [← e]; exact p
  refine ⟨ι, ρ, S, s, r, Po.bd p fun d S1 ι1 H1 x e1 s1 r1 p1 => ?_⟩
  by_cases c : ∃ n, d = D.ref n
  · obtain ⟨n, rfl⟩ := c
    by_cases c2 : ∃ xs, S1[n]? = some (MO.lst xs)
    · obtain ⟨xs, hx⟩ := c2
      obtain ⟨a, vs, rfl, i1, f1, f2⟩ := lst_ok s1 r1 hx
      obtain ⟨ns, rfl, h64, hR⟩ := k ι1 S1 H1 n a vs xs s1 i1 hx f1 f2 p1
      exact ⟨a, ns, rfl, SqL.of f1, h64, hR⟩
    · rw [hno2 n S1 fun xs hx => c2 ⟨xs, hx⟩] at p1
      exact p1.elim
  · rw [hno d S1 fun n hn => c ⟨n, hn⟩] at p1
    exact p1.elim
theorem ge_sset (hc : X.calm = true) (hg : Gl X "sorted") (hm : X.mg "sorted" = none) (hg2 : Gl X "set") (hm2 : X.mg "set" = none) (he : GE X W e m)
    (na : starEach [e] X.env = (false, eval e X.env) :: starEach [] X.env := by rfl) : GE X W (.Call (.Name "sorted" p) [.Call (.Name "set" p2) [e] [] q] [] pos) (eCall ssetF [m]) := (pe_sortedSetW hc hg hm hg2 hm2 he na).imp fun σ H Q h => by
  refine set_read (F := ssetF) (fun ds S c S' => by unfold ssetF; split <;> (try split) <;> (try split) <;> (try split) <;> simp [new1]) h (fun ι S H1 n a vs xs s1 i1 hx f1 f2 p1 => ?_) (fun d S hd => ?_) (fun n S hn => ?_)
  · unfold ssetF at p1
    dsimp only at p1
    rw [hx] at p1
    dsimp only at p1
    split at p1
    · rename_i ws hw
      split at p1
      · rename_i hl
        have ex := strL_eq hw
        subst ex
        obtain ⟨rfl, asc⟩ := repL_txt f2
        refine ⟨ws.map str, rfl, by simpa using hl, fun ys pp hn hs hnd hmem hlen => ?_⟩
        have ey : ys.map un = sortU ws := strict_eq (strict_of (sorted_weak hs) (by
          refine List.Pairwise.map _ (fun a b hab e => hab ?_) hnd
          rw [← str_un a, ← str_un b, e])) (sortU_strict ws) fun x => by
            rw [sortU_mem, List.mem_map]
            constructor
            · rintro ⟨y, hy, rfl⟩
              obtain ⟨s, hs', hs2⟩ := List.mem_map.mp ((hmem y).mp hy)
              rw [← hs2, un_str]; exact hs'
            · intro hx'
              exact ⟨str x, (hmem _).mpr (List.mem_map.mpr ⟨x, hx', rfl⟩), rfl⟩
        have ey2 : ys = (sortU ws).map str := by rw [← ey, map_str]
        subst ey2
        have ex2 : Ext ι H1 (ι ++ [pp]) (upd H1 pp (.lst (((sortU ws).map str).map V.str))) := ext_new hn
        exact Po.ret (Po.mono ex2 p1) (s1.newL hn (txt_repL fun s hs' => asc s (sortU_mem.mp hs'))) (Rep.newL s1)
      · exact p1.elim
    · exact p1.elim
  · unfold ssetF
    split
    · rename_i n hh; cases hh; exact absurd rfl (hd n)
    · rfl
  · unfold ssetF
    dsimp only
    split
    · rename_i xs hx; exact absurd hx (hn xs)
    · rfl
theorem ge_lset (hc : X.calm = true) (hg : Gl X "len") (hm : X.mg "len" = none) (hg2 : Gl X "set") (hm2 : X.mg "set" = none) (he : GE X W e m)
    (na : starEach [e] X.env = (false, eval e X.env) :: starEach [] X.env := by rfl) : GE X W (.Call (.Name "len" p) [.Call (.Name "set" p2) [e] [] q] [] pos) (eCall lsetF [m]) := (pe_lenSetW hc hg hm hg2 hm2 he na).imp fun σ H Q h => by
  refine set_read (F := lsetF) (fun ds S c S' => by unfold lsetF; split <;> (try split) <;> (try split) <;> (try split) <;> simp) h (fun ι S H1 n a vs xs s1 i1 hx f1 f2 p1 => ?_) (fun d S hd => ?_) (fun n S hn => ?_)
  · unfold lsetF at p1
    dsimp only at p1
    rw [hx] at p1
    dsimp only at p1
    split at p1
    · rename_i ws hw
      split at p1
      · rename_i hl
        have ex := strL_eq hw
        subst ex
        obtain ⟨rfl, asc⟩ := repL_txt f2
        refine ⟨ws.map str, rfl, by simpa using hl, fun L hnd hmem => ?_⟩
        have pm : (L.map un).Perm (sortU ws) := by
          refine (List.perm_ext_iff_of_nodup ?_ (strict_nodup (sortU_strict ws))).mpr fun x => ?_
          · refine List.Pairwise.map _ (fun a b hab e => hab ?_) hnd
            rw [← str_un a, ← str_un b, e]
          · rw [sortU_mem, List.mem_map]
            constructor
            · rintro ⟨y, hy, rfl⟩
              obtain ⟨s, hs', hs2⟩ := List.mem_map.mp ((hmem y).mp hy)
              rw [← hs2, un_str]; exact hs'
            · intro hx'
              exact ⟨str x, (hmem _).mpr (List.mem_map.mpr ⟨x, hx', rfl⟩), rfl⟩
        have hlen : L.length = (sortU ws).length := by rw [← pm.length_eq, List.length_map]
        rw [hlen]
        exact Po.ret p1 s1 (by rw [Rep])
      · exact p1.elim
    · exact p1.elim
  · unfold lsetF
    split
    · rename_i n hh; cases hh; exact absurd rfl (hd n)
    · rfl
  · unfold lsetF
    dsimp only
    split
    · rename_i xs hx; exact absurd hx (hn xs)
    · rfl
end
end Z
namespace L2
open PySem PySem.Spec PyProof.Rows
end L2
namespace PySem
end PySem
namespace L2
open PySem PySem.Spec PyProof.Rows
end L2
namespace Z
open PySem PySem.Spec PyProof.Rows L2
theorem enumL_len : ∀ (k : Nat) (ds : List D), (enumL k ds).length = ds.length
  | _, [] => rfl
  | k, d :: ds => by rw [enumL, List.length_cons, List.length_cons, enumL_len (k + 1) ds]
theorem enumL_get : ∀ (k : Nat) (ds : List D) (i : Nat), (enumL k ds)[i]? = (ds[i]?).map fun d => D.tup [.int ((k + i : Nat) : Int), d]
  | _, [], i => by simp [enumL]
  | k, d :: ds, 0 => by simp [enumL]
  | k, d :: ds, i + 1 => by
    rw [enumL, List.getElem?_cons_succ, List.getElem?_cons_succ, enumL_get (k + 1) ds i]
    rw [show k + 1 + i = k + (i + 1) by omega]
end Z
namespace Z
open PySem PySem.Spec PyProof.Rows L2
mutual
/-- how many signs and things, by the kit's count -/
def PD.wgt : PD → Nat
  | .str s => s.length
  | .int i => i.natAbs.log2 + 1
  | .lst xs => wgtL xs
  | .tup xs => wgtL xs
  | _ => 0
def wgtL : List PD → Nat
  | [] => 0
  | x :: xs => PD.wgt x + 1 + wgtL xs
end
mutual
/-- no number in it is long -/
def PD.sml (B : Nat) : PD → Bool
  | .int i => decide (i.natAbs.log2 < B)
  | .lst xs => smlL B xs
  | .tup xs => smlL B xs
  | _ => true
def smlL (B : Nat) : List PD → Bool
  | [] => true
  | x :: xs => PD.sml B x && smlL B xs
end
def PD.rok (B : Nat) (x : PD) : Prop := x.sml B = true ∧ (B + 3) * x.wgt + (B + 1) ≤ 16777216
/-- the text -/
noncomputable def rtext (x : PD) : List Nat := x.py.shown.cps.toList
open Classical in
noncomputable def reprD : Fn := fun ds S => match ds with
  | [d] => (match dat S d with
    | some x => if x.dep ≤ 60 ∧ (x.rok 20 ∨ x.rok 302) then some (.ok (.str (rtext x)) S) else none
    | none => none)
  | _ => none
theorem o_reprD {d : D} {S : Store} {x : PD} (h : dat S d = some x) (hd : x.dep ≤ 60) (hr : x.rok 20 ∨ x.rok 302) : reprD [d] S = some (.ok (.str (rtext x)) S) := by
  unfold reprD
  dsimp only
  rw [h]
  dsimp only
  rw [if_pos ⟨hd, hr⟩]
def Asc (s : Str) : Prop := ∀ c ∈ s.cps.toList, c < 128
theorem Asc.add {a b : Str} (ha : Asc a) (hb : Asc b) : Asc (a ++ b) := fun c hc => by
  have : c ∈ a.cps.toList ++ b.cps.toList := by
    have e : (a ++ b).cps = a.cps ++ b.cps := rfl
    rw [e] at hc
    simpa using hc
  rcases List.mem_append.mp this with h | h
  · exact ha c h
  · exact hb c h
theorem asc_lit (s : String) (h : (s.toList.all fun c => decide (c.toNat < 128)) = true) : Asc (Str.ofString s) := by
  intro c hc
  rw [Str.ofString_eq_toList] at hc
  simp only [List.toList_toArray] at hc
  obtain ⟨k, hk, rfl⟩ := List.mem_map.mp hc
  exact of_decide_eq_true (List.all_eq_true.mp h k hk)
theorem asc_reprChar : ∀ c, c < 128 → ∀ k ∈ Builtin.Str.reprChar 34 c, k < 128 := by decide +kernel
theorem asc_reprChar' : ∀ c, c < 128 → ∀ k ∈ Builtin.Str.reprChar 39 c, k < 128 := by decide +kernel
theorem asc_fold {q : Nat} (hq : ∀ c, c < 128 → ∀ k ∈ Builtin.Str.reprChar q c, k < 128) : ∀ (l : List Nat) (acc : Array Nat), (∀ c ∈ l, c < 128) → (∀ k ∈ acc.toList, k < 128) → ∀ k ∈ (l.foldl (fun out c => out ++ (Builtin.Str.reprChar q c).toArray) acc).toList, k < 128
  | [], acc, _, h => h
  | c :: r, acc, hl, h => by
    rw [List.foldl_cons]
    refine asc_fold hq r _ (fun x hx => hl x (List.mem_cons_of_mem _ hx)) fun k hk => ?_
    simp only [Array.toList_append, List.toList_toArray] at hk
    rcases List.mem_append.mp hk with hk | hk
    · exact h k hk
    · exact hq c (hl c (by simp)) k hk
theorem asc_reprText {x : Str} (h : Asc x) : Asc (reprText x) := by
  intro k hk
  unfold reprText at hk
  rw [Array.toList_push] at hk
  have hq : reprQuote x = 34 ∨ reprQuote x = 39 := by unfold reprQuote; split <;> simp
  have hf : ∀ c, c < 128 → ∀ k ∈ Builtin.Str.reprChar (reprQuote x) c, k < 128 := by
    rcases hq with e | e <;> rw [e]
    · exact asc_reprChar
    · exact asc_reprChar'
  rw [← Array.foldl_toList] at hk
  rcases List.mem_append.mp hk with hk | hk
  · refine asc_fold hf _ _ h (fun k hk => ?_) k hk
    simp at hk
    subst hk
    rcases hq with e | e <;> rw [e] <;> decide
  · simp at hk
    subst hk
    rcases hq with e | e <;> rw [e] <;> decide
theorem asc_textFrom : ∀ (ts : List Str) (k : Nat) (acc : Str), Asc acc → (∀ t ∈ ts, Asc t) → Asc (textFrom k acc ts)
  | [], _, acc, h, _ => h
  | t :: ts, k, acc, h, ht => by
    rw [textFrom]
    refine asc_textFrom ts (k + 1) _ ((h.add ?_).add (ht t (by simp))) fun x hx => ht x (List.mem_cons_of_mem _ hx)
    split
    · exact asc_lit ", " (by decide)
    · exact asc_lit "" (by decide)
theorem asc_join : ∀ ts : List Str, (∀ t ∈ ts, Asc t) → Asc (Str.join ", " ts)
  | [], _ => fun c hc => by cases hc
  | [x], h => h x (by simp)
  | x :: y :: r, h => by
    have ih := asc_join (y :: r) fun t ht => h t (List.mem_cons_of_mem _ ht)
    show Asc (x ++ ", " ++ Str.join ", " (y :: r))
    exact ((h x (by simp)).add (asc_lit ", " (by decide))).add ih
mutual
theorem asc_shown : ∀ x : PD, x.asc → Asc x.py.shown
  | .non, _ => asc_lit "None" (by decide)
  | .bl b, _ => by
    cases b
    · exact asc_lit "False" (by decide)
    · exact asc_lit "True" (by decide)
  | .int i, _ => fun c hc => by
    have e : (PD.int i).py.shown = str (dec i) := dec_eq i
    rw [e] at hc
    exact dec_asc i c (by simpa using hc)
  | .str s, h => by
    rw [PD.asc] at h
    exact asc_reprText (x := Z.str s) fun c hc => h c (by simpa using hc)
  | .lst xs, h => by
    rw [PD.asc] at h
    show Asc (listText (PyData.shownAll (pyL xs)))
    unfold listText
    exact (asc_textFrom _ _ _ (asc_lit "[" (by decide)) (asc_shownL xs h)).add (asc_lit "]" (by decide))
  | .tup xs, h => by
    rw [PD.asc] at h
    show Asc (tupleText (PyData.shownAll (pyL xs)))
    unfold tupleText
    refine ((asc_lit "(" (by decide)).add (asc_join _ (asc_shownL xs h))).add ?_
    split
    · exact asc_lit ",)" (by decide)
    · exact asc_lit ")" (by decide)
theorem asc_shownL : ∀ xs : List PD, ascL xs → ∀ t ∈ PyData.shownAll (pyL xs), Asc t
  | [], _, t, h => by cases h
  | x :: xs, h, t, ht => by
    rw [ascL] at h
    rw [pyL, PyData.shownAll] at ht
    rcases List.mem_cons.mp ht with rfl | ht
    · exact asc_shown x h.1
    · exact asc_shownL xs h.2 t ht
end
mutual
theorem py_wgt : ∀ x : PD, x.py.weight ≤ x.wgt
  | .non => Nat.le_refl _
  | .bl _ => Nat.le_refl _
  | .int i => by
    show (if i == 0 then 0 else i.natAbs.log2 + 1) ≤ i.natAbs.log2 + 1
    split <;> omega
  | .str s => by
    show (Z.str s).cps.size ≤ s.length
    simp
  | .lst xs => by simp only [PD.py, PyData.weight, PD.wgt]; exact py_wgtL xs
  | .tup xs => by simp only [PD.py, PyData.weight, PD.wgt]; exact py_wgtL xs
theorem py_wgtL : ∀ xs : List PD, PyData.weightAll (pyL xs) ≤ wgtL xs
  | [] => Nat.le_refl _
  | x :: xs => by
    have h1 := py_wgt x
    have h2 := py_wgtL xs
    simp only [pyL, PyData.weightAll, wgtL]
    omega
end
theorem len_ofString (s : String) : (Str.ofString s).length = s.length := by
  exact PySem.ofString_length s
mutual
theorem py_leaves (B : Nat) (hB : 0 < B) : ∀ x : PD, x.asc → x.sml B = true → x.py.leavesShort (B + 1) = true
  | .non, _, _ => rfl
  | .bl _, _, _ => rfl
  | .int i, _, h => by
    have h' : i.natAbs.log2 < B := by simpa [PD.sml] using h
    show decide ((Str.ofString (toString i)).length ≤ B + 1) = true
    rw [len_ofString]
    exact decide_eq_true (int_text_length_le hB h')
  | .str s, h, _ => by
    rw [PD.asc] at h
    show ((Z.str s).cps.toList.all fun c => decide (c < 16 ^ 8)) = true
    refine List.all_eq_true.mpr fun c hc => decide_eq_true ?_
    have := h c (by simpa using hc)
    exact Nat.lt_trans this (by decide)
  | .lst xs, h, g => by
    rw [PD.asc] at h
    simp only [PD.sml] at g
    simp only [PD.py, PyData.leavesShort]
    exact py_leavesL B hB xs h g
  | .tup xs, h, g => by
    rw [PD.asc] at h
    simp only [PD.sml] at g
    simp only [PD.py, PyData.leavesShort]
    exact py_leavesL B hB xs h g
theorem py_leavesL (B : Nat) (hB : 0 < B) : ∀ xs : List PD, ascL xs → smlL B xs = true → PyData.leavesShortAll (B + 1) (pyL xs) = true
  | [], _, _ => rfl
  | x :: xs, h, g => by
    rw [ascL] at h
    rw [smlL, Bool.and_eq_true] at g
    rw [pyL, PyData.leavesShortAll, py_leaves B hB x h.1 g.1, py_leavesL B hB xs h.2 g.2]
    rfl
end
mutual
theorem py_showable (B : Nat) (hB : B ≤ 1920) : ∀ x : PD, x.sml B = true → x.py.showable = true
  | .non, _ => rfl
  | .bl _, _ => rfl
  | .int i, h => by
    have h' : i.natAbs.log2 < B := by simpa [PD.sml] using h
    exact decide_eq_true (show i.natAbs.log2 < 1920 by omega)
  | .str s, _ => rfl
  | .lst xs, g => by simp only [PD.sml] at g; simp only [PD.py, PyData.showable]; exact py_showableL B hB xs g
  | .tup xs, g => by simp only [PD.sml] at g; simp only [PD.py, PyData.showable]; exact py_showableL B hB xs g
theorem py_showableL (B : Nat) (hB : B ≤ 1920) : ∀ xs : List PD, smlL B xs = true → PyData.showableAll (pyL xs) = true
  | [], _ => rfl
  | x :: xs, g => by
    rw [smlL, Bool.and_eq_true] at g
    rw [pyL, PyData.showableAll, py_showable B hB x g.1, py_showableL B hB xs g.2]
    rfl
end
theorem rok_len {x : PD} (ha : x.asc) {B : Nat} (h8 : 8 ≤ B) (h : x.rok B) : x.py.shown.length ≤ sizeLine := by
  have h1 := PyData.shown_le (B + 1) (by omega) x.py (py_leaves B (by omega) x ha h.1)
  have h2 := py_wgt x
  have h3 := h.2
  have h4 : (B + 1 + 2) * x.py.weight ≤ (B + 3) * x.wgt := Nat.mul_le_mul (by omega) h2
  rw [sizeLine_eq]
  omega
section
variable {X : Cx}
theorem no_reprD : NoExF reprD := by
  intro ds S c S'
  unfold reprD
  split
  · split
    · split <;> simp
    · simp
  · simp
theorem zc_reprD (hg : X.A.guards = some []) (hu : X.A.units + 65 < cLine) : CallR X (.builtin "repr") (rB X reprD) := by
  intro pins s σ H xs us Q I r ⟨ι, S, ds, sm, rd, po⟩
  unfold reprD at po
  split at po
  · rename_i d
    obtain ⟨v, rfl, h⟩ := one_of (ds := []) rd
    obtain ⟨u, rfl, ru⟩ := vals1 r
    split at po
    · rename_i x hx
      split at po
      · rename_i hc
        obtain ⟨dp, ha⟩ := dat_ok sm h hx
        obtain ⟨as, rr⟩ := Dp.reads I x.py v u dp ru
        have hsz : x.py.shown.length ≤ sizeLine := hc.2.elim (fun q => rok_len ha (by decide) q) (fun q => rok_len ha (by decide) q)
        have hs : x.py.showable = true := hc.2.elim (fun q => py_showable 20 (by decide) x q.1) (fun q => py_showable 302 (by decide) x q.1)
        have hnd := PyData.hasDict_of_canLay x.py (py_lay x ha)
        have hasc := asc_shown x ha
        have fin : ∀ (h' : Heap) (t t' : Tok), (∀ b o, s.heap.get? b = some o → h'.get? b = some o) → EP X pins σ Q (.str x.py.shown t) { s with heap := h', toks := t' } := fun h' t t' hk =>
          ⟨.str x.py.shown, H, I.kept (t' := t') hk, ⟨t, rfl⟩, Po.ret po sm (by
            rw [Rep]
            refine ⟨?_, fun c hc => hasc c hc⟩
            show V.str x.py.shown = V.str (Z.str (rtext x))
            simp [rtext, Z.str])⟩
        have hdep := py_depth x
        have hcd := hc.1
        cases x with
        | non =>
          cases dp
          cases ru
          exact PySem.P.repr_of_none (fin s.heap s.toks (s.toks + 1) fun _ _ e => e)
        | bl b =>
          cases dp
          cases ru
          exact PySem.P.repr_of_bool (by
            have := fin s.heap s.toks (s.toks + 1) fun _ _ e => e
            cases b <;> exact this)
        | int i =>
          cases dp
          obtain ⟨t', rfl⟩ := ru
          exact PySem.P.repr_of_int (of_decide_eq_true hs) (fin s.heap s.toks (s.toks + 1) fun _ _ e => e)
        | str z =>
          cases dp
          obtain ⟨t', rfl⟩ := ru
          exact PySem.P.repr_of_str (fin s.heap s.toks (s.toks + 1) fun _ _ e => e) hsz
        | lst zs =>
          cases dp
          cases ru
          exact repr_of_reads' rr hs (fun e => by rw [hnd] at e; cases e) hg (by rw [hdep]; omega) (fun _ _ e => e) (fun h' t tk hk => fin h' t tk hk) hsz
        | tup zs =>
          cases dp
          cases ru
          exact repr_of_reads' rr hs (fun e => by rw [hnd] at e; cases e) hg (by rw [hdep]; omega) (fun _ _ e => e) (fun h' t tk hk => fin h' t tk hk) hsz
      · exact po.elim
    · exact po.elim
  · exact po.elim
end
end Z
namespace Z
open PySem PySem.Spec PyProof.Rows L2
section
variable {X : Cx} {W : WX} {i : Nat} {a : Addr} {e : Expr} {es : List Expr} {ma : SE} {ms : List SE} {pos : Pos}
/-- a class that stands in the text: an own one, or a built-in one -/
def ClsN (X : Cx) (x : Str) (v : V) (u : Value) : Prop := ClsV v u ∧ ∀ pos : Pos, PE X (.Name x pos) (tC v)
theorem ClsN.own {x : Str} {C : Addr} (hg : Gl X x) (hm : X.mg x = some (.ref C)) (hd : (x == ("__debug__" : Str)) = false := by decide) : ClsN X x (.ref C) (.ref C) := ⟨.own C, fun _ => pe_glob hg hm rfl hd⟩
theorem ClsN.blt {x : Str} {T : String} (hg : Gl X x) (hm : X.mg x = none) (hv : bootBuiltins x = some (.type T)) (hn : x ≠ "__name__" := by decide) (hd : (x == ("__debug__" : Str)) = false := by decide) : ClsN X x (.ty T) (.type T) := ⟨.ty T, fun _ => pe_bltn hg hm hv rfl hn hd⟩
/-- the name goes -/
def unI (i : Nat) : Option Out → Option Out
  | some (.nx ρ S) => some (.nx (ρ.set i none) S)
  | some (.bk ρ S) => some (.bk (ρ.set i none) S)
  | some (.ct ρ S) => some (.ct (ρ.set i none) S)
  | some (.rt d S) => some (.rt d S)
  | _ => none
def pickH (c : String) : List (String × SS) → Option SS
  | [] => none
  | (x, h) :: r => if c = x then some h else pickH c r
def sTryAs (i : Nat) (hs : List (String × SS)) (b : SS) : SS := fun ρ S => match b ρ S with
  | some (.ex c ρ1 S1) => (match pickH c hs with
    | some h => if i < ρ1.length then unI i (h (ρ1.set i none) S1) else none
    | none => none)
  | r => r
end
end Z
namespace Z
open PySem PySem.Spec PyProof.Rows L2
/-- a class of errors in hand: caught by the clause of the class at ZE; isinstance asks it rightly -/
structure ExH (K : PySem.W.Frag) (D ZE : Addr) : Prop where
  exm : PySem.W.exmOne K (.ref D) (.ref ZE) = some true
  C : ExcC K D
@[simp] theorem x_tryas (i : Nat) (hs : List (String × SS)) (b : SS) (ρ : Env) (S : Store) : sTryAs i hs b ρ S = match b ρ S with
  | some (.ex c ρ1 S1) => (match pickH c hs with
    | some h => if i < ρ1.length then unI i (h (ρ1.set i none) S1) else none
    | none => none)
  | r => r := rfl
end Z
namespace Z
open PySem PySem.Spec PyProof.Rows L2
theorem kit_own {K : PySem.W.Frag} {D T : Addr} {b : Bool} (hself : PySem.W.subIn K (.ref D) (.ref D) = some true) (hd : PySem.W.hasDictIn K T = true) (ht : PySem.W.typeIn K (.ref T) = some (.type "type")) (hs : PySem.W.subIn K (.ref D) (.ref T) = some b) : PySem.W.kitOne K (.ref D) (.ref T) = some b := by
  unfold PySem.W.kitOne
  by_cases h : (Value.ref D == Value.ref T) = true
  · rw [if_pos h]
    have e : D = T := Value.ref.inj (beq_iff_eq.mp h)
    subst e
    rw [hself] at hs
    exact hs
  · rw [if_neg h]
    obtain ⟨cd, hc, _⟩ := PySem.W.any_some hd
    have e2 : ((PySem.W.clsIn K T).isSome && PySem.W.typeIn K (.ref T) == some (.type "type")) = true := by rw [hc, ht] <;> rfl
    show (if ((PySem.W.clsIn K T).isSome && PySem.W.typeIn K (.ref T) == some (.type "type")) = true then PySem.W.subIn K (.ref D) (.ref T) else none) = some b
    rw [if_pos e2]
    exact hs
theorem kit_blt {K : PySem.W.Frag} {D : Addr} {T : String} {b : Bool} (hm : PySem.W.kitMeta T = true) (hs : PySem.W.subIn K (.ref D) (.type T) = some b) : PySem.W.kitOne K (.ref D) (.type T) = some b := by
  unfold PySem.W.kitOne
  have h : ¬ (Value.ref D == Value.type T) = true := fun h => by cases beq_iff_eq.mp h
  rw [if_neg h]
  show (if PySem.W.kitMeta T = true then PySem.W.subIn K (.ref D) (.type T) else none) = some b
  rw [if_pos hm]
  exact hs
end Z
namespace L2
open PySem PySem.Spec PyProof.Rows
end L2
namespace Z
open PySem PySem.Spec PyProof.Rows L2
/-- the exception is kept in slot k -/
def sTryK (i k : Nat) (cs : List String) (b : SS) : SS := fun ρ S => match b ρ S with
  | some (.ex c ρ1 S1) => if c ∈ cs ∧ i < ρ1.length ∧ k < ρ1.length then some (.nx ((ρ1.set i none).set k (some (.ref S1.length))) (S1 ++ [.exn c])) else none
  | r => r
@[simp] theorem x_tryk (i k : Nat) (cs : List String) (b : SS) (ρ : Env) (S : Store) : sTryK i k cs b ρ S = match b ρ S with
  | some (.ex c ρ1 S1) => if c ∈ cs ∧ i < ρ1.length ∧ k < ρ1.length then some (.nx ((ρ1.set i none).set k (some (.ref S1.length))) (S1 ++ [.exn c])) else none
  | r => r := rfl
section
variable {X : Cx} {W : WX}
def pickB (c : String) : List (String × Bool) → Option Bool
  | [] => none
  | (x, h) :: r => if c = x then some h else pickB c r
theorem pickB_mem {c : String} {h : Bool} : ∀ {hs : List (String × Bool)}, pickB c hs = some h → (c, h) ∈ hs
  | [], e => by cases e
  | (x, g) :: r, e => by
    rw [pickB] at e
    split at e
    · rename_i hx
      cases e
      rw [hx]
      exact List.mem_cons_self
    · exact List.mem_cons_of_mem _ (pickB_mem e)
def isXF (tbl : List (String × Bool)) (d : D) (S : Store) : M D := match d with
  | .ref n => (match S[n]? with | some (.exn c) => (match pickB c tbl with | some b => some (.ok (.bl b) S) | none => none) | _ => none)
  | _ => none
theorem hx_nil {P : String → Bool → Prop} : ∀ c b, (c, b) ∈ ([] : List (String × Bool)) → P c b := fun c b hm => by cases hm
theorem hx_cons {P : String → Bool → Prop} {c : String} {b : Bool} {r : List (String × Bool)} (p : P c b) (q : ∀ c' b', (c', b') ∈ r → P c' b') : ∀ c' b', (c', b') ∈ (c, b) :: r → P c' b' := fun c' b' hm => by
  rcases List.mem_cons.mp hm with e | hm
  · cases e; exact p
  · exact q c' b' hm
theorem inst_of {P : Program} {w : World} {H : Hp} {h : Heap} {a D : Addr} (x : ObjOk P w H h a (ExK (.ref D) a)) : ∃ oe, PySem.W.InstAt h a oe D none := by
  obtain ⟨⟨oe, e, h1, h2, vs, hv⟩, _⟩ := x
  obtain ⟨oc, od, oda, osl⟩ := oe
  dsimp only at h1 h2 hv
  subst h1 h2 hv
  exact ⟨_, e, rfl, rfl, trivial⟩
def rIsX (K : PySem.W.Frag) : List V → Hp → VK → Prop := fun xs H Q => ∃ (a D : Addr) (c : V) (cv : Value) (b : Bool), xs = [.ref a, c] ∧ H a = some (ExK (.ref D) a) ∧ ExcC K D ∧ (∀ u, RelV c u → u = cv) ∧ PySem.W.kitOne K (.ref D) cv = some b ∧ Q (.bl b) H
theorem call_isX : CallR X (.builtin "isinstance") (rIsX X.K) := by
  intro pins s σ H xs us Q I r h
  obtain ⟨a, D, c, cv, b, rfl, hH, C, hcv, e, q⟩ := h
  obtain ⟨u1, u2, rfl, r1, r2⟩ := vals2 r
  cases (show u1 = Value.ref a from r1)
  have ec := hcv _ r2
  subst ec
  obtain ⟨oe, J⟩ := inst_of (I.hok a _ hH)
  exact PySem.W.kia_one (PySem.W.handS_kitx_exc C.hg C.hk C.hs C.hd C.ha C.hn C.ht C.hm) I.kIn J e (fun z => nomatch z) fun tk => ⟨.bl b, H, I.kept (t' := tk) fun _ _ z => z, rfl, q⟩
theorem no_isX (tbl : List (String × Bool)) (d : D) (S : Store) (c : String) (S' : Store) : isXF tbl d S ≠ some (.ex c S') := by
  unfold isXF
  split
  · split
    · split <;> simp
    · simp
  · simp
/-- isinstance(e, T), e kept -/
theorem ge_isX {e : Expr} {m : SE} {tbl : List (String × Bool)} {f T : Str} {v : V} {u : Value} {p p2 pos : Pos} (he : GE X W e m)
    (hT : ClsN X T v u) (hD : ∀ c b, (c, b) ∈ tbl → ∃ D : Addr, PySem.W.nsIn X.K mainGlobals (Str.ofString c) = some (some (.ref D)) ∧ ExcC X.K D ∧ PySem.W.kitOne X.K (.ref D) u = some b)
    (hg : Gl X f) (hm : X.mg f = none) (hv : bootBuiltins f = some (.builtin "isinstance"))
    (hn : f ≠ "__name__" := by decide) (hdb : (f == ("__debug__" : Str)) = false := by decide)
    (hs2 : starEach [.Name T p2] X.env = (false, eval (.Name T p2) X.env) :: starEach [] X.env := by rfl)
    (hs : starEach (e :: [.Name T p2]) X.env = (false, eval e X.env) :: starEach [.Name T p2] X.env := by rfl)
    (hpl : (backTo pos (starEach [.Name T p2] X.env)).any (·.1) = false := by rfl) :
    GE X W (.Call (.Name f p) [e, .Name T p2] [] pos) (e1 (isXF tbl) m) :=
  (pe_callB call_isX hg hm hv (pa_cons he (pa_cons (hT.2 p2) pa_nil hs2) hs) hn hdb hs hpl).imp fun σ H Q ⟨ι, ρ, S, s, r, p⟩ => by
    refine ⟨ι, ρ, S, s, r, Po.bd p fun d S1 ι1 H1 x e1 s1 r1 p1 => ?_⟩
    have p1 := p1.noex (E' := fun _ _ _ => False) fun c S' => no_isX tbl d S1 c S'
    unfold isXF at p1
    cases d with
    | ref n0 =>
      dsimp only at p1
      split at p1
      · rename_i c g
        split at p1
        · rename_i b hb
          rw [Rep] at r1
          obtain ⟨a, rfl, hι⟩ := r1
          obtain ⟨C, hC, hH⟩ := s1.obj _ _ _ g hι
          obtain ⟨D', hD', hE, hk⟩ := hD c b (pickB_mem hb)
          obtain rfl : D' = C := by
            rw [show X.KW.K = X.K from rfl] at hC
            rw [hC] at hD'
            cases hD'
            rfl
          exact ⟨a, D', v, u, b, rfl, hH, hE, fun w hw => hT.1.eq hw, hk, Po.ret p1 s1 (by rw [Rep])⟩
        · exact p1.elim
      · exact p1.elim
    | _ => exact p1.elim
end
end Z
namespace L2
open PySem PySem.Spec PyProof.Rows RZ
end L2
namespace Z
open PySem PySem.Spec PyProof.Rows L2
/-- pairs of the items of two tuples -/
def zipL : List D → List D → List D
  | d :: ds, e :: es => .tup [d, e] :: zipL ds es
  | _, _ => []
def iZip (a b : SE) : SI := fun ρ S => bd (a ρ S) fun d S1 => bd (b ρ S1) fun e S2 => match d, e with
  | .tup ds, .tup es => some (.ok ⟨zipL ds es, fun _ => True⟩ S2)
  | _, _ => none
@[simp] theorem x_zip (a b : SE) (ρ : Env) (S : Store) : iZip a b ρ S = bd (a ρ S) fun d S1 => bd (b ρ S1) fun e S2 => match d, e with
  | .tup ds, .tup es => some (.ok ⟨zipL ds es, fun _ => True⟩ S2)
  | _, _ => none := rfl
def smulD : D → D → Store → M D
  | .str s, .int k, S => if 2 ≤ k ∧ k ≤ 100000 ∧ 0 < s.length ∧ s.length ≤ 100 then some (.ok (.str (List.replicate k.toNat s).flatten) S) else none
  | _, _, _ => none
@[simp] theorem o_smul (s : List Nat) (k : Int) (S : Store) : smulD (.str s) (.int k) S = if 2 ≤ k ∧ k ≤ 100000 ∧ 0 < s.length ∧ s.length ≤ 100 then some (.ok (.str (List.replicate k.toNat s).flatten) S) else none := rfl
end Z
namespace L2
open PySem PySem.Spec PyProof.Rows
end L2
namespace Z
open PySem PySem.Spec PyProof.Rows L2
def insAt (c : String) (S : Store) (d : D) : Option (List (String × D)) := match d with
  | .ref n => (match S[n]? with | some (.ins c' fs) => if c' = c then some fs else none | _ => none)
  | _ => none
/-- o.f -/
def eFld (c f : String) (o : SE) : SE := fun ρ S => bd (o ρ S) fun d S1 => match insAt c S1 d with
  | some fs => (match fs.lookup f with | some v => some (.ok v S1) | none => none)
  | none => none
def putA (f : String) (v : D) : List (String × D) → List (String × D)
  | [] => [(f, v)]
  | (g, x) :: r => if g = f then (g, v) :: r else (g, x) :: putA f v r
/-- o.f = v -/
def sFld (c f : String) (o v : SE) : SS := fun ρ S => bo (v ρ S) ρ fun w S1 => bo (o ρ S1) ρ fun d S2 => match d with
  | .ref n => (match S2[n]? with | some (.ins c' fs) => if c' = c ∧ fs.length < 1000 then some (.nx ρ (S2.set n (.ins c (putA f w fs)))) else none | _ => none)
  | _ => none
/-- o.m(..) -/
def eMeth (c m : String) (F : Fn) (o : SE) (es : List SE) : SE := fun ρ S => bd (o ρ S) fun d S1 => match insAt c S1 d with
  | some fs => if (fs.lookup m).isNone = true then bd (evL es ρ S1) fun ds S2 => F (d :: ds) S2 else none
  | none => none
/-- C() -/
def eMake0 (c : String) (F : Fn) : SE := fun ρ S => match F [.ref S.length] (S ++ [.ins c []]) with
  | some (.ok .non S2) => some (.ok (.ref S.length) S2)
  | some (.ex x S2) => some (.ex x S2)
  | _ => none
section
variable {ρ : Env} {S : Store}
@[simp] theorem o_insAt (c : String) (n : Nat) : insAt c S (.ref n) = (match S[n]? with | some (.ins c' fs) => if c' = c then some fs else none | _ => none) := rfl
@[simp] theorem x_fld (c f : String) (o : SE) : eFld c f o ρ S = bd (o ρ S) fun d S1 => match insAt c S1 d with
  | some fs => (match fs.lookup f with | some v => some (.ok v S1) | none => none)
  | none => none := rfl
@[simp] theorem x_sfld (c f : String) (o v : SE) : Z.sFld c f o v ρ S = bo (v ρ S) ρ fun w S1 => bo (o ρ S1) ρ fun d S2 => match d with
  | .ref n => (match S2[n]? with | some (.ins c' fs) => if c' = c ∧ fs.length < 1000 then some (.nx ρ (S2.set n (.ins c (putA f w fs)))) else none | _ => none)
  | _ => none := rfl
@[simp] theorem x_meth (c m : String) (F : Fn) (o : SE) (es : List SE) : eMeth c m F o es ρ S = bd (o ρ S) fun d S1 => match insAt c S1 d with
  | some fs => if (fs.lookup m).isNone = true then bd (evL es ρ S1) fun ds S2 => F (d :: ds) S2 else none
  | none => none := rfl
@[simp] theorem x_make0 (c : String) (F : Fn) : eMake0 c F ρ S = match F [.ref S.length] (S ++ [.ins c []]) with
  | some (.ok .non S2) => some (.ok (.ref S.length) S2)
  | some (.ex x S2) => some (.ex x S2)
  | _ => none := rfl
end
section
variable {X : Cx} {W : WX} {e : Expr} {m : SE}
/-- what is not told -/
def eNo : SE := fun _ _ => none
@[simp] theorem x_no (ρ : Env) (S : Store) : eNo ρ S = none := rfl
end
end Z
namespace L2
open PySem PySem.Spec PyProof.Rows
end L2
namespace Z
open PySem PySem.Spec PyProof.Rows L2
def joinTF : Fn := fun ds S => match ds with
  | [.str sep, .tup ds] => (match strsL ds with
    | some zs => if (zs.map List.length).sum + zs.length * sep.length ≤ 16777216 then some (.ok (.str (joinS sep zs)) S) else none
    | none => none)
  | _ => none
@[simp] theorem o_joinT (sep : List Nat) (ds : List D) (S : Store) : joinTF [.str sep, .tup ds] S = (match strsL ds with
    | some zs => if (zs.map List.length).sum + zs.length * sep.length ≤ 16777216 then some (.ok (.str (joinS sep zs)) S) else none
    | none => none) := rfl
def digV (cs : List Nat) : Nat := cs.foldl (fun acc c => acc * 10 + (c - 48)) 0
def digW (w : List Nat) : Bool := !w.isEmpty && (w.all fun c => decide (48 ≤ c) && decide (c ≤ 57)) && decide (w.length ≤ 600)
def intNF : Fn := fun ds S => match ds with
  | [.str w] => if digW w = true then some (.ok (.int (digV w : Nat)) S) else none
  | _ => none
@[simp] theorem o_intN (w : List Nat) (S : Store) : intNF [.str w] S = if digW w = true then some (.ok (.int (digV w : Nat)) S) else none := rfl
/-- x in (a, ..), texts -/
def inTD (x c : D) (S : Store) : M D := match x, c with
  | .str z, .tup ds => (match strsL ds with
    | some zs => some (.ok (.bl (decide (z ∈ zs))) S)
    | none => none)
  | _, _ => none
@[simp] theorem o_inT (z : List Nat) (ds : List D) (S : Store) : inTD (.str z) (.tup ds) S = (match strsL ds with
    | some zs => some (.ok (.bl (decide (z ∈ zs))) S)
    | none => none) := rfl
abbrev Tab := List (List Nat × List (List Nat))
def tabAt : Tab → List Nat → Option (List (List Nat))
  | [], _ => none
  | p :: r, z => if p.1 = z then some p.2 else tabAt r z
def rowAt (tab : Tab) : D → Option (List (List Nat))
  | .str z => tabAt tab z
  | _ => none
/-- e not in ROWS -/
def eRowsNi (tab : Tab) (e : SE) : SE := fun ρ S => bd (e ρ S) fun d S1 => match d with
  | .str z => some (.ok (.bl (!(tabAt tab z).isSome)) S1)
  | _ => none
/-- len(ROWS[e]) -/
def eRowsLen (tab : Tab) (e : SE) : SE := fun ρ S => bd (e ρ S) fun d S1 => match rowAt tab d with
  | some ks => some (.ok (.int ks.length) S1)
  | none => none
/-- zip(ROWS[e], l) -/
def iZipRows (tab : Tab) (e l : SE) : SI := fun ρ S => bd (e ρ S) fun d S1 => match rowAt tab d with
  | some ks => bd (l ρ S1) fun y S2 => (match y with
    | .ref n => (match S2[n]? with
      | some (.lst ds) => if ds.all k0 = true then some (.ok ⟨zipL (ks.map .str) ds, fun S => S[n]? = some (.lst ds)⟩ S2) else none
      | _ => none)
    | _ => none)
  | none => none
/-- a tuple of texts among what stands -/
def KT (K : PySem.W.Frag) (t : Addr) (ks : List (List Nat)) : Prop :=
  (∃ (o : Obj) (its : Array Value) (n : Nat), K.lookup t = some o ∧ o.cls = .type "tuple" ∧ o.data = .seq its n ∧ its.size ≤ sizeLine ∧ Vals (ks.map fun k => V.str (str k)) its.toList) ∧ ∀ k ∈ ks, ∀ c ∈ k, c < 128
inductive RowsL (K : PySem.W.Frag) : Tab → List (Str × Value) → Prop
  | nil : RowsL K [] []
  | cons {cs : List Nat} {ks : List (List Nat)} {t : Addr} {x : Str} {tab : Tab} {kvs : List (Str × Value)} (hx : x = str cs) (h : KT K t ks) (r : RowsL K tab kvs) : RowsL K ((cs, ks) :: tab) ((x, .ref t) :: kvs)
theorem str_injR {a b : List Nat} (h : str a = str b) : a = b := by
  injection h with h
  simpa using congrArg Array.toList h
theorem RowsL.at {K : PySem.W.Frag} (z : List Nat) : ∀ {tab : Tab} {kvs : List (Str × Value)}, RowsL K tab kvs → match tabAt tab z with
    | some ks => ∃ t, kvs.lookup (str z) = some (.ref t) ∧ KT K t ks
    | none => kvs.lookup (str z) = none
  | _, _, .nil => rfl
  | _, _, .cons (cs := cs) (ks := ks) (t := t) (x := x) hx h r => by
    subst hx
    have ih := RowsL.at z r
    rw [tabAt]
    by_cases c : cs = z
    · subst c
      rw [if_pos rfl]
      exact ⟨t, by simp [List.lookup], h⟩
    · rw [if_neg c]
      have hb : (str z == str cs) = false := by
        rw [Bool.eq_false_iff]
        intro q
        exact c (str_injR (beq_iff_eq.mp q)).symm
      simp only [List.lookup, hb]
      exact ih
theorem KT.sqT {K : PySem.W.Frag} {H : Hp} {t : Addr} {ks : List (List Nat)} (h : KT K t ks) : SqT K H t (ks.map fun k => V.str (str k)) := .inr h.1
section
variable {ρ : Env} {S : Store} {tab : Tab}
@[simp] theorem x_rowsni (e : SE) : eRowsNi tab e ρ S = bd (e ρ S) fun d S1 => match d with
  | .str z => some (.ok (.bl (!(tabAt tab z).isSome)) S1)
  | _ => none := rfl
@[simp] theorem x_rowslen (e : SE) : eRowsLen tab e ρ S = bd (e ρ S) fun d S1 => match rowAt tab d with
  | some ks => some (.ok (.int ks.length) S1)
  | none => none := rfl
@[simp] theorem x_ziprows (e l : SE) : iZipRows tab e l ρ S = bd (e ρ S) fun d S1 => match rowAt tab d with
  | some ks => bd (l ρ S1) fun y S2 => (match y with
    | .ref n => (match S2[n]? with
      | some (.lst ds) => if ds.all k0 = true then some (.ok ⟨zipL (ks.map .str) ds, fun S => S[n]? = some (.lst ds)⟩ S2) else none
      | _ => none)
    | _ => none)
  | none => none := rfl
@[simp] theorem o_rowAt (z : List Nat) : rowAt tab (.str z) = tabAt tab z := rfl
end
end Z
namespace L2
open PySem PySem.Spec PyProof.Rows
end L2
namespace Z
open PySem PySem.Spec PyProof.Rows L2
/-- which of two, by a key -/
def byK (x : M D) (a b : M D) : M D := match x with
  | some (.ok (.tup _) _) => a
  | some (.ok _ _) => b
  | _ => none
@[simp] theorem byK_tup (ks : List D) (S : Store) (a b : M D) : byK (some (.ok (.tup ks) S)) a b = a := rfl
@[simp] theorem byK_int (i : Int) (S : Store) (a b : M D) : byK (some (.ok (.int i) S)) a b = b := rfl
@[simp] theorem byK_str (s : List Nat) (S : Store) (a b : M D) : byK (some (.ok (.str s) S)) a b = b := rfl
end Z
namespace L2
namespace DT
open PySem PySem.SetTable
def tab (m mask finger moves : Nat) (led plain : Bool) : SetTable := { mask, place := Array.range m, dummies := #[], finger, led, moves, plain }
section
variable {m mask finger moves : Nat} {led plain : Bool}
theorem fits_tab (h : m ≤ mask) : (tab m mask finger moves led plain).fits m = true := by
  unfold fits tab fill
  simp [h]
end
/-- the slots of a table that holds 0 .. k - 1 -/
def own (mask k : Nat) : Array (Option Nat) := Array.ofFn (n := mask + 1) fun i => if i.val < k then some i.val else none
/-- not too full -/
structure Tb (t : SetTable) (m : Nat) : Prop where
  eq : t = tab m t.mask t.finger t.moves t.led t.plain
  odd : t.mask % 2 = 1
  room : m * 5 < t.mask * 3
  pw : ∃ j, t.mask + 1 = 2 ^ j
theorem Tb.fresh (finger moves : Nat) (led : Bool) : Tb (SetTable.fresh finger moves led) 0 := ⟨by unfold SetTable.fresh tab; rfl, by show 7 % 2 = 1; decide, by show 0 * 5 < 7 * 3; decide, ⟨3, rfl⟩⟩
theorem Tb.fits {t : SetTable} {m : Nat} (h : Tb t m) : t.fits m = true := by
  have := h.room
  rw [h.eq]
  exact fits_tab (by omega)
end DT
end L2
namespace L2
open PySem PySem.Spec PyProof.Rows
/-- the entries: 0, 1, .. -/
structure DEs (es : Array (Int × Value)) (m : Nat) : Prop where
  size : es.size = m
  at' : ∀ i, i < m → ∃ tk, es[i]? = some ((i : Int), .int i tk)
theorem DEs.push {es : Array (Int × Value)} {m : Nat} (h : DEs es m) (tk : Tok) : DEs (es.push ((m : Int), .int m tk)) (m + 1) := by
  refine ⟨by simp [h.size], fun i hi => ?_⟩
  rw [Array.getElem?_push, h.size]
  by_cases c : i = m
  · subst c
    exact ⟨tk, by simp⟩
  · rw [if_neg c]
    exact h.at' i (by omega)
theorem DEs.hash {es : Array (Int × Value)} {m : Nat} (h : DEs es m) {i : Nat} (hi : i < m) : (es[i]?.map (·.1)).getD 0 = (i : Int) := by
  obtain ⟨tk, e⟩ := h.at' i hi
  rw [e]
  rfl
end L2
namespace L2
open PySem PySem.Spec PyProof.Rows
end L2
namespace PyProof.Rows
open PySem PySem.Spec L2
end PyProof.Rows
namespace PySem
open PyProof.Rows
end PySem
namespace L2
open PySem PySem.Spec PyProof.Rows
/-- as met: each number is one met already, or the next -/
def dnc : Nat → List Int → Option Nat
  | c, [] => some c
  | c, x :: r => if 0 ≤ x ∧ x ≤ c then dnc (if x = c then c + 1 else c) r else none
def okSet (ns : List Int) : Prop := (ns.foldl step_dedup []).length ≤ 4000 ∨ (ns.length ≤ 9500000 ∧ ∃ c, dnc 0 ns = some c)
end L2
namespace L2
open PySem PySem.Spec PyProof.Rows
end L2
namespace Z
open PySem PySem.Spec PyProof.Rows L2
def intsD : List D → Option (List Int)
  | [] => some []
  | .int i :: r => (match intsD r with | some t => some (i :: t) | none => none)
  | _ => none
/-- each once, as first met -/
def onceI (ns : List Int) : List Int := ns.foldl step_dedup []
open Classical in
/-- len(set(xs)) -/
noncomputable def lsetIF : Fn := fun ds S => match ds with
  | [.ref n] => (match S[n]? with
    | some (.lst xs) => (match intsD xs with
      | some ns => if okSet ns then some (.ok (.int (onceI ns).length) S) else none
      | none => none)
    | _ => none)
  | _ => none
open Classical in
@[simp] theorem o_lsetI (n : Nat) (S : Store) : lsetIF [.ref n] S = (match S[n]? with
    | some (.lst xs) => (match intsD xs with
      | some ns => if okSet ns then some (.ok (.int (onceI ns).length) S) else none
      | none => none)
    | _ => none) := rfl
end Z
namespace Z
open PySem PySem.Spec PyProof.Rows L2
def iEnL (a : SE) : SI := fun ρ S => bd (a ρ S) fun d S1 => match d with
  | .ref n => (match S1[n]? with
    | some (.lst ds) => if ds.all k0 = true then some (.ok ⟨enumL 0 ds, fun S => S[n]? = some (.lst ds)⟩ S1) else none
    | _ => none)
  | _ => none
@[simp] theorem x_enL (a : SE) (ρ : Env) (S : Store) : iEnL a ρ S = bd (a ρ S) fun d S1 => match d with
  | .ref n => (match S1[n]? with
    | some (.lst ds) => if ds.all k0 = true then some (.ok ⟨enumL 0 ds, fun S => S[n]? = some (.lst ds)⟩ S1) else none
    | _ => none)
  | _ => none := rfl
def tmerge (kvs more : List (List D × D)) : List (List D × D) := more.foldl (fun acc p => tput acc p.1 p.2) kvs
def updF : Fn := fun ds S => match ds with
  | [.ref n, .ref m] => (match S[n]?, S[m]? with
    | some (.st (p :: kvs)), some (.st more) => if n ≠ m ∧ (p :: kvs).length + more.length < 16000000 then some (.ok .non (S.set n (.st (tmerge (p :: kvs) more)))) else none
    | _, _ => none)
  | _ => none
@[simp] theorem o_upd (n m : Nat) (S : Store) : updF [.ref n, .ref m] S = (match S[n]?, S[m]? with
    | some (.st (p :: kvs)), some (.st more) => if n ≠ m ∧ (p :: kvs).length + more.length < 16000000 then some (.ok .non (S.set n (.st (tmerge (p :: kvs) more)))) else none
    | _, _ => none) := rfl
def countIF : Fn := fun ds S => match ds with
  | [.ref n, .int k] => (match S[n]? with
    | some (.lst xs) => (match intsD xs with
      | some ns => some (.ok (.int (ns.count k : Nat)) S)
      | none => none)
    | _ => none)
  | _ => none
@[simp] theorem o_countI (n : Nat) (k : Int) (S : Store) : countIF [.ref n, .int k] S = (match S[n]? with
    | some (.lst xs) => (match intsD xs with
      | some ns => some (.ok (.int (ns.count k : Nat)) S)
      | none => none)
    | _ => none) := rfl
end Z
namespace PySem
end PySem
namespace L2
open PySem PySem.Spec PyProof.Rows
end L2
namespace Z
open PySem PySem.Spec PyProof.Rows L2
/-- the items of a tuple by their places -/
def numT : Nat → List D → List (D × D)
  | _, [] => []
  | i, x :: r => (.int (i : Int), x) :: numT (i + 1) r
/-- dict(enumerate(xs)) -/
def dictEnF : Fn := fun ds S => match ds with
  | [.tup xs] => if xs.length < 16000000 then new1 (.dk ((numT 0 xs).foldl (fun acc p => fput acc p.1 p.2) [])) S else none
  | _ => none
@[simp] theorem o_dictEn (xs : List D) (S : Store) : dictEnF [.tup xs] S = if xs.length < 16000000 then some (.ok (.ref S.length) (S ++ [.dk ((numT 0 xs).foldl (fun acc p => fput acc p.1 p.2) [])])) else none := rfl
end Z
namespace Z
open PySem PySem.Spec PyProof.Rows L2
def indexIF : Fn := fun ds S => match ds with
  | [.ref n, .int k] => (match S[n]? with
    | some (.lst xs) => (match intsD xs with
      | some ns => if k ∈ ns then some (.ok (.int (ns.idxOf k : Nat)) S) else none
      | none => none)
    | _ => none)
  | _ => none
@[simp] theorem o_indexI (n : Nat) (k : Int) (S : Store) : indexIF [.ref n, .int k] S = (match S[n]? with
    | some (.lst xs) => (match intsD xs with
      | some ns => if k ∈ ns then some (.ok (.int (ns.idxOf k : Nat)) S) else none
      | none => none)
    | _ => none) := rfl
end Z
namespace Z
open PySem PySem.Spec PyProof.Rows L2
open Classical in
noncomputable def dget {β : Type} (kvs : List (D × β)) (k : D) : Option β := (kvs.find? fun p => decide (p.1 = k)).map (·.2)
open Classical in
noncomputable def dput (kvs : List (D × D)) (k v : D) : List (D × D) :=
  if (kvs.any fun p => decide (p.1 = k)) = true then kvs.map (fun p => if p.1 = k then (p.1, v) else p) else kvs ++ [(k, v)]
/-- a nested key: a tuple of numbers, texts, None and such tuples, at most eight deep -/
def nkOk : D → Bool
  | .tup xs => (match nkD (.tup xs) with | some k => decide (k.depth ≤ 8) | none => false)
  | _ => false
def nkAt (S : Store) : D → Option (List (D × D))
  | .ref n => (match S[n]? with | some (.nk kvs) => some kvs | some (.nkl kvs) => some kvs | _ => none)
  | _ => none
def eDctN : SE := fun _ S => new1 (.nk []) S
end Z
namespace L2
open PySem PySem.Spec PyProof.Rows
mutual
theorem NK.mono {H H' : Hp} (e : ∀ b xs, Rd H b (.tup xs) → Rd H' b (.tup xs)) : ∀ (k : NestedKey) (v : V), NK H k v → NK H' k v
  | .none, v, h => by rw [NK] at h ⊢; exact h
  | .num i, v, h => by rw [NK] at h ⊢; exact h
  | .text x, v, h => by rw [NK] at h ⊢; exact h
  | .tup ks, v, h => by
    rw [NK] at h ⊢
    obtain ⟨a, vs, e1, h1, h2⟩ := h
    exact ⟨a, vs, e1, e _ _ h1, NKL.mono e ks vs h2⟩
theorem NKL.mono {H H' : Hp} (e : ∀ b xs, Rd H b (.tup xs) → Rd H' b (.tup xs)) : ∀ (ks : List NestedKey) (vs : List V), NKL H ks vs → NKL H' ks vs
  | [], vs, h => by rw [NKL] at h ⊢; exact h
  | k :: ks, vs, h => by
    rw [NKL] at h ⊢
    obtain ⟨v, r, e1, h1, h2⟩ := h
    exact ⟨v, r, e1, NK.mono e k v h1, NKL.mono e ks r h2⟩
end
end L2
namespace Z
open PySem PySem.Spec PyProof.Rows L2
theorem NkR.get {K : KW} {ι : List Addr} {H : Hp} : ∀ {kvs : List (D × D)} {xs : List NEnt} {i : Nat} {p : D × D} {x : NEnt}, NkR K ι H kvs xs → kvs[i]? = some p → xs[i]? = some x → Rep K ι H p.1 (.ref x.2.1)
  | [], _, _, _, _, _, h, _ => by simp at h
  | q :: r, xs, i, p, x, h, h1, h2 => by
    rw [NkR] at h
    obtain ⟨k, b, u, v, t, rfl, _, _, e4, _, _, e7⟩ := h
    cases i with
    | zero => simp at h1 h2; subst h1 h2; exact e4
    | succ i => exact NkR.get e7 (by simpa using h1) (by simpa using h2)
end Z
namespace L2
open PySem PySem.Spec PyProof.Rows
/-- every second one, from the first on -/
def evL {α : Type} : List α → List α
  | [] => []
  | [x] => [x]
  | x :: _ :: r => x :: evL r
theorem Vals.evL : ∀ {xs : List V} {us : List Value}, Vals xs us → Vals (L2.evL xs) (L2.evL us)
  | _, _, .nil => .nil
  | _, _, .cons h .nil => .cons h .nil
  | _, _, .cons h (.cons _ t) => .cons h (Vals.evL t)
end L2
namespace Z
open PySem PySem.Spec PyProof.Rows L2
/-- t[::2], t[1::2] -/
def stepTD (lo : Nat) (d : D) (S : Store) : M D := match d with
  | .tup xs => some (.ok (.tup (L2.evL (xs.drop lo))) S)
  | _ => none
@[simp] theorem o_stepT (lo : Nat) (xs : List D) (S : Store) : stepTD lo (.tup xs) S = some (.ok (.tup (L2.evL (xs.drop lo))) S) := rfl
def eMake (c : String) (F : Fn) (es : List SE) : SE := fun ρ S => bd (evL es ρ S) fun ds S1 => match F (.ref S1.length :: ds) (S1 ++ [.ins c []]) with
  | some (.ok .non S2) => some (.ok (.ref S1.length) S2)
  | some (.ex x S2) => some (.ex x S2)
  | _ => none
@[simp] theorem x_make (c : String) (F : Fn) (es : List SE) (ρ : Env) (S : Store) : eMake c F es ρ S = bd (evL es ρ S) fun ds S1 => match F (.ref S1.length :: ds) (S1 ++ [.ins c []]) with
  | some (.ok .non S2) => some (.ok (.ref S1.length) S2)
  | some (.ex x S2) => some (.ex x S2)
  | _ => none := rfl
end Z
namespace Z
open PySem PySem.Spec PyProof.Rows L2
def nlenF : Fn := fun ds S => match ds with
  | [.ref n] => (match S[n]? with
    | some (.nk kvs) => if kvs.length < 16000000 then some (.ok (.int kvs.length) S) else none
    | _ => none)
  | _ => none
@[simp] theorem o_nlen (n : Nat) (S : Store) : nlenF [.ref n] S = (match S[n]? with
    | some (.nk kvs) => if kvs.length < 16000000 then some (.ok (.int kvs.length) S) else none
    | _ => none) := rfl
noncomputable def nupdF : Fn := fun ds S => match ds with
  | [.ref n, .ref m] => (match S[n]?, S[m]? with
    | some (.nk (p :: kvs)), some (.nk more) => if n ≠ m ∧ (p :: kvs).length + more.length < 16000000 then some (.ok .non (S.set n (.nk (more.foldl (fun acc p => dput acc p.1 p.2) (p :: kvs))))) else none
    | _, _ => none)
  | _ => none
@[simp] theorem o_nupd (n m : Nat) (S : Store) : nupdF [.ref n, .ref m] S = (match S[n]?, S[m]? with
    | some (.nk (p :: kvs)), some (.nk more) => if n ≠ m ∧ (p :: kvs).length + more.length < 16000000 then some (.ok .non (S.set n (.nk (more.foldl (fun acc p => dput acc p.1 p.2) (p :: kvs))))) else none
    | _, _ => none) := rfl
end Z
namespace L2
open PySem PySem.Spec PyProof.Rows
end L2
namespace Z
open PySem PySem.Spec PyProof.Rows L2
noncomputable def eNUpd (d e : SE) : SE := fun ρ S => bd (d ρ S) fun y S1 => match nkAt S1 y with
  | some _ => bd (e ρ S1) fun z S2 => nupdF [y, z] S2
  | none => none
@[simp] theorem x_nupd (d e : SE) (ρ : Env) (S : Store) : eNUpd d e ρ S = bd (d ρ S) fun y S1 => match nkAt S1 y with
  | some _ => bd (e ρ S1) fun z S2 => nupdF [y, z] S2
  | none => none := rfl
def sPar (i j : Nat) (x y : SE) : SS := fun ρ S => bo (evL [x, y] ρ S) ρ fun ds S1 => match ds with
  | [d, e] => some (.nx ((ρ.set i (some d)).set j (some e)) S1)
  | _ => none
@[simp] theorem x_par (i j : Nat) (x y : SE) (ρ : Env) (S : Store) : sPar i j x y ρ S = bo (evL [x, y] ρ S) ρ fun ds S1 => match ds with
  | [d, e] => some (.nx ((ρ.set i (some d)).set j (some e)) S1)
  | _ => none := rfl
end Z
namespace PySem
end PySem
namespace L2
open PySem PySem.Spec PyProof.Rows
end L2
namespace Z
open PySem PySem.Spec PyProof.Rows L2
noncomputable def reprKD : Fn := fun ds S => match ds with
  | [.int i] => reprIF [.int i] S
  | ds => reprD ds S
@[simp] theorem o_reprKi (i : Int) (S : Store) : reprKD [.int i] S = reprIF [.int i] S := rfl
end Z
namespace L2
open PySem PySem.Spec PyProof.Rows
section
variable {X : Cx}
theorem pe_excK {C : Addr} {bmB : List Value} {B newId initId : String} {x : Str} {e : Expr} {ta : TE} {p pos : Pos} (F : ExcBaseFacts B newId initId bmB) (q : PySem.W.excIn X.K C bmB newId = true) (gC : X.mg x = some (.ref C)) (kC : PySem.W.keepIn X.K (.ref C) = true) (hg : Gl X x) (he : PE X e ta)
    (hs : starEach [e] X.env = (false, eval e X.env) :: starEach [] X.env := by rfl) (hdb : (x == ("__debug__" : Str)) = false := by decide) :
    PE X (.Call (.Name x p) [e] [] pos) (fun σ H Q => ta σ H fun _ H1 => ∀ a, H1 a = none → Q (.ref a) (upd H1 a (Z.ExK (.ref C) a))) := by
  constructor
  intro pins s σ H Q I h
  refine wpAny_Call_Name_kw (ld_glob I hg gC ?_ hdb)
  refine PySem.W.callWith_K (h₀ := X.base) I.ok.mod.kin kC ?_ hs (by rfl)
  rw [hs]
  show wpAny _ _ (spliced ((false, eval e X.env) :: backTo pos (starEach [] X.env))) _ _ s
  refine Calls.spliced_cons (thn (he.run pins s σ H _ I h) ?_)
  rintro u s1 ⟨v, H1, I1, r1, q1⟩
  refine Calls.spliced_nil ⟨I1.kIn, ?_⟩
  show wpAny _ _ (call (.ref C) [u]) _ _ _
  obtain ⟨bm, N, nm, qn, bs, hdct, sn, sub, ab, col, dd, k0, k1, k2, k3, k5, mN, hC, hN, hni, T⟩ := exc_obj I1.kIn q
  refine wpAny_call_exc_subT F T hC hN hni ?_ (by show 1 ≤ sizeLine; rw [sizeLine_eq]; omega)
  intro h' a hm
  have hn : H1 a = none := I1.hok.gone hm.new
  obtain ⟨t, ht, _, _⟩ := hm.there
  have new := Z.exK_ok (P := X.prog) (w := X.w) (H := upd H1 a (Z.ExK (.ref C) a)) (cls := .ref C) ht rfl rfl ⟨_, rfl⟩
  exact ⟨.ref a, _, I1.laidN hm.keeps hm.new hn new, rfl, q1 a hn⟩
/-- the list at a as it stands at each turn, each object in a new pair -/
def Iteo (K : PySem.W.Frag) (a : Addr) : It :=
  ⟨fun i H => ∃ (xs : List V) (x : V), SqL K H a xs ∧ xs[i]? = some x, fun i H v H' => ∃ T x, v = .ref T ∧ H T = none ∧ (∃ o : Obj, o.dict = none ∧ H' = upd H T (.frz o (.tup [.int (i : Nat), x]))) ∧ ∀ xs, SqL K H a xs → xs[i]? = some x, fun i H => ∃ xs : List V, SqL K H a xs ∧ xs.length ≤ i⟩
theorem turn_enumo {P : Program} {w : World} {K : PySem.W.Frag} {elts : List Expr} {kk : Nat} {tpos : Pos} (a e it : Addr) :
    Turn P w K (.Tuple elts kk tpos) (Iteo K a) [e, it] e (fun i h => (∃ old, IsEnum h e it ((i : Nat) : Int) old) ∧ h.IsListIter it a i ∧ e ≠ it) := by
  have both : ∀ b, b ∈ [e, it] → b = e ∨ b = it := fun b hb => by simpa using hb
  constructor
  case mem => simp
  case obj =>
    rintro i h ⟨⟨old, he⟩, ⟨o, ho, hc, hd⟩, _⟩ b hb
    rcases both b hb with rfl | rfl
    · exact ⟨_, he, fun v q => nomatch q⟩
    · exact ⟨o, ho, fun v q => by rw [hd] at q; cases q⟩
  case keep =>
    rintro i h h' ⟨⟨old, he⟩, hi, hne⟩ k
    exact ⟨⟨old, k e (by simp) _ he⟩, hi.at fun o q => k it (by simp) o q, hne⟩
  case item =>
    rintro X rfl rfl rfl hc i pins s σ H E I hf ⟨⟨old, he⟩, hit, hne⟩ ⟨xs, x, hq, hx⟩
    obtain ⟨its, rv, p, hz⟩ := I.list hq
    obtain ⟨u, hu, ru⟩ := rv.get hx
    have hel := Heap.lt_size he
    have hil : it < s.heap.objs.size := by obtain ⟨_, q, _⟩ := hit; exact Heap.lt_size q
    refine wpAny_pyNext_enum_item he hit p.isList (x := u) (by simpa using hu) hne ?_
    intro h' ho hit' hT hsz hk
    refine ⟨_, rfl, wpAny_letOwnedTupleGo_enum (s := { s with heap := h', toks := s.toks + 1 }) ho ?_⟩
    intro h'' he' sb
    have hT2 := (sb.2 _ (Nat.ne_of_gt hel)).trans hT
    have hI := I.turnedNew (ch := [e, it]) (h' := h'') (t' := s.toks + 1) (ob := .frz { cls := .type "tuple", data := .seq #[.int i s.toks, u] } (.tup [.int (i : Nat), x])) (fun b ob hb q => (sb.2 b (fun z => hb (by simp [z]))).trans (hk b ob (fun z => hb (by simp [z])) (fun z => hb (by simp [z])) q)) hf (Nat.le_refl _)
      ⟨hT2, by show 2 ≤ sizeLine; decide, [.int i s.toks, u], .cons ⟨_, rfl⟩ (.cons ru .nil), ⟨_, hT2, rfl, _, rfl⟩⟩
    refine ⟨.ref s.heap.objs.size, _, hI, rfl, ⟨_, x, rfl, I.hok.fresh (Nat.le_refl _), ⟨_, rfl, rfl⟩, fun ys hy => by rw [I.list_inj hy hq]; exact hx⟩, ⟨⟨u, ?_⟩, hit'.at fun o q => (sb.2 it (Ne.symm hne)).trans q, hne⟩, ?_⟩
    · rw [show ((i + 1 : Nat) : Int) = (i : Int) + 1 by omega]
      exact he'
    · intro b hb
      have hb' : b ≠ s.heap.objs.size := by
        rcases both b hb with rfl | rfl
        · exact Nat.ne_of_lt hel
        · exact Nat.ne_of_lt hil
      rw [upd_ne hb']
      exact (hf b hb).1
  case done =>
    rintro X rfl rfl rfl hc i pins s σ H E I hf ⟨⟨old, he⟩, hit, hne⟩ ⟨xs, hq, hx⟩
    obtain ⟨its, rv, p, hz⟩ := I.list hq
    obtain ⟨f0, f1, f2, f3, f4, f5⟩ := hf it (by simp)
    have hl := rv.length
    refine wpAny_pyNext_enum_end (I.ok.hd hc) he hit p.isList (by simp; omega) ?_
    intro h' eb
    exact ⟨rfl, I.turned (t' := s.toks) (fun b o hb q => eb b o hb q) f0 f1 f3 f4 f5⟩
  case self =>
    rintro A i s Q E ⟨⟨_, he⟩, _⟩ h
    exact wpAny_pyIter_enum he h
def iEnumo (K : PySem.W.Frag) (ta : TA) : TI := fun σ H R => ta σ H fun vs H1 => ∃ a xs, vs = [.ref a] ∧ SqL K H1 a xs ∧ R (Iteo K a) H1
theorem pi_enumo {e : Expr} {ta : TA} {p pos tpos : Pos} {elts : List Expr} {kk : Nat} (hg : Gl X "enumerate") (hm : X.mg "enumerate" = none) (ha : PA X [e] ta) (hs : starEach [e] X.env = [(false, eval e X.env)] := by rfl) :
    PI X (.Tuple elts kk tpos) (.Call (.Name "enumerate" p) [e] [] pos) (iEnumo X.K ta) := by
  constructor
  intro pins s σ H R I h
  refine Call_ (ld_blt I hg hm boot_enumerate (PyProof.Rows.callWith_type1 (thn (ha.run pos pins s σ H _ I h) ?_) hs rfl))
  rintro us s1 ⟨vs, H1, I1, r1, a, xs, rfl, hq, q⟩
  cases r1 with
  | cons r rr =>
    cases rr
    cases r
    obtain ⟨its, rv, p', hz⟩ := I1.list hq
    refine call_enumerate_list p'.isList ?_
    intro h' he hit hsz hk
    refine wpAny_pyIter_enum he ?_
    refine ⟨s1.heap.objs.size + 1, [s1.heap.objs.size + 1, s1.heap.objs.size], _, _, H1, rfl, I1.kept (t' := s1.toks) hk, turn_enumo a _ _, ⟨⟨.none, he⟩, hit, Nat.succ_ne_self _⟩, ?_, q⟩
    intro b hb
    have hle : s1.heap.objs.size ≤ b := by
      have e' : b = s1.heap.objs.size + 1 ∨ b = s1.heap.objs.size := by simpa using hb
      rcases e' with rfl | rfl
      · exact Nat.le_add_right _ _
      · exact Nat.le_refl _
    exact I1.fpOk hle (I1.hok.fresh hle)
end
end L2
namespace Z
open PySem PySem.Spec PyProof.Rows L2
/-- C(e), an own exception class, as a value -/
def eMkX (c : String) (m : SE) : SE := fun ρ S => bd (m ρ S) fun _ S1 => some (.ok (.ref S1.length) (S1 ++ [.exn c]))
@[simp] theorem x_mkX (c : String) (m : SE) (ρ : Env) (S : Store) : eMkX c m ρ S = bd (m ρ S) fun _ S1 => some (.ok (.ref S1.length) (S1 ++ [.exn c])) := rfl
section
variable {X : Cx} {W : WX}
theorem ge_mkX {x : String} {C : Addr} {e : Expr} {m : SE} {p pos : Pos} (T : ExC X.KW X.mg (Str.ofString x) C) (hns : PySem.W.nsIn X.K mainGlobals (Str.ofString x) = some (some (.ref C))) (hg : Gl X (Str.ofString x)) (he : GE X W e m)
    (hs : starEach [e] X.env = (false, eval e X.env) :: starEach [] X.env := by rfl) (hdb : (Str.ofString x == ("__debug__" : Str)) = false := by decide) :
    GE X W (.Call (.Name (Str.ofString x) p) [e] [] pos) (eMkX x m) := (pe_excK PySem.F.excBase_ValueError T.xF T.gF T.kF hg he hs hdb).imp fun σ H Q ⟨ι, ρ, S, sm, r, po⟩ => by
  refine ⟨ι, ρ, S, sm, r, Po.bd po fun d S1 ι1 H1 v e1 s1 r1 p1 => ?_⟩
  intro a na
  have en := ext_new (ι := ι1) (t := [a]) (o := ExK (.ref C) a) na
  exact Po.ret (Po.mono en p1) (s1.new na ⟨C, hns, upd_same⟩) (Rep.newL s1)
/-- a value that is an object -/
def isRf : D → Bool
  | .ref _ => true
  | _ => false
def iEnR (a : SE) : SI := fun ρ S => bd (a ρ S) fun d S1 => match d with
  | .ref n => (match S1[n]? with
    | some (.lst ds) => if ds.all isRf = true then some (.ok ⟨enumL 0 ds, fun S => S[n]? = some (.lst ds)⟩ S1) else none
    | _ => none)
  | _ => none
@[simp] theorem x_enR (a : SE) (ρ : Env) (S : Store) : iEnR a ρ S = bd (a ρ S) fun d S1 => match d with
  | .ref n => (match S1[n]? with
    | some (.lst ds) => if ds.all isRf = true then some (.ok ⟨enumL 0 ds, fun S => S[n]? = some (.lst ds)⟩ S1) else none
    | _ => none)
  | _ => none := rfl
theorem ritm_enR {K : KW} {ι : List Addr} {H : Hp} {b : Addr} {n : Nat} {ds : List D} (hb : ι[n]? = some b) (hf : ds.all isRf = true) : RItm K ι H ⟨enumL 0 ds, fun S => S[n]? = some (.lst ds)⟩ (Iteo K b) := fun ι' H' S' e s c => by
  obtain ⟨vs, hv, rv⟩ := s.get (e.at hb) c
  refine ⟨fun i x hx => ?_, vs, SqL.of hv, by show vs.length ≤ (enumL 0 ds).length; rw [enumL_len, rv.length]; exact Nat.le_refl _⟩
  rw [enumL_get] at hx
  obtain ⟨d, hd, rfl⟩ := Option.map_eq_some_iff.mp hx
  obtain ⟨v, hv1, rd⟩ := rv.get hd
  refine ⟨⟨vs, v, SqL.of hv, hv1⟩, fun u H'' y => ?_⟩
  obtain ⟨T, x', rfl, hT, ⟨o, ho, rfl⟩, hall⟩ := y
  have ex : v = x' := Option.some.inj (hv1.symm.trans (hall vs (SqL.of hv)))
  subst ex
  have k1 : isRf d = true := List.all_eq_true.mp hf d (List.mem_of_getElem? hd)
  have k2 : k0 d = false := by cases d <;> first | rfl | (simp [isRf] at k1)
  have e2 := ext_tup (ι := ι') (o := .frz o (.tup [.int (i : Nat), v])) hT
  refine ⟨e2, s.tup hT, ?_⟩
  rw [Rep]
  have hfl : fK [D.int ((0 + i : Nat) : Int), d] = false := by simp [k2]
  refine ⟨T, _, rfl, by rw [hfl]; exact ⟨o, ho, upd_same⟩, ?_⟩
  rw [RepL]
  exact ⟨_, _, rfl, by rw [Rep, Nat.zero_add], RepL.one (Rep.ext e2 _ _ rd)⟩
theorem gi_enR {e : Expr} {m : SE} {p pos tpos : Pos} {elts : List Expr} {kk : Nat} (hg : Gl X "enumerate") (hm : X.mg "enumerate" = none) (he : GE X W e m) (hs1 : starEach [e] X.env = [(false, eval e X.env)] := by rfl) (hs : starEach [e] X.env = (false, eval e X.env) :: starEach [] X.env := by rfl) :
    GI X W (.Tuple elts kk tpos) (.Call (.Name "enumerate" p) [e] [] pos) (iEnR m) := (pi_enumo hg hm (pa_cons he pa_nil hs) hs1).imp fun σ H R ⟨ι, ρ, S, sm, r, p⟩ => by
  refine ⟨ι, ρ, S, sm, r, Po.bd p fun d S1 ι1 H1 x e1 s1 r1 p1 => ?_⟩
  split at p1
  · rename_i n
    split at p1
    · rename_i ds g
      split at p1
      · rename_i hf
        obtain ⟨a, vs, rfl, i1, e2, r2⟩ := lst_ok s1 r1 g
        exact ⟨a, vs, rfl, SqL.of e2, Po.ritm p1 s1 (ritm_enR i1 hf)⟩
      · exact p1.elim
    · exact p1.elim
  · exact p1.elim
end
end Z
namespace Z
def c_LETTERS : D := .str [97, 98, 99, 100, 101, 102, 103, 104, 105, 106, 107, 108, 109, 110, 111, 112, 113, 114, 115, 116, 117, 118, 119, 120, 121, 122]
def c_MOST_DEEP : D := .int 10
def c_MOST_TERMS : D := .int 20
def c_MOST_STATES : D := .int 500
def c_MOST_EQUATIONS : D := .int 8
noncomputable def b_is_name : SS :=
  sq (sIf (tOr (tNot (tVal (e1 (isiD .str) (eVar 0)))) (tOr (tNot (tVal (eCh leD leD (eC (.int 1)) (eCall lenF [eVar 0]) (eC (.int 8))))) (tOr (tVal (e2 eqD (eVar 0) (eC (.str [122, 105, 112])))) (tVal (e2 eqD (eVar 0) (eC (.str [98, 101, 104, 105, 110, 100]))))))) (sRet (eC (.bl false))) (sNx)) (sRet (eCall allF [eLc (iAny (eVar 0)) (gName 1) (tYes) (e2 inD (eVar 1) (eC c_LETTERS)) [1]]))
noncomputable def R_is_name : Fn := runF 1 2 (b_is_name)
noncomputable def b_is_sign : SS :=
  sRet (eAnd (e1 (isiD .int) (eVar 0)) (eAnd (eNot (e1 (isiD .bool) (eVar 0))) (eCh leD leD (eC (.int 0)) (eVar 0) (eC (.int 9)))))
noncomputable def R_is_sign : Fn := runF 1 1 (b_is_sign)
noncomputable def b_is_number : SS :=
  sRet (eAnd (e1 (isiD .int) (eVar 0)) (eAnd (eNot (e1 (isiD .bool) (eVar 0))) (eCh leD ltD (eC (.int 0)) (eVar 0) (eVar 1))))
noncomputable def R_is_number : Fn := runF 2 2 (b_is_number)
noncomputable def lb_law_spring_1 : SS :=
  sAsg (e2 modD (e2 addD (e2 mulD (eVar 1) (eC (.int 69621))) (eVar 2)) (eC (.int 2147483647))) (gName 1)
noncomputable def b_law_spring : SS :=
  sq (sAsg (eC (.int 987654321)) (gName 1)) (sq (sFor (iAny (eVar 0)) (gName 2) (lb_law_spring_1)) (sRet (eLst [eCall listF [eVar 0], eC (.int 0), eVar 1])))
noncomputable def R_law_spring : Fn := runF 1 3 (b_law_spring)
noncomputable def b_law_drop : SS :=
  sq (sIf (tAnd (tVal (e2 eqD (e2 ixD (eVar 0) (eC (.int 1))) (eC (.int 0)))) (tVal (e2 gtD (eCall lenF [e2 ixD (eVar 0) (eC (.int 0))]) (eC (.int 0))))) (sq (sAsg (eMt .list popF (e2 ixD (eVar 0) (eC (.int 0))) [eC (.int 0)]) (gName 2)) (sq (sIf (tVal (e2 ltD (eCall absF [eVar 2]) (e2 powD (eC (.int 10)) (eC (.int 18))))) (sRet (e2 modD (eVar 2) (eVar 1))) (sNx)) (sAsg (eCall absF [eVar 2]) (setF (eVar 0) (eC (.int 1)))))) (sNx)) (sq (sIf (tVal (e2 gtD (e2 ixD (eVar 0) (eC (.int 1))) (eC (.int 0)))) (sq (sAsg (e2 modD (e2 ixD (eVar 0) (eC (.int 1))) (eVar 1)) (gName 3)) (sq (sAsg (e2 fdivD (e2 ixD (eVar 0) (eC (.int 1))) (eVar 1)) (setF (eVar 0) (eC (.int 1)))) (sRet (eVar 3)))) (sNx)) (sq (sAsg (e2 modD (e2 addD (e2 mulD (e2 ixD (eVar 0) (eC (.int 2))) (e2 ixD (eVar 0) (eC (.int 2)))) (eC (.int 7919))) (eC (.int 2147483647))) (setF (eVar 0) (eC (.int 2)))) (sRet (e2 modD (e2 fdivD (e2 ixD (eVar 0) (eC (.int 2))) (eC (.int 8))) (eVar 1)))))
noncomputable def R_law_drop : Fn := runF 2 4 (b_law_drop)
noncomputable def b_law_kinds : SS :=
  sq (sAsg (eLst [e1 (isXF [("NoName", true), ("NoRow", false), ("NoText", false), ("Told", false), ("TooBig", false), ("Waits", false), ("ZipError", false)]) (eVar 0), e1 (isXF [("NoName", false), ("NoRow", true), ("NoText", false), ("Told", false), ("TooBig", false), ("Waits", false), ("ZipError", false)]) (eVar 0), e1 (isXF [("NoName", false), ("NoRow", false), ("NoText", true), ("Told", false), ("TooBig", false), ("Waits", false), ("ZipError", false)]) (eVar 0), e1 (isXF [("NoName", false), ("NoRow", false), ("NoText", false), ("Told", true), ("TooBig", false), ("Waits", false), ("ZipError", false)]) (eVar 0)]) (gName 1)) (sRet (e2 addD (eVar 1) (eLst [e1 (isXF [("NoName", false), ("NoRow", false), ("NoText", false), ("Told", false), ("TooBig", true), ("Waits", false), ("ZipError", false)]) (eVar 0), e1 (isXF [("NoName", false), ("NoRow", false), ("NoText", false), ("Told", false), ("TooBig", false), ("Waits", true), ("ZipError", false)]) (eVar 0)])))
noncomputable def R_law_kinds : Fn := runF 1 2 (b_law_kinds)
noncomputable def b_law_is_name : SS :=
  sq (sIf (tOr (tNot (tVal (e1 (isiD .str) (eVar 0)))) (tOr (tVal (e2 ltD (eCall lenF [eVar 0]) (eC (.int 1)))) (tOr (tVal (e2 gtD (eCall lenF [eVar 0]) (eC (.int 8)))) (tVal (e2 inD (eVar 0) (eLst [eC (.str [122, 105, 112]), eC (.str [98, 101, 104, 105, 110, 100])])))))) (sRet (eC (.bl false))) (sNx)) (sRet (e2 eqD (eLc (iAny (eVar 0)) (gName 1) (tVal (e2 ninD (eVar 1) (eC (.str [97, 98, 99, 100, 101, 102, 103, 104, 105, 106, 107, 108, 109, 110, 111, 112, 113, 114, 115, 116, 117, 118, 119, 120, 121, 122])))) (eVar 1) [1]) (eLst [])))
noncomputable def R_law_is_name : Fn := runF 1 2 (b_law_is_name)
noncomputable def b_law_number : SS :=
  sRet (eAnd (e1 (isiD .int) (eVar 0)) (eAnd (eNot (e1 (isiD .bool) (eVar 0))) (eCh leD ltD (eC (.int 0)) (eVar 0) (eVar 1))))
noncomputable def R_law_number : Fn := runF 2 2 (b_law_number)
noncomputable def b_within (F_is_name : Fn) (F_is_sign : Fn) : SS :=
  sq (sIf (tOr (tNot (tVal (e1 (isiD .tuple) (eVar 0)))) (tOr (tVal (e2 ltD (eCall lenF [eVar 0]) (eC (.int 2)))) (tNot (tVal (e1 (isiD .str) (e2 ixD (eVar 0) (eC (.int 0)))))))) (sRet (eC .non)) (sNx)) (sq (sIf (tAnd (tVal (e2 eqD (e2 ixD (eVar 0) (eC (.int 0))) (eC (.str [114, 111, 119])))) (tAnd (tVal (e2 eqD (eCall lenF [eVar 0]) (eC (.int 2)))) (tVal (eCall F_is_name [e2 ixD (eVar 0) (eC (.int 1))])))) (sRet (eLst [])) (sNx)) (sq (sIf (tAnd (tVal (e2 eqD (e2 ixD (eVar 0) (eC (.int 0))) (eC (.str [115, 105, 103, 110])))) (tAnd (tVal (e2 eqD (eCall lenF [eVar 0]) (eC (.int 3)))) (tVal (eCall F_is_sign [e2 ixD (eVar 0) (eC (.int 1))])))) (sRet (eLst [e2 ixD (eVar 0) (eC (.int 2))])) (sNx)) (sq (sIf (tAnd (tVal (e2 eqD (e2 ixD (eVar 0) (eC (.int 0))) (eC (.str [98, 101, 104, 105, 110, 100])))) (tVal (e2 eqD (eCall lenF [eVar 0]) (eC (.int 2))))) (sRet (eLst [e2 ixD (eVar 0) (eC (.int 1))])) (sNx)) (sq (sIf (tAnd (tVal (e2 eqD (e2 ixD (eVar 0) (eC (.int 0))) (eC (.str [122, 105, 112])))) (tVal (e2 eqD (eCall lenF [eVar 0]) (eC (.int 3))))) (sRet (eLst [e2 ixD (eVar 0) (eC (.int 1)), e2 ixD (eVar 0) (eC (.int 2))])) (sNx)) (sRet (eC .non))))))
noncomputable def R_within : Fn := runF 1 1 (b_within R_is_name R_is_sign)
noncomputable def b_is_state (F_is_number : Fn) : SS :=
  sq (sIf (tOr (tNot (tVal (e1 (isiD .tuple) (eVar 0)))) (tVal (e2 neD (eCall lenF [eVar 0]) (eC (.int 3))))) (sRet (eC (.bl false))) (sNx)) (sRet (eAnd (eCall F_is_number [e2 ixD (eVar 0) (eC (.int 0)), eC (.int 10)]) (eAnd (eCall F_is_number [e2 ixD (eVar 0) (eC (.int 1)), eVar 1]) (eCall F_is_number [e2 ixD (eVar 0) (eC (.int 2)), eVar 1]))))
noncomputable def R_is_state : Fn := runF 2 2 (b_is_state R_is_number)
noncomputable def lb_law_refusals_right_1 (F_law_kinds : Fn) : SS :=
  sq (sIf (tOr (tNot (tVal (e1 (isXF [("NoName", true), ("NoRow", true), ("NoText", true), ("Told", true), ("TooBig", true), ("Waits", true), ("ZipError", true)]) (eVar 2)))) (tNot (tVal (e1 (isXF [("NoName", true), ("NoRow", true), ("NoText", true), ("Told", true), ("TooBig", true), ("Waits", true), ("ZipError", true)]) (eVar 2))))) (sRet (eC (.bl false))) (sNx)) (sIf (tVal (e2 neD (eCall F_law_kinds [eVar 2]) (eLc (iR1 (eC (.int 6))) (gName 3) (tYes) (e2 eqD (eVar 1) (eVar 3)) [3]))) (sRet (eC (.bl false))) (sNx))
noncomputable def b_law_refusals_right (F_law_kinds : Fn) : SS :=
  sq (sFor (iEnR (eLst [eMkX "NoName" (eVar 0), eMkX "NoRow" (eVar 0), eMkX "NoText" (eVar 0), eMkX "Told" (eVar 0), eMkX "TooBig" (eVar 0), eMkX "Waits" (eVar 0)])) (gTup [gName 1, gName 2]) (lb_law_refusals_right_1 F_law_kinds)) (sq (sAsg (eMkX "ZipError" (eVar 0)) (gName 2)) (sRet (eAnd (e1 (isXF [("NoName", true), ("NoRow", true), ("NoText", true), ("Told", true), ("TooBig", true), ("Waits", true), ("ZipError", true)]) (eVar 2)) (e2 eqD (eCall F_law_kinds [eVar 2]) (e2 mulD (eLst [eC (.bl false)]) (eC (.int 6)))))))
noncomputable def R_law_refusals_right : Fn := runF 1 4 (b_law_refusals_right R_law_kinds)
noncomputable def lb_law_is_machine_1 (F_law_number : Fn) : SS :=
  sq (sIf (tOr (tNot (tVal (e1 (isiD .tuple) (eVar 1)))) (tOr (tVal (e2 neD (eCall lenF [eVar 1]) (eC (.int 3)))) (tNot (tVal (eCall F_law_number [e2 ixD (eVar 1) (eC (.int 0)), eC (.int 10)]))))) (sRet (eC (.bl false))) (sNx)) (sIf (tOr (tNot (tVal (eCall F_law_number [e2 ixD (eVar 1) (eC (.int 1)), eCall lenF [eVar 0]]))) (tNot (tVal (eCall F_law_number [e2 ixD (eVar 1) (eC (.int 2)), eCall lenF [eVar 0]])))) (sRet (eC (.bl false))) (sNx))
noncomputable def b_law_is_machine (F_law_number : Fn) : SS :=
  sq (sIf (tOr (tNot (tVal (e1 (isiD .tuple) (eVar 0)))) (tVal (e2 eqD (eVar 0) (eTup [])))) (sRet (eC (.bl false))) (sNx)) (sq (sFor (iAny (eVar 0)) (gName 1) (lb_law_is_machine_1 F_law_number)) (sRet (e2 eqD (eLc (iAny (eVar 0)) (gName 1) (tVal (e2 neD (e2 ixD (e2 ixD (eVar 0) (e2 ixD (eVar 1) (eC (.int 1)))) (eC (.int 0))) (e2 ixD (eVar 1) (eC (.int 0))))) (eVar 1) [1]) (eLst []))))
noncomputable def R_law_is_machine : Fn := runF 1 2 (b_law_is_machine R_law_number)
noncomputable def lb_is_term_1 (F_within : Fn) : SS :=
  sq (sAsg (eMt .list popF (eVar 1) []) (gTup [gName 3, gName 4])) (sq (sAsg (eCall F_within [eVar 3]) (gName 5)) (sq (sAug 2 iaddD (eC (.int 1))) (sq (sIf (tOr (tVal (e2 isD (eVar 5) (eC .non))) (tOr (tVal (e2 gtD (eVar 4) (eC c_MOST_DEEP))) (tVal (e2 gtD (eVar 2) (eC c_MOST_TERMS))))) (sRet (eC (.bl false))) (sNx)) (sExp (eMt .list extendF (eVar 1) [eLc (iAny (eVar 5)) (gName 6) (tYes) (eTup [eVar 6, e2 addD (eVar 4) (eC (.int 1))]) [6]])))))
noncomputable def b_is_term (F_within : Fn) : SS :=
  sq (sAsg (eLst [eTup [eVar 0, eC (.int 1)]]) (gName 1)) (sq (sAsg (eC (.int 0)) (gName 2)) (sq (sWh (tVal (e2 neD (eVar 1) (eLst []))) (lb_is_term_1 F_within)) (sRet (eC (.bl true)))))
noncomputable def R_is_term : Fn := runF 1 7 (b_is_term R_within)
noncomputable def lb_names_in_1 (F_within : Fn) : SS :=
  sq (sAsg (eMt .list popF (eVar 2) []) (gName 3)) (sq (sIf (tVal (e2 eqD (e2 ixD (eVar 3) (eC (.int 0))) (eC (.str [114, 111, 119])))) (sExp (eMt .list appendF (eVar 1) [e2 ixD (eVar 3) (eC (.int 1))])) (sNx)) (sExp (eMt .list extendF (eVar 2) [eCall F_within [eVar 3]])))
noncomputable def b_names_in (F_within : Fn) : SS :=
  sq (sAsg (eLst []) (gName 1)) (sq (sAsg (eLst [eVar 0]) (gName 2)) (sq (sWh (tVal (e2 neD (eVar 2) (eLst []))) (lb_names_in_1 F_within)) (sRet (eCall ssetF [eVar 1]))))
noncomputable def R_names_in : Fn := runF 1 4 (b_names_in R_within)
noncomputable def b_is_machine (F_is_state : Fn) : SS :=
  sq (sIf (tOr (tNot (tVal (e1 (isiD .tuple) (eVar 0)))) (tNot (tVal (eCh ltD leD (eC (.int 0)) (eCall lenF [eVar 0]) (eC c_MOST_STATES))))) (sRet (eC (.bl false))) (sNx)) (sq (sIf (tNot (tVal (eCall allF [eLc (iAny (eVar 0)) (gName 1) (tYes) (eCall F_is_state [eVar 1, eCall lenF [eVar 0]]) [1]]))) (sRet (eC (.bl false))) (sNx)) (sRet (eCall allF [eLc (iAny (eVar 0)) (gTup [gName 2, gName 3, gName 4]) (tYes) (e2 eqD (e2 ixD (e2 ixD (eVar 0) (eVar 3)) (eC (.int 0))) (eVar 2)) [2, 3, 4]])))
noncomputable def R_is_machine : Fn := runF 1 5 (b_is_machine R_is_state)
noncomputable def b_is_equation (F_is_name : Fn) (F_is_term : Fn) : SS :=
  sRet (eAnd (e1 (isiD .tuple) (eVar 0)) (eAnd (e2 eqD (eCall lenF [eVar 0]) (eC (.int 2))) (eAnd (eCall F_is_name [e2 ixD (eVar 0) (eC (.int 0))]) (eCall F_is_term [e2 ixD (eVar 0) (eC (.int 1))]))))
noncomputable def R_is_equation : Fn := runF 1 1 (b_is_equation R_is_name R_is_term)
noncomputable def lb_is_book_1 (F_names_in : Fn) : SS :=
  sIf (tNot (tVal (eCall allF [eLc (iAny (eCall F_names_in [eVar 3])) (gName 5) (tYes) (e2 inD (eVar 5) (eVar 1)) [5]]))) (sRet (eC (.bl false))) (sNx)
noncomputable def b_is_book (F_is_equation : Fn) (F_names_in : Fn) : SS :=
  sq (sIf (tOr (tNot (tVal (e1 (isiD .tuple) (eVar 0)))) (tOr (tVal (e2 gtD (eCall lenF [eVar 0]) (eC c_MOST_EQUATIONS))) (tNot (tVal (eCall allF [eLc (iAny (eVar 0)) (gName 4) (tYes) (eCall F_is_equation [eVar 4]) [4]]))))) (sRet (eC (.bl false))) (sNx)) (sq (sAsg (eLc (iAny (eVar 0)) (gTup [gName 2, gName 3]) (tYes) (eVar 2) [2, 3]) (gName 1)) (sq (sIf (tVal (e2 ltD (eCall lsetF [eVar 1]) (eCall lenF [eVar 1]))) (sRet (eC (.bl false))) (sNx)) (sq (sFor (iAny (eVar 0)) (gTup [gName 2, gName 3]) (lb_is_book_1 F_names_in)) (sRet (eC (.bl true))))))
noncomputable def R_is_book : Fn := runF 1 6 (b_is_book R_is_equation R_names_in)
noncomputable def lb_law_met_1 (F_law_met : Fn) : SS :=
  sIf (tVal (e1 (isiD .tuple) (eVar 2))) (sAsg (e2 addD (eVar 1) (eCall F_law_met [eVar 2])) (gName 1)) (sNx)
noncomputable def b_law_met (F_law_met : Fn) : SS :=
  sq (sIf (tVal (e2 eqD (e2 ixD (eVar 0) (eC (.int 0))) (eC (.str [114, 111, 119])))) (sRet (eLst [e2 ixD (eVar 0) (eC (.int 1))])) (sNx)) (sq (sAsg (eLst []) (gName 1)) (sq (sFor (iAny (eSl (eVar 0) (some (eC (.int 1))) none)) (gName 2) (lb_law_met_1 F_law_met)) (sRet (eVar 1))))
noncomputable def R_law_met : Nat → Fn
  | 0 => fun _ _ => none
  | d + 1 => runF 1 3 (b_law_met (R_law_met d))
noncomputable def b_law_thing_v2 (F_law_drop : Fn) (F_law_thing : Fn) : SS :=
  sq (sAsg (e2 mulD (eCall F_law_drop [eVar 0, eC (.int 9)]) (eCall intF [e2 gtD (eVar 1) (eC (.int 0))])) (gName 2)) (sq (sIf (tVal (e2 ltD (eVar 2) (eC (.int 2)))) (sq (sAsg (eLst [eC (.str [97]), eC (.str [98]), eC (.str [114, 111, 119]), eC (.str [122, 105, 112]), eC (.int 0), eC (.int 1), eC (.int 9), eC (.int 10), eC (.bl true), eC (.bl false), eC .non, eC (.str []), eTup [], eLst [], eTup [eC (.str [114, 111, 119]), eC (.str [97])], eLst [eC (.str [114, 111, 119]), eC (.str [97])]]) (gName 3)) (sRet (e2 ixD (eVar 3) (eCall F_law_drop [eVar 0, eC (.int 16)])))) (sNx)) (sq (sAsg (eCall F_law_thing [eVar 0, e2 subD (eVar 1) (eC (.int 1))]) (gName 4)) (sq (sAsg (eCall F_law_thing [eVar 0, e2 subD (eVar 1) (eC (.int 1))]) (gName 5)) (sq (sAsg (eLst [eTup [eC (.str [98, 101, 104, 105, 110, 100]), eVar 4], eTup [eC (.str [115, 105, 103, 110]), eCall F_law_drop [eVar 0, eC (.int 11)], eVar 4], eTup [eC (.str [122, 105, 112]), eVar 4, eVar 5], eTup [eC (.str [97]), eVar 4], eTup [eVar 4, eVar 5]]) (gName 6)) (sq (sAsg (e2 addD (eVar 6) (eLst [eTup [eVar 4], eTup [eC (.int 0), eC (.int 0), eCall F_law_drop [eVar 0, eC (.int 2)]]])) (gName 6)) (sq (sAsg (e2 ixD (eVar 6) (e2 subD (eVar 2) (eC (.int 2)))) (gName 7)) (sq (sIf (tVal (e2 eqD (eCall F_law_drop [eVar 0, eC (.int 4)]) (eC (.int 0)))) (sRet (eCall listF [eVar 7])) (sNx)) (sRet (eVar 7)))))))))
noncomputable def R_law_thing_v2 : Nat → Fn
  | 0 => fun _ _ => none
  | d + 1 => runF 2 8 (b_law_thing_v2 R_law_drop (R_law_thing_v2 d))
noncomputable def b_law_size (F_law_is_name : Fn) (F_law_size : Fn) : SS :=
  sq (sIf (tOr (tNot (tVal (e1 (isiD .tuple) (eVar 0)))) (tVal (e2 gtD (eVar 1) (eC (.int 10))))) (sRet (eC (.int 1000))) (sNx)) (sq (sIf (tAnd (tVal (e2 eqD (eCall lenF [eVar 0]) (eC (.int 2)))) (tAnd (tVal (e2 eqD (e2 ixD (eVar 0) (eC (.int 0))) (eC (.str [114, 111, 119])))) (tVal (eCall F_law_is_name [e2 ixD (eVar 0) (eC (.int 1))])))) (sRet (eC (.int 1))) (sNx)) (sq (sIf (tAnd (tVal (e2 eqD (eCall lenF [eVar 0]) (eC (.int 2)))) (tVal (e2 eqD (e2 ixD (eVar 0) (eC (.int 0))) (eC (.str [98, 101, 104, 105, 110, 100]))))) (sRet (e2 addD (eC (.int 1)) (eCall F_law_size [e2 ixD (eVar 0) (eC (.int 1)), e2 addD (eVar 1) (eC (.int 1))]))) (sNx)) (sq (sIf (tAnd (tVal (e2 eqD (eCall lenF [eVar 0]) (eC (.int 3)))) (tVal (e2 eqD (e2 ixD (eVar 0) (eC (.int 0))) (eC (.str [122, 105, 112]))))) (sRet (e2 addD (e2 addD (eC (.int 1)) (eCall F_law_size [e2 ixD (eVar 0) (eC (.int 1)), e2 addD (eVar 1) (eC (.int 1))])) (eCall F_law_size [e2 ixD (eVar 0) (eC (.int 2)), e2 addD (eVar 1) (eC (.int 1))]))) (sNx)) (sq (sIf (tAnd (tVal (e2 eqD (eCall lenF [eVar 0]) (eC (.int 3)))) (tAnd (tVal (e2 eqD (e2 ixD (eVar 0) (eC (.int 0))) (eC (.str [115, 105, 103, 110])))) (tAnd (tVal (e2 inRD (e2 ixD (eVar 0) (eC (.int 1))) (eC (.int 10)))) (tVal (e1 (isiD .int) (e2 ixD (eVar 0) (eC (.int 1)))))))) (sRet (e2 addD (e2 addD (eC (.int 1)) (eCall F_law_size [e2 ixD (eVar 0) (eC (.int 2)), e2 addD (eVar 1) (eC (.int 1))])) (e2 mulD (eC (.int 1000)) (eCall intF [e1 (isiD .bool) (e2 ixD (eVar 0) (eC (.int 1)))])))) (sNx)) (sRet (eC (.int 1000)))))))
noncomputable def R_law_size : Nat → Fn
  | 0 => fun _ _ => none
  | d + 1 => runF 2 2 (b_law_size R_law_is_name (R_law_size d))
noncomputable def lb_law_is_book_1 (F_law_is_name : Fn) (F_law_size : Fn) : SS :=
  sq (sIf (tOr (tNot (tVal (e1 (isiD .tuple) (eVar 2)))) (tOr (tVal (e2 neD (eCall lenF [eVar 2]) (eC (.int 2)))) (tOr (tNot (tVal (eCall F_law_is_name [e2 ixD (eVar 2) (eC (.int 0))]))) (tVal (e2 gtD (eCall F_law_size [e2 ixD (eVar 2) (eC (.int 1)), eC (.int 1)]) (eC (.int 20))))))) (sRet (eC (.bl false))) (sNx)) (sq (sIf (tVal (e2 inD (e2 ixD (eVar 2) (eC (.int 0))) (eVar 1))) (sRet (eC (.bl false))) (sNx)) (sExp (eMt .list appendF (eVar 1) [e2 ixD (eVar 2) (eC (.int 0))])))
noncomputable def lb_law_is_book_2 (F_law_met : Fn) : SS :=
  sIf (tVal (e2 neD (eLc (iAny (eCall F_law_met [e2 ixD (eVar 2) (eC (.int 1))])) (gName 3) (tVal (e2 ninD (eVar 3) (eVar 1))) (eVar 3) [3]) (eLst []))) (sRet (eC (.bl false))) (sNx)
noncomputable def b_law_is_book (F_law_is_name : Fn) (F_law_size : Fn) (F_law_met : Fn) : SS :=
  sq (sIf (tOr (tNot (tVal (e1 (isiD .tuple) (eVar 0)))) (tVal (e2 gtD (eCall lenF [eVar 0]) (eC (.int 8))))) (sRet (eC (.bl false))) (sNx)) (sq (sAsg (eLst []) (gName 1)) (sq (sFor (iAny (eVar 0)) (gName 2) (lb_law_is_book_1 F_law_is_name F_law_size)) (sq (sFor (iAny (eVar 0)) (gName 2) (lb_law_is_book_2 F_law_met)) (sRet (eC (.bl true))))))
noncomputable def R_law_is_book : Fn := runF 1 4 (b_law_is_book R_law_is_name (R_law_size 24) (R_law_met 24))
noncomputable def lb_law_v6_1 (F_law_thing : Fn) (F_law_drop : Fn) (F_is_name : Fn) (F_is_term : Fn) (F_is_book : Fn) (F_is_machine : Fn) (F_law_is_name : Fn) (F_law_size : Fn) (F_law_is_book : Fn) (F_law_is_machine : Fn) : SS :=
  sq (sAsg (eCall F_law_thing [eVar 1, e2 addD (eC (.int 1)) (eCall F_law_drop [eVar 1, eC (.int 5)])]) (gName 4)) (sq (sIf (tVal (e2 eqD (eCall F_law_drop [eVar 1, eC (.int 3)]) (eC (.int 0)))) (sAsg (eLst [eVar 4, eCall F_law_thing [eVar 1, eC (.int 3)]]) (gName 4)) (sNx)) (sq (sAsg (eCall reprD [eVar 4]) (gName 5)) (sq (sAsg (eLst [eCall F_is_name [eVar 4], eCall F_is_term [eVar 4], eCall F_is_book [eVar 4], eCall F_is_machine [eVar 4]]) (gName 6)) (sq (sAsg (eLst [eCall F_law_is_name [eVar 4], e2 leD (eCall F_law_size [eVar 4, eC (.int 1)]) (eC (.int 20)), eCall F_law_is_book [eVar 4], eCall F_law_is_machine [eVar 4]]) (gName 7)) (sIf (tOr (tVal (e2 neD (eCall reprD [eVar 4]) (eVar 5))) (tVal (e2 neD (eCall reprD [eVar 6]) (eCall reprD [eVar 7])))) (sRet (eC (.bl false))) (sNx))))))
noncomputable def b_law_v6 (F_law_spring : Fn) (F_law_drop : Fn) (F_law_refusals_right : Fn) (F_law_thing : Fn) (F_is_name : Fn) (F_is_term : Fn) (F_is_book : Fn) (F_is_machine : Fn) (F_law_is_name : Fn) (F_law_size : Fn) (F_law_is_book : Fn) (F_law_is_machine : Fn) : SS :=
  sq (sAsg (eCall F_law_spring [eVar 0]) (gName 1)) (sq (sAsg (eMt .str joinF (eC (.str [])) [eLc (iR1 (eCall F_law_drop [eVar 1, eC (.int 11)])) (gName 8) (tYes) (e2 ixD (eC (.str [97, 122, 48, 57, 32, 126, 61, 33, 45])) (eCall F_law_drop [eVar 1, eC (.int 9)])) [8]]) (gName 2)) (sq (sIf (tNot (tVal (eCall F_law_refusals_right [eVar 2]))) (sRet (eC (.bl false))) (sNx)) (sq (sFor (iR1 (eC (.int 10))) (gName 3) (lb_law_v6_1 F_law_thing F_law_drop F_is_name F_is_term F_is_book F_is_machine F_law_is_name F_law_size F_law_is_book F_law_is_machine)) (sRet (eC (.bl true))))))
noncomputable def R_law_v6 : Fn := runF 1 9 (b_law_v6 R_law_spring R_law_drop R_law_refusals_right (R_law_thing_v2 24) R_is_name R_is_term R_is_book R_is_machine R_law_is_name (R_law_size 24) R_law_is_book R_law_is_machine)
noncomputable def lb_law_due_v2_1 (F_law_is_name : Fn) (F_law_size : Fn) : SS :=
  sq (sIf (tOr (tNot (tVal (e1 (isiD .tuple) (eVar 2)))) (tOr (tVal (e2 neD (eCall lenF [eVar 2]) (eC (.int 2)))) (tOr (tNot (tVal (eCall F_law_is_name [e2 ixD (eVar 2) (eC (.int 0))]))) (tVal (e2 gtD (eCall F_law_size [e2 ixD (eVar 2) (eC (.int 1)), eC (.int 1)]) (eC (.int 20))))))) (sRet (eC (.bl false))) (sNx)) (sq (sIf (tVal (e2 inD (e2 ixD (eVar 2) (eC (.int 0))) (eVar 1))) (sRet (eC (.bl false))) (sNx)) (sExp (eMt .list appendF (eVar 1) [e2 ixD (eVar 2) (eC (.int 0))])))
noncomputable def lb_law_due_v2_2 (F_law_met : Fn) : SS :=
  sIf (tVal (e2 neD (eLc (iAny (eCall F_law_met [e2 ixD (eVar 2) (eC (.int 1))])) (gName 3) (tVal (e2 ninD (eVar 3) (eVar 1))) (eVar 3) [3]) (eLst []))) (sRet (eC (.bl false))) (sNx)
noncomputable def b_law_due_v2 (F_law_is_name : Fn) (F_law_size : Fn) (F_law_met : Fn) : SS :=
  sq (sIf (tOr (tNot (tVal (e1 (isiD .tuple) (eVar 0)))) (tVal (e2 gtD (eCall lenF [eVar 0]) (eC (.int 8))))) (sRet (eC (.bl false))) (sNx)) (sq (sAsg (eLst []) (gName 1)) (sq (sFor (iAny (eVar 0)) (gName 2) (lb_law_due_v2_1 F_law_is_name F_law_size)) (sq (sFor (iAny (eVar 0)) (gName 2) (lb_law_due_v2_2 F_law_met)) (sRet (eC (.bl true))))))
noncomputable def R_law_due_v2 : Fn := runF 1 4 (b_law_due_v2 R_law_is_name (R_law_size 24) (R_law_met 24))
noncomputable def lb_law_due_v5_1 (F_law_number : Fn) : SS :=
  sq (sIf (tOr (tNot (tVal (e1 (isiD .tuple) (eVar 1)))) (tOr (tVal (e2 neD (eCall lenF [eVar 1]) (eC (.int 3)))) (tNot (tVal (eCall F_law_number [e2 ixD (eVar 1) (eC (.int 0)), eC (.int 10)]))))) (sRet (eC (.bl false))) (sNx)) (sIf (tOr (tNot (tVal (eCall F_law_number [e2 ixD (eVar 1) (eC (.int 1)), eCall lenF [eVar 0]]))) (tNot (tVal (eCall F_law_number [e2 ixD (eVar 1) (eC (.int 2)), eCall lenF [eVar 0]])))) (sRet (eC (.bl false))) (sNx))
noncomputable def b_law_due_v5 (F_law_number : Fn) : SS :=
  sq (sIf (tOr (tNot (tVal (e1 (isiD .tuple) (eVar 0)))) (tVal (e2 eqD (eVar 0) (eTup [])))) (sRet (eC (.bl false))) (sNx)) (sq (sFor (iAny (eVar 0)) (gName 1) (lb_law_due_v5_1 F_law_number)) (sRet (e2 eqD (eLc (iAny (eVar 0)) (gName 1) (tVal (e2 neD (e2 ixD (e2 ixD (eVar 0) (e2 ixD (eVar 1) (eC (.int 1)))) (eC (.int 0))) (e2 ixD (eVar 1) (eC (.int 0))))) (eVar 1) [1]) (eLst []))))
noncomputable def R_law_due_v5 : Fn := runF 1 2 (b_law_due_v5 R_law_number)
end Z
namespace Z
theorem forL_nil {chk : Store → Prop} {g : SG} {b : SS} {ρ : Env} {S : Store} (h : chk S) : forL chk g b [] ρ S = some (.nx ρ S) := by rw [forL, if_pos h]
theorem forL_cons {chk : Store → Prop} {g : SG} {b : SS} {x : D} {r : List D} {ρ ρ1 ρ2 : Env} {S S1 S2 : Store} (h : chk S) (hg : g x ρ S = some (ρ1, S1)) (hb : b ρ1 S1 = some (.nx ρ2 S2)) : forL chk g b (x :: r) ρ S = forL chk g b r ρ2 S2 := by
  rw [forL, if_pos h, hg]
  dsimp only
  rw [hb]
theorem forL_rt {chk : Store → Prop} {g : SG} {b : SS} {x : D} {r : List D} {ρ ρ1 : Env} {S S1 S2 : Store} {d : D} (h : chk S) (hg : g x ρ S = some (ρ1, S1)) (hb : b ρ1 S1 = some (.rt d S2)) : forL chk g b (x :: r) ρ S = some (.rt d S2) := by
  rw [forL, if_pos h, hg]
  dsimp only
  rw [hb]
theorem lcL_map {chk : Store → Prop} {g : SG} {t : ST} {e : SE} {S : Store} {ρ : Env} (f : D → D) : ∀ (xs acc : List D), acc.length + xs.length ≤ LINE →
    (∀ acc, chk (S ++ [.lst acc])) →
    (∀ x ∈ xs, ∀ acc, ∃ ρ1, g x ρ (S ++ [.lst acc]) = some (ρ1, S ++ [.lst acc]) ∧ t ρ1 (S ++ [.lst acc]) = some (.ok true (S ++ [.lst acc])) ∧ e ρ1 (S ++ [.lst acc]) = some (.ok (f x) (S ++ [.lst acc]))) →
    lcL chk g t e S.length xs ρ (S ++ [.lst acc]) = some (.ok (.ref S.length) (S ++ [.lst (acc ++ xs.map f)]))
  | [], acc, _, hc, _ => by rw [lcL, if_pos (hc acc)]; simp
  | x :: xs, acc, hl, hc, h => by
    obtain ⟨ρ1, h1, h2, h3⟩ := h x (by simp) acc
    rw [List.length_cons] at hl
    rw [lcL, if_pos (hc acc), h1]
    dsimp only
    rw [h2, bq_ok, if_pos rfl, h3, bq_ok]
    have hlt : acc.length < LINE := by omega
    simp only [List.getElem?_append_right (Nat.le_refl _), Nat.sub_self, List.getElem?_cons_zero, if_pos hlt]
    have e : (S ++ [MO.lst acc]).set S.length (.lst (acc ++ [f x])) = S ++ [.lst (acc ++ [f x])] := by simp
    rw [e, lcL_map f xs (acc ++ [f x]) (by simp; omega) hc fun y hy => h y (List.mem_cons_of_mem _ hy)]
    simp
theorem lcL_filter {chk : Store → Prop} {g : SG} {t : ST} {e : SE} {S : Store} {ρ : Env} (q : D → Bool) (f : D → D) : ∀ (xs acc : List D), acc.length + xs.length ≤ LINE →
    (∀ acc, chk (S ++ [.lst acc])) →
    (∀ x ∈ xs, ∀ acc, ∃ ρ1, g x ρ (S ++ [.lst acc]) = some (ρ1, S ++ [.lst acc]) ∧ t ρ1 (S ++ [.lst acc]) = some (.ok (q x) (S ++ [.lst acc])) ∧ (q x = true → e ρ1 (S ++ [.lst acc]) = some (.ok (f x) (S ++ [.lst acc])))) →
    lcL chk g t e S.length xs ρ (S ++ [.lst acc]) = some (.ok (.ref S.length) (S ++ [.lst (acc ++ (xs.filter q).map f)]))
  | [], acc, _, hc, _ => by rw [lcL, if_pos (hc acc)]; simp
  | x :: xs, acc, hl, hc, h => by
    obtain ⟨ρ1, h1, h2, h3⟩ := h x (by simp) acc
    rw [List.length_cons] at hl
    rw [lcL, if_pos (hc acc), h1]
    dsimp only
    rw [h2, bq_ok]
    by_cases hq : q x = true
    · rw [if_pos hq, h3 hq, bq_ok]
      have hlt : acc.length < LINE := by omega
      simp only [List.getElem?_append_right (Nat.le_refl _), Nat.sub_self, List.getElem?_cons_zero, if_pos hlt]
      have e : (S ++ [MO.lst acc]).set S.length (.lst (acc ++ [f x])) = S ++ [.lst (acc ++ [f x])] := by simp
      rw [e, lcL_filter q f xs (acc ++ [f x]) (by simp; omega) hc fun y hy => h y (List.mem_cons_of_mem _ hy)]
      simp [hq]
    · rw [if_neg hq, lcL_filter q f xs acc (by omega) hc fun y hy => h y (List.mem_cons_of_mem _ hy)]
      simp [hq]
@[simp] theorem x_lc (it : SI) (g : SG) (t : ST) (e : SE) (own : List Nat) (ρ : Env) (S : Store) : eLc it g t e own ρ S = bd (it ρ S) fun J S1 => lcL J.chk g t e S1.length J.xs (wipe ρ own) (S1 ++ [.lst []]) := rfl
@[simp] theorem isi_str (s : List Nat) (S : Store) (t : Ty) : isiD t (.str s) S = some (.ok (.bl (match t with | .str => true | _ => false)) S) := rfl
@[simp] theorem isi_non (S : Store) (t : Ty) : isiD t .non S = some (.ok (.bl false) S) := rfl
@[simp] theorem isi_bl (b : Bool) (S : Store) (t : Ty) : isiD t (.bl b) S = some (.ok (.bl (match t with | .int => true | .bool => true | _ => false)) S) := rfl
@[simp] theorem isi_int (i : Int) (S : Store) (t : Ty) : isiD t (.int i) S = some (.ok (.bl (match t with | .int => true | _ => false)) S) := rfl
@[simp] theorem isi_tup (xs : List D) (S : Store) (t : Ty) : isiD t (.tup xs) S = some (.ok (.bl (match t with | .tuple => true | _ => false)) S) := rfl
@[simp] theorem in_str (k : Nat) (z : List Nat) (S : Store) : inD (.str [k]) (.str z) S = some (.ok (.bl (decide (k ∈ z))) S) := rfl
@[simp] theorem nin_str (k : Nat) (z : List Nat) (S : Store) : ninD (.str [k]) (.str z) S = some (.ok (.bl (!decide (k ∈ z))) S) := rfl
theorem bls_map {α : Type} (q : α → Bool) : ∀ xs : List α, blsOf (xs.map fun x => .bl (q x)) = some (xs.map q)
  | [] => rfl
  | x :: xs => by simp [blsOf, bls_map q xs]
theorem all_ref {n : Nat} {S : Store} {α : Type} {xs : List α} {q : α → Bool} (h : S[n]? = some (.lst (xs.map fun x => .bl (q x)))) : allF [.ref n] S = some (.ok (.bl (xs.all q)) S) := by
  simp [allF, h, bls_map, List.all_map]
theorem set_self {S : Store} {i : Nat} {o : MO} (h : S[i]? = some o) : S.set i o = S := by
  apply List.ext_getElem?
  intro j
  by_cases hj : i = j
  · subst hj; rw [List.getElem?_set_self (List.getElem?_eq_some_iff.mp h).1, h]
  · rw [List.getElem?_set_ne hj]
theorem forL_ct {chk : Store → Prop} {g : SG} {b : SS} {x : D} {r : List D} {ρ ρ1 ρ2 : Env} {S S1 S2 : Store} (h : chk S) (hg : g x ρ S = some (ρ1, S1)) (hb : b ρ1 S1 = some (.ct ρ2 S2)) : forL chk g b (x :: r) ρ S = forL chk g b r ρ2 S2 := by
  rw [forL, if_pos h, hg]
  dsimp only
  rw [hb]
/-- rounds by their number -/
theorem forL_idx {chk : Store → Prop} {g : SG} {b : SS} (I : Nat → Env → Store → Prop) (hc : ∀ i ρ S, I i ρ S → chk S) : ∀ (l : List D) (n : Nat), (∀ i x, l[i]? = some x → ∀ ρ S, I (n + i) ρ S → ∃ ρ1 S1, g x ρ S = some (ρ1, S1) ∧ ∃ ρ2 S2, (b ρ1 S1 = some (.nx ρ2 S2) ∨ b ρ1 S1 = some (.ct ρ2 S2)) ∧ I (n + i + 1) ρ2 S2) →
    ∀ ρ S, I n ρ S → ∃ ρ' S', forL chk g b l ρ S = some (.nx ρ' S') ∧ I (n + l.length) ρ' S'
  | [], n, _, ρ, S, i => ⟨ρ, S, forL_nil (hc n ρ S i), i⟩
  | x :: l, n, h, ρ, S, i => by
    obtain ⟨ρ1, S1, h1, ρ2, S2, h2, h3⟩ := h 0 x rfl ρ S i
    obtain ⟨ρ', S', h4, h5⟩ := forL_idx I hc l (n + 1) (fun j y hy ρ S i' => by
      have := h (j + 1) y (by simpa using hy) ρ S (by rw [show n + (j + 1) = n + 1 + j by omega]; exact i')
      rw [show n + (j + 1) + 1 = n + 1 + j + 1 by omega] at this
      exact this) ρ2 S2 h3
    refine ⟨ρ', S', ?_, by rw [List.length_cons, show n + (l.length + 1) = n + 1 + l.length by omega]; exact h5⟩
    rcases h2 with h2 | h2
    · rw [forL_cons (hc n ρ S i) h1 h2, h4]
    · rw [forL_ct (hc n ρ S i) h1 h2, h4]
/-- rounds of range(n) -/
theorem forL_range {g : SG} {b : SS} {n : Nat} (I : Nat → Env → Store → Prop) (h : ∀ k, k < n → ∀ ρ S, I k ρ S → ∃ ρ1 S1, g (.int (k : Nat)) ρ S = some (ρ1, S1) ∧ ∃ ρ2 S2, (b ρ1 S1 = some (.nx ρ2 S2) ∨ b ρ1 S1 = some (.ct ρ2 S2)) ∧ I (k + 1) ρ2 S2) (ρ : Env) (S : Store) (i : I 0 ρ S) :
    ∃ ρ' S', forL (fun _ => True) g b ((List.range n).map fun (k : Nat) => .int k) ρ S = some (.nx ρ' S') ∧ I n ρ' S' := by
  have := forL_idx (chk := fun _ => True) (g := g) (b := b) I (fun _ _ _ _ => trivial) ((List.range n).map fun (k : Nat) => .int k) 0 (fun i x hx ρ S j => by
    rw [List.getElem?_map] at hx
    obtain ⟨k, hk, rfl⟩ := Option.map_eq_some_iff.mp hx
    have hi : i < n := by simpa using (List.getElem?_eq_some_iff.mp hk).1
    rw [List.getElem?_range hi] at hk
    cases hk
    rw [Nat.zero_add] at j ⊢
    exact h i hi ρ S j) ρ S i
  simpa using this
theorem get_app {S : Store} {i : Nat} {o : MO} (h : S[i]? = some o) (T : Store) : (S ++ T)[i]? = some o := by rw [List.getElem?_append_left (List.getElem?_eq_some_iff.mp h).1]; exact h
theorem atI_nat {α : Type} {xs : List α} {k : Nat} {x : α} (h : xs[k]? = some x) : atI xs (k : Int) = some x := by
  have hk := (List.getElem?_eq_some_iff.mp h).1
  have := (List.getElem?_eq_some_iff.mp h).2
  simp [atI, ixN, hk, this]
theorem sWh_rt {t : ST} {b : SS} {ρ : Env} {S S1 S2 : Store} {d : D} (h : t ρ S = some (.ok true S1)) (hb : b ρ S1 = some (.rt d S2)) : sWh t b ρ S = some (.rt d S2) := by
  rw [sWh, h]
  dsimp only
  rw [hb]
theorem sWh_go {t : ST} {b : SS} {ρ ρ2 : Env} {S S1 S2 : Store} (h : t ρ S = some (.ok true S1)) (hb : b ρ S1 = some (.nx ρ2 S2)) : sWh t b ρ S = sWh t b ρ2 S2 := by
  conv => lhs; rw [sWh]
  rw [h]
  dsimp only
  rw [hb]
theorem sWh_stop {t : ST} {b : SS} {ρ : Env} {S S1 : Store} (h : t ρ S = some (.ok false S1)) : sWh t b ρ S = some (.nx ρ S1) := by
  rw [sWh, h]
end Z
namespace Z
structure Spr where
  cells : List Int
  carry : Int
  mixed : Int
def Spr.ok (s : Spr) : Prop := 0 ≤ s.carry ∧ 0 ≤ s.mixed ∧ s.mixed < 2147483647
/-- the spring's next number below many -/
def Spr.drop (s : Spr) (many : Int) : Int × Spr :=
  match s.carry == 0, s.cells with
  | true, cell :: r =>
    let a := if cell < 0 then -cell else cell
    if a < 1000000000000000000 then (cell % many, ⟨r, 0, s.mixed⟩)
    else (a % many, ⟨r, a / many, s.mixed⟩)
  | true, [] => let m := (s.mixed * s.mixed + 7919) % 2147483647; (m / 8 % many, ⟨[], 0, m⟩)
  | false, cs => (s.carry % many, ⟨cs, s.carry / many, s.mixed⟩)
def intsOf : List D → Option (List Int)
  | [] => some []
  | .int i :: r => (intsOf r).map (i :: ·)
  | _ :: _ => none
/-- a spring stands at p, its cells at c -/
structure SprAt (S : Store) (p c : Nat) (s : Spr) : Prop where
  ne : p ≠ c
  hp : S[p]? = some (.lst [.ref c, .int s.carry, .int s.mixed])
  hc : S[c]? = some (.lst (s.cells.map .int))
  ok : s.ok
def putSpr (S : Store) (p c : Nat) (s : Spr) : Store := (S.set c (.lst (s.cells.map .int))).set p (.lst [.ref c, .int s.carry, .int s.mixed])
instance (s : Spr) : Decidable s.ok := by unfold Spr.ok; infer_instance
/-- the spring that stands at p -/
def sprOf (S : Store) (p : Nat) : Option (Nat × Spr) := match S[p]? with
  | some (.lst [.ref c, .int k, .int m]) => (match S[c]? with
    | some (.lst xs) => (match intsOf xs with
      | some cells => if p ≠ c ∧ (Spr.mk cells k m).ok then some (c, ⟨cells, k, m⟩) else none
      | none => none)
    | _ => none)
  | _ => none
/-- what only draws: its value and the spring behind it -/
def drawn (S : Store) (p : Nat) (f : Spr → Option (D × Spr)) : M D := match sprOf S p with
  | some (c, s) => (match f s with
    | some (d, s') => some (.ok d (putSpr S p c s'))
    | none => none)
  | none => none
theorem SprAt.lt {S : Store} {p c : Nat} {s : Spr} (h : SprAt S p c s) : p < S.length ∧ c < S.length := ⟨(List.getElem?_eq_some_iff.mp h.hp).1, (List.getElem?_eq_some_iff.mp h.hc).1⟩
theorem SprAt.put {S : Store} {p c : Nat} {s s' : Spr} (h : SprAt S p c s) (o : s'.ok) : SprAt (putSpr S p c s') p c s' := by
  obtain ⟨l1, l2⟩ := h.lt
  refine ⟨h.ne, ?_, ?_, o⟩
  · unfold putSpr; rw [List.getElem?_set_self (by simpa using l1)]
  · unfold putSpr; rw [List.getElem?_set_ne h.ne, List.getElem?_set_self l2]
theorem drop_ok {s : Spr} (h : s.ok) {many : Int} (h1 : 0 < many) : (s.drop many).2.ok := by
  obtain ⟨a, b, c⟩ := h
  have hm : 0 ≤ (s.mixed * s.mixed + 7919) % 2147483647 ∧ (s.mixed * s.mixed + 7919) % 2147483647 < 2147483647 := ⟨Int.emod_nonneg _ (by decide), Int.emod_lt_of_pos _ (by decide)⟩
  unfold Spr.drop
  split
  · rename_i cell r _ _
    by_cases hz : (if cell < 0 then -cell else cell) < 1000000000000000000
    · simp only [hz, if_true]; exact ⟨Int.le_refl 0, b, c⟩
    · simp only [hz, if_false]; exact ⟨Int.ediv_nonneg (by show 0 ≤ (if cell < 0 then -cell else cell); split <;> omega) (by omega), b, c⟩
  · exact ⟨Int.le_refl 0, hm.1, hm.2⟩
  · exact ⟨Int.ediv_nonneg a (by omega), b, c⟩
theorem s_law_drop {S : Store} {p c : Nat} {s : Spr} (h : SprAt S p c s) {many : Int} (h1 : 0 < many) (h2 : many.natAbs.log2 < 9000) : R_law_drop [.ref p, .int many] S = some (.ok (.int (s.drop many).1) (putSpr S p c (s.drop many).2)) := by
  obtain ⟨lp, lc⟩ := h.lt
  have hne := h.ne
  have hne' := h.ne.symm
  obtain ⟨cells, carry, mixed⟩ := s
  have hk : 0 ≤ carry := h.ok.1
  have hp : S[p] = .lst [.ref c, .int carry, .int mixed] := by have := h.hp; rw [List.getElem?_eq_getElem lp] at this; simpa using this
  have hc : S[c] = .lst (cells.map .int) := by have := h.hc; rw [List.getElem?_eq_getElem lc] at this; simpa using this
  have hm : small mixed := (small_iff mixed).mpr (by have := h.ok; have h4 := this.2.1; have h5 := this.2.2; dsimp only at h4 h5; omega)
  have e1 : ∀ X, (S.set c X).set p (.lst [.ref c, .int carry, .int mixed]) = S.set c X := fun X => set_self (by rw [List.getElem?_set_ne hne']; exact h.hp)
  have e2 : ∀ Y, (S.set c (.lst (cells.map .int))).set p Y = S.set p Y := fun Y => by rw [set_self h.hc]
  unfold R_law_drop
  rw [run_eq (n := 2) _ _ rfl]
  unfold b_law_drop
  by_cases c0 : carry = 0
  · subst c0
    cases cells with
    | nil => simp at e2; simp [e2, h.hp, h.hc, hp, hc, lp, lc, hne, hne', atI, ixN, h1, h2, hm, Spr.drop, putSpr]
    | cons x xs =>
      by_cases hx : (if x < 0 then -x else x) < 1000000000000000000
      · simp [h.hp, h.hc, hp, hc, lp, lc, hne, hne', atI, ixN, h1, h2, hm, Spr.drop, putSpr, small_iff (10 : Int), hx, e1]
      · by_cases hy : 0 < (if x < 0 then -x else x)
        · simp [h.hp, h.hc, hp, hc, lp, lc, hne, hne', atI, ixN, h1, h2, hm, Spr.drop, putSpr, small_iff (10 : Int), hx, hy]
        · exfalso; omega
  · have h0 : 0 < carry := by omega
    have hb : (carry == 0) = false := by simp [c0]
    simp [h.hp, h.hc, hp, hc, lp, lc, hne, hne', atI, ixN, h1, h2, hm, Spr.drop, putSpr, c0, h0, hb, e2]
def Sp (S : Store) (p c : Nat) : Prop := ∃ s, SprAt S p c s
theorem Sp.ne {S : Store} {p c : Nat} (h : Sp S p c) : p ≠ c := let ⟨_, h⟩ := h; h.ne
theorem Sp.lt {S : Store} {p c : Nat} (h : Sp S p c) : p < S.length ∧ c < S.length := let ⟨_, h⟩ := h; h.lt
/-- all old objects but the spring stand -/
structure Fr (p c : Nat) (S S' : Store) : Prop where
  le : S.length ≤ S'.length
  old : ∀ i, i < S.length → i ≠ p → i ≠ c → S'[i]? = S[i]?
theorem Fr.refl {p c : Nat} {S : Store} : Fr p c S S := ⟨Nat.le_refl _, fun _ _ _ _ => rfl⟩
theorem Fr.trans {p c : Nat} {S S' S'' : Store} (a : Fr p c S S') (b : Fr p c S' S'') : Fr p c S S'' := ⟨Nat.le_trans a.le b.le, fun i h1 h2 h3 => by rw [b.old i (Nat.lt_of_lt_of_le h1 a.le) h2 h3, a.old i h1 h2 h3]⟩
theorem Fr.app {p c : Nat} {S G : Store} : Fr p c S (S ++ G) := ⟨by simp, fun i h _ _ => List.getElem?_append_left h⟩
theorem Sp.app {p c : Nat} {S G : Store} (h : Sp S p c) : Sp (S ++ G) p c := by
  obtain ⟨s, h⟩ := h
  obtain ⟨h1, h2⟩ := h.lt
  exact ⟨s, h.ne, by rw [List.getElem?_append_left h1]; exact h.hp, by rw [List.getElem?_append_left h2]; exact h.hc, h.ok⟩
theorem drop_lt {s : Spr} (h : s.ok) {many : Int} (h1 : 0 < many) : 0 ≤ (s.drop many).1 ∧ (s.drop many).1 < many := by
  have k : ∀ x : Int, 0 ≤ x % many ∧ x % many < many := fun x => ⟨Int.emod_nonneg _ (by omega), Int.emod_lt_of_pos _ h1⟩
  unfold Spr.drop
  split
  · rename_i cell _ _ _
    by_cases hz : (if cell < 0 then -cell else cell) < 1000000000000000000
    · simp only [hz, if_true]; exact k _
    · simp only [hz, if_false]; exact k _
  · exact k _
  · exact k _
theorem s_drop {S : Store} {p c : Nat} (h : Sp S p c) (many : Int) (h1 : 0 < many) (h2 : many < 18446744073709551616) : ∃ v S', R_law_drop [.ref p, .int many] S = some (.ok (.int v) S') ∧ 0 ≤ v ∧ v < many ∧ Sp S' p c ∧ S'.length = S.length ∧ Fr p c S S' := by
  obtain ⟨s, h⟩ := h
  obtain ⟨a, b⟩ := drop_lt h.ok h1
  have hl : (putSpr S p c (s.drop many).2).length = S.length := by unfold putSpr; simp
  exact ⟨_, _, s_law_drop h h1 (lg_lt (by omega)), a, b, ⟨_, h.put (drop_ok h.ok h1)⟩, hl, Nat.le_of_eq hl.symm, fun i _ g1 g2 => by unfold putSpr; rw [List.getElem?_set_ne (Ne.symm g1), List.getElem?_set_ne (Ne.symm g2)]⟩
def mixL : List Int → Int → Int
  | [], m => m
  | n :: r, m => mixL r ((m * 69621 + n) % 2147483647)
theorem mixL_ok : ∀ (ns : List Int) (m : Int), 0 ≤ m → m < 2147483647 → 0 ≤ mixL ns m ∧ mixL ns m < 2147483647
  | [], m, a, b => ⟨a, b⟩
  | n :: r, m, a, b => mixL_ok r _ (Int.emod_nonneg _ (by decide)) (Int.emod_lt_of_pos _ (by decide))
theorem spring_loop {A : SS} (hA : ∀ d m n S, small m → A [some d, some (.int m), some (.int n)] S = some (.nx [some d, some (.int ((m * 69621 + n) % 2147483647)), some (.int n)] S)) {S : Store} {d : D} : ∀ (ns : List Int) (m : Int) (o : Option D), 0 ≤ m → m < 2147483647 →
    ∃ o', forL (fun _ => True) (gName 2) A (ns.map .int) [some d, some (.int m), o] S = some (.nx [some d, some (.int (mixL ns m)), o'] S)
  | [], m, o, a, b => ⟨o, by rw [List.map_nil, forL_nil trivial]; rfl⟩
  | n :: r, m, o, a, b => by
    obtain ⟨o', h⟩ := spring_loop hA r _ (some (.int n)) (Int.emod_nonneg (m * 69621 + n) (by decide)) (Int.emod_lt_of_pos (m * 69621 + n) (by decide : (0:Int) < 2147483647))
    refine ⟨o', ?_⟩
    rw [List.map_cons, forL_cons (ρ1 := [some d, some (.int m), some (.int n)]) trivial rfl (hA d m n S ((small_iff m).mpr (by omega)))]
    exact h
theorem s_law_spring (ns : List Int) (S : Store) : ∃ S', R_law_spring [.fl (ns.map .int)] S = some (.ok (.ref (S.length + 1)) S') ∧ SprAt S' (S.length + 1) S.length ⟨ns, 0, mixL ns 987654321⟩ ∧ S'.length = S.length + 2 ∧ Fr (S.length + 1) S.length S S' := by
  obtain ⟨o', h⟩ := spring_loop (A := lb_law_spring_1) (fun d m n S h => by simp [lb_law_spring_1, h]) (S := S) (d := .fl (ns.map .int)) ns 987654321 none (by decide) (by decide)
  obtain ⟨m1, m2⟩ := mixL_ok ns 987654321 (by decide) (by decide)
  refine ⟨S ++ [.lst (ns.map .int), .lst [.ref S.length, .int 0, .int (mixL ns 987654321)]], ?_, ⟨by simp, by simp, by simp, by simp, m1, m2⟩, by simp, Fr.app⟩
  unfold R_law_spring
  rw [run_eq (n := 1) _ _ rfl]
  unfold b_law_spring
  simp [h]
end Z
namespace Z
inductive Tm where
  | row (s : List Nat) | sign (i : Nat) (t : Tm) | beh (t : Tm) | zip (a b : Tm)
abbrev wRow : List Nat := [114, 111, 119]
abbrev wSign : List Nat := [115, 105, 103, 110]
abbrev wBeh : List Nat := [98, 101, 104, 105, 110, 100]
abbrev wZip : List Nat := [122, 105, 112]
def Tm.d : Tm → D
  | .row s => .tup [.str wRow, .str s]
  | .sign i t => .tup [.str wSign, .int i, t.d]
  | .beh t => .tup [.str wBeh, t.d]
  | .zip a b => .tup [.str wZip, a.d, b.d]
def Tm.depth : Tm → Nat
  | .row _ => 1
  | .sign _ t => t.depth + 1
  | .beh t => t.depth + 1
  | .zip a b => max a.depth b.depth + 1
def Tm.pd : Tm → PD
  | .row s => .tup [.str wRow, .str s]
  | .sign i t => .tup [.str wSign, .int i, t.pd]
  | .beh t => .tup [.str wBeh, t.pd]
  | .zip a b => .tup [.str wZip, a.pd, b.pd]
theorem Tm.d_pd (g : Nat → Option PD) : ∀ t : Tm, t.d.pd g = some t.pd
  | .row s => by simp [Tm.d, Tm.pd, D.pd, pdL]
  | .sign i t => by simp [Tm.d, Tm.pd, D.pd, pdL, Tm.d_pd g t]
  | .beh t => by simp [Tm.d, Tm.pd, D.pd, pdL, Tm.d_pd g t]
  | .zip a b => by simp [Tm.d, Tm.pd, D.pd, pdL, Tm.d_pd g a, Tm.d_pd g b]
theorem Tm.pd_dep : ∀ t : Tm, t.pd.dep = t.depth
  | .row s => by simp [Tm.pd, Tm.depth, PD.dep, depL]
  | .sign i t => by simp [Tm.pd, Tm.depth, PD.dep, depL, Tm.pd_dep t]
  | .beh t => by simp [Tm.pd, Tm.depth, PD.dep, depL, Tm.pd_dep t]
  | .zip a b => by simp [Tm.pd, Tm.depth, PD.dep, depL, Tm.pd_dep a, Tm.pd_dep b]
mutual
theorem PD.eqv_refl : ∀ x : PD, x.eqv x = true
  | .non => rfl
  | .bl b => by simp [PD.eqv]
  | .int i => by simp [PD.eqv]
  | .str s => by simp [PD.eqv]
  | .lst xs => by rw [PD.eqv]; exact eqvL_refl xs
  | .tup xs => by rw [PD.eqv]; exact eqvL_refl xs
theorem eqvL_refl : ∀ xs : List PD, eqvL xs xs = true
  | [] => rfl
  | x :: xs => by rw [eqvL, PD.eqv_refl x, eqvL_refl xs]; rfl
end
def ent (e : List Nat × Tm) : D := .tup [.str e.1, e.2.d]
abbrev bookD (es : List (List Nat × Tm)) : D := .tup (es.map ent)
end Z
namespace Z
structure Nm (S : Store) (p c l : Nat) (names : List (List Nat)) : Prop where
  at' : S[l]? = some (.lst (names.map .str))
  np : l ≠ p
  nc : l ≠ c
  pos : 0 < names.length
  few : names.length ≤ 100
theorem Nm.fr {S S' : Store} {p c l : Nat} {names : List (List Nat)} (h : Nm S p c l names) (f : Fr p c S S') : Nm S' p c l names := ⟨by rw [f.old l (List.getElem?_eq_some_iff.mp h.at').1 h.np h.nc]; exact h.at', h.np, h.nc, h.pos, h.few⟩
/-- signs below 10, names of the given ones -/
def Tm.In (ns : List (List Nat)) : Tm → Prop
  | .row s => s ∈ ns
  | .sign i t => i < 10 ∧ t.In ns
  | .beh t => t.In ns
  | .zip a b => a.In ns ∧ b.In ns
theorem drop_nat {S : Store} {p c : Nat} (h : Sp S p c) (many : Nat) (h1 : 0 < many) (h2 : many < 1000000000) : ∃ (v : Nat) (S' : Store), R_law_drop [.ref p, .int many] S = some (.ok (.int v) S') ∧ v < many ∧ Sp S' p c ∧ S'.length = S.length ∧ Fr p c S S' := by
  obtain ⟨v, S', e, v0, v1, hs, hl, hf⟩ := s_drop h many (by omega) (by omega)
  exact ⟨v.toNat, S', by rw [Int.toNat_of_nonneg v0]; exact e, by omega, hs, hl, hf⟩
/-- a comprehension whose items change what stands -/
theorem lcL_run {chk : Store → Prop} {g : SG} {t : ST} {e : SE} {l : Nat} {ρ : Env} (J : Store → Prop) (P : D → Prop) (hset : ∀ S acc acc', J S → S[l]? = some (.lst acc) → J (S.set l (.lst acc'))) (hc : ∀ S, J S → chk S) :
    ∀ (xs acc : List D) (S : Store), J S → S[l]? = some (.lst acc) → acc.length + xs.length ≤ LINE →
    (∀ x ∈ xs, ∀ S acc, J S → S[l]? = some (.lst acc) → ∃ ρ1 y S', g x ρ S = some (ρ1, S) ∧ t ρ1 S = some (.ok true S) ∧ e ρ1 S = some (.ok y S') ∧ S'[l]? = some (.lst acc) ∧ J S' ∧ P y) →
    ∃ ys S', lcL chk g t e l xs ρ S = some (.ok (.ref l) S') ∧ S'[l]? = some (.lst (acc ++ ys)) ∧ J S' ∧ ys.length = xs.length ∧ ∀ y ∈ ys, P y
  | [], acc, S, j, hl, _, _ => ⟨[], S, by rw [lcL, if_pos (hc S j)], by simpa using hl, j, rfl, fun y h => by cases h⟩
  | x :: xs, acc, S, j, hl, hn, h => by
    obtain ⟨ρ1, y, S1, h1, h2, h3, h4, h5, h6⟩ := h x (by simp) S acc j hl
    rw [List.length_cons] at hn
    have hlt : acc.length < LINE := by omega
    have hl1 : l < S1.length := (List.getElem?_eq_some_iff.mp h4).1
    obtain ⟨ys, S2, h7, h8, h9, h10, h11⟩ := lcL_run J P hset hc xs (acc ++ [y]) (S1.set l (.lst (acc ++ [y]))) (hset S1 acc _ h5 h4) (by rw [List.getElem?_set_self hl1]) (by simp; omega) fun z hz => h z (List.mem_cons_of_mem _ hz)
    refine ⟨y :: ys, S2, ?_, by simpa using h8, h9, by simp [h10], fun z hz => ?_⟩
    · rw [lcL, if_pos (hc S j), h1]
      dsimp only
      rw [h2, bq_ok, if_pos rfl, h3, bq_ok, h4]
      dsimp only
      rw [if_pos hlt, h7]
    · rcases List.mem_cons.mp hz with rfl | hz
      · exact h6
      · exact h11 z hz
theorem Fr.set {p c l : Nat} {S S' : Store} {o : MO} (f : Fr p c S S') (h : S.length ≤ l) : Fr p c S (S'.set l o) := ⟨by simpa using f.le, fun i h1 h2 h3 => by rw [List.getElem?_set_ne (by omega)]; exact f.old i h1 h2 h3⟩
theorem Sp.set {p c l : Nat} {S : Store} {o : MO} (h : Sp S p c) (hp : l ≠ p) (hc : l ≠ c) : Sp (S.set l o) p c := by
  obtain ⟨s, h⟩ := h
  exact ⟨s, h.ne, by rw [List.getElem?_set_ne hp]; exact h.hp, by rw [List.getElem?_set_ne hc]; exact h.hc, h.ok⟩
end Z
namespace Z
abbrev az : List Nat := [97, 98, 99, 100, 101, 102, 103, 104, 105, 106, 107, 108, 109, 110, 111, 112, 113, 114, 115, 116, 117, 118, 119, 120, 121, 122]
/-- a name -/
structure IsNm (s : List Nat) : Prop where
  l1 : 1 ≤ s.length
  l8 : s.length ≤ 8
  az : ∀ k ∈ s, k ∈ Z.az
  nz : s ≠ wZip
  nb : s ≠ wBeh
end Z
namespace Z
def Tm.size : Tm → Nat
  | .row _ => 1
  | .sign _ t => 1 + t.size
  | .beh t => 1 + t.size
  | .zip a b => 1 + (a.size + b.size)
theorem isi_tm (t : Tm) (S : Store) : isiD .tuple t.d S = some (.ok (.bl true) S) := by cases t <;> rfl
end Z
namespace Z
theorem eqvL_nilP : ∀ xs : List PD, eqvL xs [] = xs.isEmpty
  | [] => rfl
  | _ :: _ => rfl
theorem pdL_tm (g : Nat → Option PD) : ∀ ts : List Tm, pdL g (ts.map Tm.d) = some (ts.map Tm.pd)
  | [] => rfl
  | t :: ts => by rw [List.map_cons, pdL, Tm.d_pd, pdL_tm g ts]; rfl
theorem depL_tm {k : Nat} : ∀ ts : List Tm, (∀ t ∈ ts, t.depth ≤ k) → depL (ts.map Tm.pd) ≤ k
  | [], _ => by simp [depL]
  | t :: ts, h => by
    have := depL_tm ts fun x hx => h x (List.mem_cons_of_mem _ hx)
    have := h t (by simp)
    rw [List.map_cons, depL, Tm.pd_dep]
    omega
theorem dat_tms {S : Store} {n : Nat} {ts : List Tm} (h : S[n]? = some (.lst (ts.map Tm.d))) : dat S (.ref n) = some (.lst (ts.map Tm.pd)) := by
  unfold dat
  rw [D.pd, rdR, h]
  dsimp only
  rw [pdL_tm]; rfl
theorem ne_nil_tm {S : Store} {a b : Nat} {ts : List Tm} (h : S[a]? = some (.lst (ts.map Tm.d))) (h' : S[b]? = some (.lst [])) (hd : ∀ t ∈ ts, t.depth ≤ 60) : neD (.ref a) (.ref b) S = some (.ok (.bl (!ts.isEmpty)) S) := by
  unfold neD
  rw [dat_tms h, dat_tms (ts := []) h']
  have : (PD.lst (ts.map Tm.pd)).dep ≤ 64 ∧ (PD.lst (([] : List Tm).map Tm.pd)).dep ≤ 64 := ⟨by have := depL_tm ts hd; simp [PD.dep]; omega, by simp [PD.dep, depL]⟩
  dsimp only
  rw [if_pos this, PD.eqv, List.map_nil, eqvL_nilP]
  cases ts <;> rfl
theorem pop_last {S : Store} {n : Nat} {xs : List D} {x : D} (h : S[n]? = some (.lst (xs ++ [x]))) : popF [.ref n] S = some (.ok x (S.set n (.lst xs))) := by
  simp [popF, h]
def sizes : List Tm → Nat
  | [] => 0
  | t :: r => t.size + sizes r
theorem size_pos (t : Tm) : 0 < t.size := by cases t <;> simp [Tm.size] <;> omega
end Z
namespace Z
theorem lcL_app {chk : Store → Prop} {g : SG} {t : ST} {e : SE} {S : Store} {ρ : Env} (f : D → D) : ∀ (xs acc : List D) (G : Store), acc.length + xs.length ≤ LINE →
    (∀ acc G, chk (S ++ .lst acc :: G)) →
    (∀ x ∈ xs, ∀ acc G, ∃ ρ1 G', g x ρ (S ++ .lst acc :: G) = some (ρ1, S ++ .lst acc :: G) ∧ t ρ1 (S ++ .lst acc :: G) = some (.ok true (S ++ .lst acc :: G)) ∧ e ρ1 (S ++ .lst acc :: G) = some (.ok (f x) (S ++ .lst acc :: (G ++ G')))) →
    ∃ G', lcL chk g t e S.length xs ρ (S ++ .lst acc :: G) = some (.ok (.ref S.length) (S ++ .lst (acc ++ xs.map f) :: (G ++ G')))
  | [], acc, G, _, hc, _ => ⟨[], by rw [lcL, if_pos (hc acc G)]; simp⟩
  | x :: xs, acc, G, hl, hc, h => by
    obtain ⟨ρ1, G1, h1, h2, h3⟩ := h x (by simp) acc G
    rw [List.length_cons] at hl
    have hlt : acc.length < LINE := by omega
    obtain ⟨G2, h5⟩ := lcL_app f xs (acc ++ [f x]) (G ++ G1) (by simp; omega) hc fun z hz => h z (List.mem_cons_of_mem _ hz)
    refine ⟨G1 ++ G2, ?_⟩
    rw [lcL, if_pos (hc acc G), h1]
    dsimp only
    rw [h2, bq_ok, if_pos rfl, h3, bq_ok]
    have e1 : (S ++ MO.lst acc :: (G ++ G1))[S.length]? = some (.lst acc) := by simp
    rw [e1]
    dsimp only
    have e2 : (S ++ MO.lst acc :: (G ++ G1)).set S.length (.lst (acc ++ [f x])) = S ++ .lst (acc ++ [f x]) :: (G ++ G1) := by simp
    rw [if_pos hlt, e2, h5]
    simp
end Z
namespace Z
/-- every list of S stands in S' -/
def LeL (S S' : Store) : Prop := ∀ (n : Nat) (xs : List D), S[n]? = some (MO.lst xs) → S'[n]? = some (MO.lst xs)
theorem LeL.refl {S : Store} : LeL S S := fun _ _ h => h
theorem LeL.trans {S S' S'' : Store} (a : LeL S S') (b : LeL S' S'') : LeL S S'' := fun n xs h => b n xs (a n xs h)
theorem LeL.app {S G : Store} : LeL S (S ++ G) := fun n xs h => get_app h G
/-- the object behind S may be any -/
theorem LeL.mask {S G : Store} {o : MO} : LeL (S ++ .dct [] :: G) (S ++ o :: G) := fun n xs h => by
  by_cases c : n < S.length
  · rw [List.getElem?_append_left c] at h ⊢; exact h
  · rw [List.getElem?_append_right (by omega)] at h ⊢
    by_cases c2 : n - S.length = 0
    · rw [c2] at h; simp at h
    · obtain ⟨k, hk⟩ := Nat.exists_eq_succ_of_ne_zero c2
      rw [hk] at h ⊢
      simpa using h
mutual
theorem D.pd_mono {g g' : Nat → Option PD} (h : ∀ n x, g n = some x → g' n = some x) : ∀ (d : D) (x : PD), d.pd g = some x → d.pd g' = some x
  | .non, x, e => by simpa [D.pd] using e
  | .bl b, x, e => by simpa [D.pd] using e
  | .int i, x, e => by simpa [D.pd] using e
  | .str s, x, e => by simpa [D.pd] using e
  | .tup xs, x, e => by
    simp only [D.pd, Option.map_eq_some_iff] at e ⊢
    obtain ⟨ys, e1, e2⟩ := e
    exact ⟨ys, pdL_mono h xs ys e1, e2⟩
  | .fl xs, x, e => by
    simp only [D.pd, Option.map_eq_some_iff] at e ⊢
    obtain ⟨ys, e1, e2⟩ := e
    exact ⟨ys, pdL_mono h xs ys e1, e2⟩
  | .raw _, x, e => by rw [D.pd] at e; cases e
  | .ref n, x, e => by
    simp only [D.pd] at e ⊢
    exact h n x e
theorem pdL_mono {g g' : Nat → Option PD} (h : ∀ n x, g n = some x → g' n = some x) : ∀ (ds : List D) (xs : List PD), pdL g ds = some xs → pdL g' ds = some xs
  | [], xs, e => e
  | d :: ds, xs, e => by
    rw [pdL] at e ⊢
    split at e
    · rename_i y ys h1 h2
      rw [D.pd_mono h d y h1, pdL_mono h ds ys h2]
      exact e
    · cases e
end
theorem rdR_mono {S S' : Store} (h : LeL S S') : ∀ (k n : Nat) (x : PD), rdR k S n = some x → rdR k S' n = some x
  | 0, n, x, e => by cases e
  | k + 1, n, x, e => by
    rw [rdR] at e ⊢
    split at e
    · rename_i xs g
      rw [h n xs g]
      dsimp only
      simp only [Option.map_eq_some_iff] at e ⊢
      obtain ⟨ys, e1, e2⟩ := e
      exact ⟨ys, pdL_mono (rdR_mono h k) xs ys e1, e2⟩
    · cases e
theorem dat_mono {S S' : Store} (h : LeL S S') {d : D} {x : PD} (e : dat S d = some x) : dat S' d = some x := D.pd_mono (rdR_mono h 70) d x e
/-- a value of data -/
def Dt (S : Store) (d : D) : Prop := ∃ x, dat S d = some x ∧ x.dep ≤ 60
theorem Dt.mono {S S' : Store} (h : LeL S S') {d : D} : Dt S d → Dt S' d := fun ⟨x, a, b⟩ => ⟨x, dat_mono h a, b⟩
theorem pdL_all {g : Nat → Option PD} : ∀ {ds : List D} {xs : List PD}, pdL g ds = some xs → ∀ d ∈ ds, ∃ x, d.pd g = some x ∧ x.dep ≤ depL xs
  | [], xs, e, d, hd => by cases hd
  | a :: ds, xs, e, d, hd => by
    rw [pdL] at e
    split at e
    · rename_i y ys h1 h2
      cases e
      rcases List.mem_cons.mp hd with rfl | hd
      · exact ⟨y, h1, by simp [depL]; omega⟩
      · obtain ⟨x, a, b⟩ := pdL_all h2 d hd
        exact ⟨x, a, by simp [depL]; omega⟩
    · cases e
theorem pdL_of {g : Nat → Option PD} {k : Nat} : ∀ {ds : List D}, (∀ d ∈ ds, ∃ x, d.pd g = some x ∧ x.dep ≤ k) → ∃ xs, pdL g ds = some xs ∧ depL xs ≤ k
  | [], _ => ⟨[], rfl, by simp [depL]⟩
  | a :: ds, h => by
    obtain ⟨x, h1, h2⟩ := h a (by simp)
    obtain ⟨xs, h3, h4⟩ := pdL_of fun d hd => h d (List.mem_cons_of_mem _ hd)
    exact ⟨x :: xs, by rw [pdL, h1, h3], by simp [depL]; omega⟩
/-- data whose depth is at most k -/
def Dk (k : Nat) (S : Store) (d : D) : Prop := ∃ x, dat S d = some x ∧ x.dep ≤ k
theorem Dk.mono {k : Nat} {S S' : Store} (h : LeL S S') {d : D} : Dk k S d → Dk k S' d := fun ⟨x, a, b⟩ => ⟨x, dat_mono h a, b⟩
theorem Dk.le {k j : Nat} (h : k ≤ j) {S : Store} {d : D} : Dk k S d → Dk j S d := fun ⟨x, a, b⟩ => ⟨x, a, by omega⟩
theorem Dk.tup {k : Nat} {S : Store} {ds : List D} (h : ∀ d ∈ ds, Dk k S d) : Dk (k + 1) S (.tup ds) := by
  obtain ⟨xs, h1, h2⟩ := pdL_of (g := rdR 70 S) (k := k) h
  exact ⟨.tup xs, by unfold dat; rw [D.pd, h1]; rfl, by simp [PD.dep]; omega⟩
theorem Dk.items {k : Nat} {S : Store} {ds : List D} (h : Dk k S (.tup ds)) : ∀ d ∈ ds, Dk (k - 1) S d := by
  obtain ⟨x, h1, h2⟩ := h
  unfold dat at h1
  rw [D.pd] at h1
  obtain ⟨ys, e1, rfl⟩ := Option.map_eq_some_iff.mp h1
  intro d hd
  obtain ⟨y, a, b⟩ := pdL_all e1 d hd
  simp [PD.dep] at h2
  exact ⟨y, a, by omega⟩
theorem Dk.int {k : Nat} {S : Store} (i : Int) : Dk k S (.int i) := ⟨.int i, by simp [dat, D.pd], by simp [PD.dep]⟩
theorem Dk.bl {k : Nat} {S : Store} (i : Bool) : Dk k S (.bl i) := ⟨.bl i, by simp [dat, D.pd], by simp [PD.dep]⟩
theorem Dk.str {k : Nat} {S : Store} (i : List Nat) : Dk k S (.str i) := ⟨.str i, by simp [dat, D.pd], by simp [PD.dep]⟩
theorem Dk.non {k : Nat} {S : Store} : Dk k S .non := ⟨.non, by simp [dat, D.pd], by simp [PD.dep]⟩
theorem Dk.ref {k : Nat} {S : Store} {n : Nat} (h : Dk k S (.ref n)) : ∃ xs, S[n]? = some (.lst xs) := by
  obtain ⟨x, h1, _⟩ := h
  unfold dat at h1
  rw [D.pd, rdR] at h1
  split at h1
  · rename_i xs g; exact ⟨xs, g⟩
  · cases h1
theorem Dk.noraw {k : Nat} {S : Store} {a : LamT} (h : Dk k S (.raw a)) : False := by
  obtain ⟨x, h1, _⟩ := h
  unfold dat at h1
  rw [D.pd] at h1
  cases h1
/-- what isinstance says of data -/
def tyB : Ty → D → Bool
  | .int, .bl _ => true
  | .bool, .bl _ => true
  | .int, .int _ => true
  | .str, .str _ => true
  | .tuple, .tup _ => true
  | .list, .fl _ => true
  | .list, .ref _ => true
  | _, _ => false
theorem isi_dat {k : Nat} {S : Store} {d : D} (h : Dk k S d) (t : Ty) : isiD t d S = some (.ok (.bl (tyB t d)) S) := by
  cases d with
  | ref n =>
    obtain ⟨xs, g⟩ := h.ref
    cases t <;> simp [isiD, isiB, g, tyB]
  | raw a => exact h.noraw.elim
  | _ => cases t <;> rfl
end Z
namespace Z
mutual
theorem D.pd_bnd {g g' : Nat → Option PD} {j : Nat} (h : ∀ n x, g n = some x → x.dep ≤ j → g' n = some x) : ∀ (d : D) (x : PD), d.pd g = some x → x.dep ≤ j → d.pd g' = some x
  | .non, x, e, _ => by simpa [D.pd] using e
  | .bl b, x, e, _ => by simpa [D.pd] using e
  | .int i, x, e, _ => by simpa [D.pd] using e
  | .str s, x, e, _ => by simpa [D.pd] using e
  | .tup xs, x, e, hd => by
    simp only [D.pd, Option.map_eq_some_iff] at e ⊢
    obtain ⟨ys, e1, rfl⟩ := e
    exact ⟨ys, pdL_bnd h xs ys e1 (by simp [PD.dep] at hd; omega), rfl⟩
  | .fl xs, x, e, hd => by
    simp only [D.pd, Option.map_eq_some_iff] at e ⊢
    obtain ⟨ys, e1, rfl⟩ := e
    exact ⟨ys, pdL_bnd h xs ys e1 (by simp [PD.dep] at hd; omega), rfl⟩
  | .raw _, x, e, hd => by rw [D.pd] at e; cases e
  | .ref n, x, e, hd => by
    simp only [D.pd] at e ⊢
    exact h n x e hd
theorem pdL_bnd {g g' : Nat → Option PD} {j : Nat} (h : ∀ n x, g n = some x → x.dep ≤ j → g' n = some x) : ∀ (ds : List D) (xs : List PD), pdL g ds = some xs → depL xs ≤ j → pdL g' ds = some xs
  | [], xs, e, _ => e
  | d :: ds, xs, e, hd => by
    rw [pdL] at e ⊢
    split at e
    · rename_i y ys h1 h2
      cases e
      simp [depL] at hd
      rw [D.pd_bnd h d y h1 (by omega), pdL_bnd h ds ys h2 (by omega)]
    · cases e
end
theorem rdR_fuel {S : Store} : ∀ (k j n : Nat) (x : PD), rdR k S n = some x → x.dep ≤ j → rdR j S n = some x
  | 0, j, n, x, e, _ => by cases e
  | k + 1, j, n, x, e, hd => by
    rw [rdR] at e
    split at e
    · rename_i xs g
      simp only [Option.map_eq_some_iff] at e
      obtain ⟨ys, e1, rfl⟩ := e
      simp [PD.dep] at hd
      obtain ⟨j, rfl⟩ : ∃ i, j = i + 1 := ⟨j - 1, by omega⟩
      rw [rdR, g]
      dsimp only
      rw [pdL_bnd (rdR_fuel k j) xs ys e1 (by omega)]
      rfl
    · cases e
/-- a list of data is data -/
theorem Dk.lst {k : Nat} {S : Store} {n : Nat} {ds : List D} (hk : k ≤ 60) (g : S[n]? = some (.lst ds)) (h : ∀ d ∈ ds, Dk k S d) : Dk (k + 1) S (.ref n) := by
  obtain ⟨xs, h1, h2⟩ := pdL_of (g := rdR 70 S) (k := k) h
  refine ⟨.lst xs, ?_, by simp [PD.dep]; omega⟩
  unfold dat
  rw [D.pd, rdR, g]
  dsimp only
  rw [pdL_bnd (fun n x e hd => rdR_fuel 70 69 n x e (by omega)) ds xs h1 (Nat.le_refl _)]
  rfl
theorem dat_lst {k : Nat} {S : Store} {n : Nat} {ds : List D} (hk : k ≤ 60) (g : S[n]? = some (.lst ds)) (h : ∀ d ∈ ds, Dk k S d) : ∃ xs, dat S (.ref n) = some (.lst xs) ∧ depL xs ≤ k ∧ pdL (rdR 70 S) ds = some xs := by
  obtain ⟨xs, h1, h2⟩ := pdL_of (g := rdR 70 S) (k := k) h
  refine ⟨xs, ?_, h2, h1⟩
  unfold dat
  rw [D.pd, rdR, g]
  dsimp only
  rw [pdL_bnd (fun n x e hd => rdR_fuel 70 69 n x e (by omega)) ds xs h1 (Nat.le_refl _)]
  rfl
theorem pdL_len {g : Nat → Option PD} : ∀ {ds : List D} {xs : List PD}, pdL g ds = some xs → xs.isEmpty = ds.isEmpty
  | [], xs, e => by cases e; rfl
  | d :: ds, xs, e => by
    rw [pdL] at e
    split at e
    · cases e; rfl
    · cases e
theorem eq_nilD {S : Store} {a b k : Nat} {ds : List D} (hk : k ≤ 60) (g : S[a]? = some (.lst ds)) (g' : S[b]? = some (.lst [])) (h : ∀ d ∈ ds, Dk k S d) : eqD (.ref a) (.ref b) S = some (.ok (.bl ds.isEmpty) S) := by
  obtain ⟨xs, h1, h2, h3⟩ := dat_lst hk g h
  obtain ⟨ys, h4, h5, h6⟩ := dat_lst (k := 0) (by decide) g' (fun d h => by cases h)
  cases h6
  unfold eqD
  rw [h1, h4]
  dsimp only
  rw [if_pos ⟨by simp [PD.dep]; omega, by simp [PD.dep]; omega⟩, PD.eqv, eqvL_nilP, pdL_len h3]
theorem ne_nilD {S : Store} {a b k : Nat} {ds : List D} (hk : k ≤ 60) (g : S[a]? = some (.lst ds)) (g' : S[b]? = some (.lst [])) (h : ∀ d ∈ ds, Dk k S d) : neD (.ref a) (.ref b) S = some (.ok (.bl (!ds.isEmpty)) S) := by
  obtain ⟨xs, h1, h2, h3⟩ := dat_lst hk g h
  obtain ⟨ys, h4, h5, h6⟩ := dat_lst (k := 0) (by decide) g' (fun d h => by cases h)
  cases h6
  unfold neD
  rw [h1, h4]
  dsimp only
  rw [if_pos ⟨by simp [PD.dep]; omega, by simp [PD.dep]; omega⟩, PD.eqv, eqvL_nilP, pdL_len h3]
mutual
/-- no text in it is long -/
def Sh : D → Prop
  | .str s => s.length ≤ 1000
  | .tup xs => ShL xs
  | _ => True
def ShL : List D → Prop
  | [] => True
  | x :: xs => Sh x ∧ ShL xs
end
theorem shL_iff : ∀ {xs : List D}, ShL xs ↔ ∀ x ∈ xs, Sh x
  | [] => by simp [ShL]
  | x :: xs => by simp [ShL, shL_iff (xs := xs)]
structure Dn (k : Nat) (S : Store) (d : D) : Prop where
  dk : Dk k S d
  sh : Sh d
theorem Dn.items {k : Nat} {S : Store} {ds : List D} (h : Dn k S (.tup ds)) : ∀ d ∈ ds, Dn (k - 1) S d := fun d hd => ⟨h.dk.items d hd, shL_iff.mp (by have := h.sh; rwa [Sh] at this) d hd⟩
theorem Dn.mono {k : Nat} {S S' : Store} (l : LeL S S') {d : D} (h : Dn k S d) : Dn k S' d := ⟨h.dk.mono l, h.sh⟩
theorem Dn.le {k j : Nat} (l : k ≤ j) {S : Store} {d : D} (h : Dn k S d) : Dn j S d := ⟨h.dk.le l, h.sh⟩
theorem Dn.app {k : Nat} {S G : Store} {d : D} (h : Dn k S d) : Dn k (S ++ G) d := h.mono .app
/-- a text of this kind -/
def isS (s : List Nat) : D → Bool
  | .str z => decide (z = s)
  | _ => false
theorem eq_str {k : Nat} (hk : k ≤ 60) {S : Store} {d : D} (h : Dk k S d) (s : List Nat) : eqD d (.str s) S = some (.ok (.bl (isS s d)) S) := by
  obtain ⟨x, h1, h2⟩ := h
  have e : dat S (.str s) = some (.str s) := by simp [dat, D.pd]
  unfold eqD
  rw [h1, e]
  dsimp only
  rw [if_pos ⟨by omega, by simp [PD.dep]⟩]
  cases d with
  | str z => simp [dat, D.pd] at h1; subst h1; simp [PD.eqv, isS]; exact Bool.eq_iff_iff.mpr (by simp)
  | ref n =>
    unfold dat at h1
    rw [D.pd, rdR] at h1
    split at h1
    · obtain ⟨ys, _, rfl⟩ := Option.map_eq_some_iff.mp h1
      simp [PD.eqv, isS]
    · cases h1
  | tup xs => unfold dat at h1; rw [D.pd] at h1; obtain ⟨ys, _, rfl⟩ := Option.map_eq_some_iff.mp h1; simp [PD.eqv, isS]
  | fl xs => unfold dat at h1; rw [D.pd] at h1; obtain ⟨ys, _, rfl⟩ := Option.map_eq_some_iff.mp h1; simp [PD.eqv, isS]
  | non => simp [dat, D.pd] at h1; subst h1; simp [PD.eqv, isS]
  | bl b => simp [dat, D.pd] at h1; subst h1; simp [PD.eqv, isS]
  | int b => simp [dat, D.pd] at h1; subst h1; simp [PD.eqv, isS]
  | raw b => unfold dat at h1; rw [D.pd] at h1; cases h1
end Z
namespace Z
def AZ : List Nat := az
def azB (s : List Nat) : Bool := s.all fun k => decide (k ∈ AZ)
def nmB (s : List Nat) : Bool := decide (1 ≤ s.length) && decide (s.length ≤ 8) && !decide (s = wZip) && !decide (s = wBeh) && azB s
def nameB : D → Bool
  | .str s => nmB s
  | _ => false
theorem nmB_is {s : List Nat} (h : IsNm s) : nmB s = true := by
  have h1 := h.l1
  have h2 := h.l8
  have h3 := h.nz
  have h4 := h.nb
  have h5 : azB s = true := by simp [azB]; exact fun k hk => h.az k hk
  simp only [wZip, wBeh] at h3 h4
  simp [nmB, h1, h2, h3, h4, h5]
theorem s_is_name {k : Nat} {d : D} {S : Store} (h : Dn k S d) : ∃ G, R_is_name [d] S = some (.ok (.bl (nameB d)) (S ++ G)) := by
  unfold R_is_name
  rw [run_eq (n := 1) _ _ rfl]
  unfold b_is_name
  have none_ : ∀ (A B : M D), A = B → ∃ G : Store, (∀ S', S' = S ++ G → True) := fun _ _ _ => ⟨[], fun _ _ => trivial⟩
  cases d with
  | str s =>
    have hl : s.length ≤ 1000 := by have := h.sh; rwa [Sh] at this
    have hL : s.length ≤ LINE := by rw [LINE_eq]; omega
    by_cases h1 : (1 ≤ s.length ∧ s.length ≤ 8) ∧ ¬ s = [122, 105, 112] ∧ ¬ s = [98, 101, 104, 105, 110, 100]
    · obtain ⟨⟨h1, h2⟩, h3, h4⟩ := h1
      have hlc := lcL_map (chk := fun _ => True) (g := gName 1) (t := tYes) (e := e2 inD (eVar 1) (eC c_LETTERS)) (S := S) (ρ := [some (.str s), none]) (fun d => .bl (match d with | .str [k] => decide (k ∈ AZ) | _ => false)) (s.map fun k => .str [k]) [] (by simpa using hL) (fun _ => trivial) (fun x hx acc => by
        obtain ⟨k, _, rfl⟩ := List.mem_map.mp hx
        exact ⟨_, rfl, rfl, rfl⟩)
      refine ⟨[.lst (s.map fun k => .bl (decide (k ∈ AZ)))], ?_⟩
      have hall := all_ref (n := S.length) (S := S ++ [.lst (s.map fun k => .bl (decide (k ∈ AZ)))]) (xs := s) (q := fun k => decide (k ∈ AZ)) (by simp)
      have h1' : (1 : Int) ≤ s.length := by omega
      have h2' : (s.length : Int) ≤ 8 := by omega
      simp only [List.map_map, List.nil_append] at hlc
      simp [hL, h1, h1', h2, h2', h3, h4, nameB, nmB, wipe, hlc, Function.comp_def, hall, azB]
    · refine ⟨[], ?_⟩
      by_cases a1 : (1 : Int) ≤ s.length <;> by_cases a2 : (s.length : Int) ≤ 8 <;> by_cases a3 : s = [122, 105, 112] <;> by_cases a4 : s = [98, 101, 104, 105, 110, 100] <;> simp [hL, a1, a2, a3, a4, nameB, nmB] <;> (try omega) <;> (try (exfalso; exact h1 ⟨⟨by omega, by omega⟩, a3, a4⟩))
  | ref n => exact ⟨[], by simp [isi_dat h.dk, tyB, nameB]⟩
  | fl n => exact ⟨[], by simp [isi_dat h.dk, tyB, nameB]⟩
  | raw n => exact h.dk.noraw.elim
  | _ => exact ⟨[], by simp [nameB]⟩
theorem in_two {S : Store} {n : Nat} {s a b : List Nat} (h : S[n]? = some (.lst [.str a, .str b])) : inD (.str s) (.ref n) S = some (.ok (.bl (decide (s = a) || decide (s = b))) S) := by
  have e : dat S (.ref n) = some (.lst [.str a, .str b]) := by
    unfold dat
    rw [D.pd, rdR, h]
    simp [pdL, D.pd]
  have e1 : dat S (.str s) = some (.str s) := by simp [dat, D.pd]
  unfold inD inB
  dsimp only
  rw [e, e1]
  dsimp only
  rw [if_pos ⟨by simp [PD.dep], by simp [PD.dep, depL]⟩]
  have e3 : ∀ x y : List Nat, (x == y) = decide (y = x) := fun x y => by
    by_cases h : x = y
    · subst h; simp
    · have h' : ¬ y = x := fun z => h z.symm
      simp [h, h']
  simp [PD.eqv, e3]
theorem s_law_is_name {k : Nat} {d : D} {S : Store} (h : Dn k S d) : ∃ G, R_law_is_name [d] S = some (.ok (.bl (nameB d)) (S ++ G)) := by
  unfold R_law_is_name
  rw [run_eq (n := 1) _ _ rfl]
  unfold b_law_is_name
  cases d with
  | str s =>
    have hl : s.length ≤ 1000 := by have := h.sh; rwa [Sh] at this
    have hL : s.length ≤ LINE := by rw [LINE_eq]; omega
    let W : MO := .lst [.str [122, 105, 112], .str [98, 101, 104, 105, 110, 100]]
    have h2w := in_two (S := S ++ [W]) (n := S.length) (s := s) (a := [122, 105, 112]) (b := [98, 101, 104, 105, 110, 100]) (by simp [W])
    by_cases a1 : s.length < 1
    · have a1' : (s.length : Int) < 1 := by omega
      have a2 : ¬ 1 ≤ s.length := by omega
      exact ⟨[], by simp [hL, a1', nameB, nmB, a2]⟩
    have a1' : ¬ (s.length : Int) < 1 := by omega
    by_cases a8 : 8 < s.length
    · have a8' : (8 : Int) < s.length := by omega
      have a2 : ¬ s.length ≤ 8 := by omega
      exact ⟨[], by simp [hL, a1', a8', nameB, nmB, a2]⟩
    have a8' : ¬ (8 : Int) < s.length := by omega
    by_cases az' : s = [122, 105, 112] ∨ s = [98, 101, 104, 105, 110, 100]
    · refine ⟨[W], ?_⟩
      simp only [W] at h2w ⊢
      rcases az' with rfl | rfl <;> simp [nameB, nmB, h2w]
    · have b1 : ¬ s = [122, 105, 112] := fun e => az' (.inl e)
      have b2 : ¬ s = [98, 101, 104, 105, 110, 100] := fun e => az' (.inr e)
      have hlc := lcL_filter (chk := fun _ => True) (g := gName 1) (t := tVal (e2 ninD (eVar 1) (eC (.str [97, 98, 99, 100, 101, 102, 103, 104, 105, 106, 107, 108, 109, 110, 111, 112, 113, 114, 115, 116, 117, 118, 119, 120, 121, 122])))) (e := eVar 1) (S := S ++ [W]) (ρ := [some (.str s), none])
        (fun d => match d with | .str [k] => !decide (k ∈ AZ) | _ => false) id (s.map fun k => .str [k]) [] (by simpa using hL) (fun _ => trivial) (fun x hx acc => by
          obtain ⟨k, _, rfl⟩ := List.mem_map.mp hx
          exact ⟨_, rfl, rfl, fun _ => rfl⟩)
      let bad : List D := (s.filter fun k => !decide (k ∈ AZ)).map fun k => .str [k]
      have eb : ((s.map fun k => D.str [k]).filter fun d => match d with | .str [k] => !decide (k ∈ AZ) | _ => false) = bad := by simp [bad, List.filter_map, Function.comp_def]
      have hbad : bad.isEmpty = azB s := by
        simp only [bad, azB]
        rw [Bool.eq_iff_iff]
        simp [List.isEmpty_iff, List.filter_eq_nil_iff]
      rw [eb, List.nil_append, List.map_id] at hlc
      have heq := eq_nilD (S := S ++ [W] ++ [.lst bad] ++ [.lst []]) (a := S.length + 1) (b := S.length + 2) (k := 0) (ds := bad) (by decide) (by simp) (by simp) (fun d hd => by
        obtain ⟨k, _, rfl⟩ := List.mem_map.mp hd
        exact Dk.str _)
      rw [hbad] at heq
      refine ⟨[W, .lst bad, .lst []], ?_⟩
      simp only [W] at h2w hlc heq ⊢
      simp at hlc heq
      have c1 : 1 ≤ s.length := by omega
      have c2 : s.length ≤ 8 := by omega
      simp [hL, a1', a8', h2w, b1, b2, wipe, hlc, heq, nameB, nmB, c1, c2]
  | ref n => exact ⟨[], by simp [isi_dat h.dk, tyB, nameB]⟩
  | fl n => exact ⟨[], by simp [isi_dat h.dk, tyB, nameB]⟩
  | raw n => exact h.dk.noraw.elim
  | _ => exact ⟨[], by simp [nameB]⟩
def sigB : D → Bool
  | .int i => decide (0 ≤ i) && decide (i ≤ 9)
  | _ => false
theorem s_is_sign {k : Nat} {d : D} {S : Store} (h : Dn k S d) : R_is_sign [d] S = some (.ok (.bl (sigB d)) S) := by
  unfold R_is_sign
  rw [run_eq (n := 1) _ _ rfl]
  unfold b_is_sign
  cases d with
  | int i => by_cases c : 0 ≤ i <;> simp [sigB, tyB, c]
  | ref n => simp [isi_dat h.dk, tyB, sigB]
  | fl xs => simp [isi_dat h.dk, tyB, sigB]
  | raw n => exact h.dk.noraw.elim
  | _ => simp [tyB, sigB]
/-- the parts of what has a term's form -/
def wi : D → Option (List D)
  | .tup [a, b] => if isS wRow a && nameB b then some [] else if isS wBeh a then some [b] else none
  | .tup [a, b, c] => if isS wSign a && sigB b then some [c] else if isS wZip a then some [b, c] else none
  | _ => none
/-- how many terms, 1000 where it is none; k: how deep it may still be -/
def sz : Nat → D → Nat
  | 0, _ => 1000
  | k + 1, d => match wi d with
    | none => 1000
    | some ps => 1 + (ps.map (sz k)).sum
theorem isS_str {s : List Nat} {a : D} (h : isS s a = true) : a = .str s := by
  cases a <;> simp [isS] at h
  rw [h]
theorem s_within {k : Nat} (hk : k ≤ 60) {d : D} {S : Store} (h : Dn k S d) : (wi d = none ∧ ∃ G, R_within [d] S = some (.ok .non (S ++ G))) ∨ ∃ ps G, wi d = some ps ∧ R_within [d] S = some (.ok (.ref (S ++ G).length) (S ++ G ++ [.lst ps])) := by
  unfold R_within
  rw [run_eq (n := 1) _ _ rfl]
  unfold b_within
  cases d with
  | tup xs =>
    match xs, h with
    | [], _ => exact .inl ⟨rfl, [], by simp⟩
    | [_], _ => exact .inl ⟨rfl, [], by simp⟩
    | [a, b], h =>
      have hi := h.items
      have ha := hi a (by simp)
      have hb := hi b (by simp)
      have t0 : atI [a, b] 0 = some a ∧ atI [a, b] 1 = some b := by simp [atI, ixN]
      have i0 := isi_dat ha.dk .str
      cases a with
      | str s =>
        have q1 := eq_str (by omega) ha.dk [114, 111, 119]
        by_cases c1 : s = [114, 111, 119]
        · subst c1
          obtain ⟨G, hG⟩ := s_is_name hb
          cases hn : nameB b with
          | true =>
            refine .inr ⟨[], G, by simp [wi, isS, hn], ?_⟩
            rw [hn] at hG
            simp [t0, hG]
          | false =>
            refine .inl ⟨by simp [wi, isS, hn], G, ?_⟩
            rw [hn] at hG
            simp [t0, hG]
        · by_cases c2 : s = [98, 101, 104, 105, 110, 100]
          · subst c2
            exact .inr ⟨[b], [], by simp [wi, isS], by simp [t0]⟩
          · exact .inl ⟨by simp [wi, isS, c1, c2], [], by simp [t0, c1, c2]⟩
      | ref n => exact .inl ⟨by simp [wi, isS], [], by simp [t0, i0, tyB]⟩
      | fl n => exact .inl ⟨by simp [wi, isS], [], by simp [t0, i0, tyB]⟩
      | raw n => exact .inl ⟨by simp [wi, isS], [], by simp [t0, i0, tyB]⟩
      | _ => exact .inl ⟨by simp [wi, isS], [], by simp [t0]⟩
    | [a, b, c], h =>
      have hi := h.items
      have ha := hi a (by simp)
      have hb := hi b (by simp)
      have t0 : atI [a, b, c] 0 = some a ∧ atI [a, b, c] 1 = some b ∧ atI [a, b, c] 2 = some c := by simp [atI, ixN]
      have i0 := isi_dat ha.dk .str
      have hs := s_is_sign (S := S) hb
      cases a with
      | str s =>
        by_cases c1 : s = [115, 105, 103, 110]
        · subst c1
          cases hn : sigB b with
          | true => exact .inr ⟨[c], [], by simp [wi, isS, hn], by simp [t0, hs, hn]⟩
          | false => exact .inl ⟨by simp [wi, isS, hn], [], by simp [t0, hs, hn]⟩
        · by_cases c2 : s = [122, 105, 112]
          · subst c2
            exact .inr ⟨[b, c], [], by simp [wi, isS], by simp [t0]⟩
          · exact .inl ⟨by simp [wi, isS, c1, c2], [], by simp [t0, c1, c2]⟩
      | ref n => exact .inl ⟨by simp [wi, isS], [], by simp [t0, i0, tyB]⟩
      | fl n => exact .inl ⟨by simp [wi, isS], [], by simp [t0, i0, tyB]⟩
      | raw n => exact .inl ⟨by simp [wi, isS], [], by simp [t0, i0, tyB]⟩
      | _ => exact .inl ⟨by simp [wi, isS], [], by simp [t0]⟩
    | a :: b :: c :: e :: r, h =>
      have ha := h.items a (by simp)
      have t0 : atI (a :: b :: c :: e :: r) 0 = some a := by simp [at0]
      have i0 := isi_dat ha.dk .str
      have n2 : ¬ ((r.length : Int) + 1 + 1 + 1 + 1 < 2) := by omega
      have e2' : ¬ ((r.length : Int) + 1 + 1 + 1 + 1 = 2) := by omega
      have e3' : ¬ ((r.length : Int) + 1 + 1 + 1 + 1 = 3) := by omega
      refine .inl ⟨rfl, [], ?_⟩
      cases a with
      | str s => by_cases c1 : s = [114, 111, 119] <;> by_cases c2 : s = [115, 105, 103, 110] <;> by_cases c3 : s = [98, 101, 104, 105, 110, 100] <;> by_cases c4 : s = [122, 105, 112] <;> simp [at0, n2, e2', e3', c1, c2, c3, c4]
      | ref n => simp [t0, i0, tyB, n2]
      | fl n => simp [t0, i0, tyB, n2]
      | raw n => simp [t0, i0, tyB, n2]
      | _ => simp [t0, n2]
  | ref n => exact .inl ⟨rfl, [], by simp [isi_dat h.dk, tyB]⟩
  | fl n => exact .inl ⟨rfl, [], by simp [isi_dat h.dk, tyB]⟩
  | raw n => exact h.dk.noraw.elim
  | _ => exact .inl ⟨rfl, [], by simp⟩
end Z
namespace Z
theorem wi_parts {k : Nat} {S : Store} {d : D} {ps : List D} (h : Dn k S d) (e : wi d = some ps) : (∀ p ∈ ps, Dn (k - 1) S p) ∧ ps.length ≤ 2 := by
  cases d with
  | tup xs =>
    have hi := h.items
    match xs, e, hi with
    | [a, b], e, hi =>
      unfold wi at e
      dsimp only at e
      by_cases c1 : (isS wRow a && nameB b) = true
      · rw [if_pos c1] at e; cases e; exact ⟨fun p hp => (nomatch hp), Nat.zero_le _⟩
      · rw [if_neg c1] at e
        by_cases c2 : isS wBeh a = true
        · rw [if_pos c2] at e; cases e
          exact ⟨fun p hp => hi p (by simp at hp; simp [hp]), by simp⟩
        · rw [if_neg c2] at e; cases e
    | [a, b, c], e, hi =>
      unfold wi at e
      dsimp only at e
      by_cases c1 : (isS wSign a && sigB b) = true
      · rw [if_pos c1] at e; cases e; exact ⟨fun p hp => hi p (by simp at hp; simp [hp]), by simp⟩
      · rw [if_neg c1] at e
        by_cases c2 : isS wZip a = true
        · rw [if_pos c2] at e; cases e
          exact ⟨fun p hp => hi p (by simp at hp; rcases hp with rfl | rfl <;> simp), by simp⟩
        · rw [if_neg c2] at e; cases e
    | [], e, hi => cases e
    | [_], e, hi => cases e
    | _ :: _ :: _ :: _ :: _, e, hi => cases e
  | _ => cases e
def inTen : D → Bool
  | .int i => decide (0 ≤ i) && decide (i ≤ 9)
  | .bl _ => true
  | _ => false
theorem s_inR {k : Nat} (hk : k ≤ 60) {S : Store} {b : D} (h : Dk k S b) : inRD b (.int 10) S = some (.ok (.bl (inTen b)) S) := by
  obtain ⟨x, h1, h2⟩ := h
  have hc : x.dep ≤ 60 ∧ (0 : Int) ≤ 10 ∧ (10 : Int) ≤ 1000 := ⟨by omega, by decide, by decide⟩
  unfold inRD
  dsimp only
  rw [h1]
  dsimp only
  rw [if_pos hc]
  cases b with
  | raw zz => first | exact ha.dk.noraw.elim | exact hb.dk.noraw.elim | exact h.dk.noraw.elim | exact h.noraw.elim | exact ha.noraw.elim | exact hb.noraw.elim | (exfalso; simp [dat, D.pd] at h1; done) | cases h | (rw [Rep] at r; subst r; rfl)
  | int i =>
    simp [dat, D.pd] at h1; subst h1
    have e : ∀ i : Int, decide (i < 10) = decide (i ≤ 9) := fun i => by rw [Bool.eq_iff_iff]; simp; omega
    simp [inRb, e, inTen]
  | bl i => simp [dat, D.pd] at h1; subst h1; simp [inRb, inTen]; cases i <;> simp
  | str z => simp [dat, D.pd] at h1; subst h1; simp [inRb, inTen]
  | non => simp [dat, D.pd] at h1; subst h1; simp [inRb, inTen]
  | tup xs => unfold dat at h1; rw [D.pd] at h1; obtain ⟨ys, _, rfl⟩ := Option.map_eq_some_iff.mp h1; simp [inRb, inTen]
  | fl xs => unfold dat at h1; rw [D.pd] at h1; obtain ⟨ys, _, rfl⟩ := Option.map_eq_some_iff.mp h1; simp [inRb, inTen]
  | ref n =>
    unfold dat at h1
    rw [D.pd, rdR] at h1
    split at h1
    · obtain ⟨ys, _, rfl⟩ := Option.map_eq_some_iff.mp h1; simp [inRb, inTen]
    · cases h1
theorem s_law_size : ∀ (k f deep : Nat) (d : D) (S : Store), k < f → deep + k = 11 → Dn 60 S d → ∃ (v : Nat) (G : Store), R_law_size f [d, .int deep] S = some (.ok (.int v) (S ++ G)) ∧ (v = sz k d ∨ (1000 ≤ v ∧ 1000 ≤ sz k d))
  | k, 0, deep, d, S, h, _, _ => by omega
  | 0, f + 1, deep, d, S, _, hd, h => by
    have e : (10 : Int) < deep := by omega
    refine ⟨1000, [], ?_, .inl rfl⟩
    unfold R_law_size
    rw [run_eq (n := 2) _ _ rfl]
    unfold b_law_size
    cases d with
    | tup xs => simp [e]
    | ref n => simp [isi_dat h.dk, tyB]
    | fl n => simp [isi_dat h.dk, tyB]
    | raw n => exact h.dk.noraw.elim
    | _ => simp
  | k + 1, f + 1, deep, d, S, hf, hd, h => by
    have e : ¬ (10 : Int) < deep := by omega
    have hd1 : (deep : Int) + 1 = ((deep + 1 : Nat) : Int) := by omega
    have ih := fun (x : D) (S : Store) => s_law_size k f (deep + 1) x S (by omega) (by omega)
    have t2 : ∀ a b : D, atI [a, b] 0 = some a ∧ atI [a, b] 1 = some b := fun a b => by simp [atI, ixN]
    have t3 : ∀ a b c : D, atI [a, b, c] 0 = some a ∧ atI [a, b, c] 1 = some b ∧ atI [a, b, c] 2 = some c := fun a b c => by simp [atI, ixN]
    unfold R_law_size
    rw [run_eq (n := 2) _ _ rfl]
    unfold b_law_size
    cases d with
    | tup xs =>
      match xs, h with
      | [], _ => exact ⟨1000, [], by simp [e], .inl rfl⟩
      | [_], _ => exact ⟨1000, [], by simp [e], .inl rfl⟩
      | [a, b], h =>
        have hi := h.items
        have ha := hi a (by simp)
        have hb := hi b (by simp)
        have q := fun s => eq_str (by decide) ha.dk s
        cases a with
        | raw zz => first | exact ha.dk.noraw.elim | exact hb.dk.noraw.elim | exact h.dk.noraw.elim | exact h.noraw.elim | exact ha.noraw.elim | exact hb.noraw.elim | (exfalso; simp [dat, D.pd] at h1; done) | cases h | (rw [Rep] at r; subst r; rfl)
        | str s =>
          by_cases c1 : s = [114, 111, 119]
          · subst c1
            obtain ⟨G, hG⟩ := s_law_is_name hb
            cases hn : nameB b with
            | true =>
              rw [hn] at hG
              exact ⟨1, G, by simp [e, t2, hG], .inl (by simp [sz, wi, isS, hn])⟩
            | false =>
              rw [hn] at hG
              exact ⟨1000, G, by simp [e, t2, hG], .inl (by simp [sz, wi, isS, hn])⟩
          · by_cases c2 : s = [98, 101, 104, 105, 110, 100]
            · subst c2
              obtain ⟨v, G, hv, hs⟩ := ih b S (hb.le (by decide))
              rw [← hd1] at hv
              refine ⟨1 + v, G, by simp [e, t2, hv], ?_⟩
              have : sz (k + 1) (.tup [.str [98, 101, 104, 105, 110, 100], b]) = 1 + sz k b := by simp [sz, wi, isS]
              rw [this]; omega
            · exact ⟨1000, [], by simp [e, t2, c1, c2], .inl (by simp [sz, wi, isS, c1, c2])⟩
        | ref n => exact ⟨1000, [], by simp [e, t2, q, isS], .inl (by simp [sz, wi, isS])⟩
        | fl n => exact ⟨1000, [], by simp [e, t2, q, isS], .inl (by simp [sz, wi, isS])⟩
        | tup n => exact ⟨1000, [], by simp [e, t2, q, isS], .inl (by simp [sz, wi, isS])⟩
        | non => exact ⟨1000, [], by simp [e, t2, q, isS], .inl (by simp [sz, wi, isS])⟩
        | bl n => exact ⟨1000, [], by simp [e, t2, q, isS], .inl (by simp [sz, wi, isS])⟩
        | int n => exact ⟨1000, [], by simp [e, t2, q, isS], .inl (by simp [sz, wi, isS])⟩
      | [a, b, c], h =>
        have hi := h.items
        have ha := hi a (by simp)
        have hb := hi b (by simp)
        have hc := hi c (by simp)
        have q := fun s => eq_str (by decide) ha.dk s
        cases a with
        | raw zz => first | exact ha.dk.noraw.elim | exact hb.dk.noraw.elim | exact h.dk.noraw.elim | exact h.noraw.elim | exact ha.noraw.elim | exact hb.noraw.elim | (exfalso; simp [dat, D.pd] at h1; done) | cases h | (rw [Rep] at r; subst r; rfl)
        | str s =>
          by_cases c1 : s = [122, 105, 112]
          · subst c1
            obtain ⟨v, G, hv, hs⟩ := ih b S (hb.le (by decide))
            obtain ⟨v', G', hv', hs'⟩ := ih c (S ++ G) (hc.app.le (by decide))
            rw [← hd1] at hv hv'
            refine ⟨1 + v + v', G ++ G', by simp [e, t3, hv, hv'], ?_⟩
            have : sz (k + 1) (.tup [.str [122, 105, 112], b, c]) = 1 + (sz k b + sz k c) := by simp [sz, wi, isS]
            rw [this]; omega
          · by_cases c2 : s = [115, 105, 103, 110]
            · subst c2
              have hr := s_inR (S := S) (by decide) hb.dk
              obtain ⟨v, G, hv, hs⟩ := ih c S (hc.le (by decide))
              rw [← hd1] at hv
              cases b with
              | raw zz => first | exact ha.dk.noraw.elim | exact hb.dk.noraw.elim | exact h.dk.noraw.elim | exact h.noraw.elim | exact ha.noraw.elim | exact hb.noraw.elim | (exfalso; simp [dat, D.pd] at h1; done) | cases h | (rw [Rep] at r; subst r; rfl)
              | int i =>
                by_cases g : 0 ≤ i ∧ i ≤ 9
                · refine ⟨1 + v, G, by simp [e, t3, hr, g, hv, inTen], ?_⟩
                  have : sz (k + 1) (.tup [.str [115, 105, 103, 110], .int i, c]) = 1 + sz k c := by simp [sz, wi, isS, sigB, g]
                  rw [this]; omega
                · have g' : (decide (0 ≤ i) && decide (i ≤ 9)) = false := by simp; omega
                  have g2 : ¬ (0 ≤ i ∧ i ≤ 9) := g
                  refine ⟨1000, [], ?_, .inl ?_⟩
                  · simp only [inTen, g'] at hr
                    simp [e, t3, hr]
                  · simp [sz, wi, isS, sigB, g2]
              | bl i =>
                refine ⟨1 + v + 1000, G, by simp [e, t3, hr, hv, inTen], .inr ⟨by omega, by simp [sz, wi, isS, sigB]⟩⟩
              | ref n => exact ⟨1000, [], by simp [e, t3, hr, inTen], .inl (by simp [sz, wi, isS, sigB])⟩
              | fl n => exact ⟨1000, [], by simp [e, t3, hr, inTen], .inl (by simp [sz, wi, isS, sigB])⟩
              | tup n => exact ⟨1000, [], by simp [e, t3, hr, inTen], .inl (by simp [sz, wi, isS, sigB])⟩
              | non => exact ⟨1000, [], by simp [e, t3, hr, inTen], .inl (by simp [sz, wi, isS, sigB])⟩
              | str n => exact ⟨1000, [], by simp [e, t3, hr, inTen], .inl (by simp [sz, wi, isS, sigB])⟩
            · exact ⟨1000, [], by simp [e, t3, c1, c2], .inl (by simp [sz, wi, isS, c1, c2])⟩
        | ref n => exact ⟨1000, [], by simp [e, t3, q, isS], .inl (by simp [sz, wi, isS])⟩
        | fl n => exact ⟨1000, [], by simp [e, t3, q, isS], .inl (by simp [sz, wi, isS])⟩
        | tup n => exact ⟨1000, [], by simp [e, t3, q, isS], .inl (by simp [sz, wi, isS])⟩
        | non => exact ⟨1000, [], by simp [e, t3, q, isS], .inl (by simp [sz, wi, isS])⟩
        | bl n => exact ⟨1000, [], by simp [e, t3, q, isS], .inl (by simp [sz, wi, isS])⟩
        | int n => exact ⟨1000, [], by simp [e, t3, q, isS], .inl (by simp [sz, wi, isS])⟩
      | a :: b :: c :: x :: r, h =>
        have e2' : ¬ ((r.length : Int) + 1 + 1 + 1 + 1 = 2) := by omega
        have e3' : ¬ ((r.length : Int) + 1 + 1 + 1 + 1 = 3) := by omega
        exact ⟨1000, [], by simp [e, e2', e3'], .inl rfl⟩
    | ref n => exact ⟨1000, [], by simp [isi_dat h.dk, tyB], .inl rfl⟩
    | fl n => exact ⟨1000, [], by simp [isi_dat h.dk, tyB], .inl rfl⟩
    | raw n => exact h.dk.noraw.elim
    | _ => exact ⟨1000, [], by simp, .inl rfl⟩
def tot : List (D × Nat) → Nat
  | [] => 0
  | x :: r => sz (11 - x.2) x.1 + tot r
theorem tot_app : ∀ a b : List (D × Nat), tot (a ++ b) = tot a + tot b
  | [], b => by simp [tot]
  | x :: a, b => by simp [tot, tot_app a b]; omega
theorem tot_parts (k : Nat) : ∀ ps : List D, tot ((ps.map fun p => (p, k)).reverse) = (ps.map (sz (11 - k))).sum
  | [] => rfl
  | p :: ps => by simp [tot_app, tot_parts k ps, tot]; omega
theorem sz_pos (k : Nat) (d : D) : 1 ≤ sz k d := by
  cases k with
  | zero => simp [sz]
  | succ k => rw [sz]; split <;> omega
theorem sz_none {d : D} (h : wi d = none) (k : Nat) : sz k d = 1000 := by
  cases k with
  | zero => rfl
  | succ k => rw [sz, h]
theorem Dn.maskApp {k : Nat} {S G T : Store} {o : MO} {d : D} (h : Dn k (S ++ .dct [] :: G) d) : Dn k (S ++ o :: (G ++ T)) d := by
  have := (h.mono (LeL.mask (o := o))).app (G := T)
  simpa using this
@[simp] theorem o_iaddI (i j : Int) (S : Store) : iaddD (.int i) (.int j) S = some (.ok (.int (i + j)) S) := rfl
def stk (x : D × Nat) : D := .tup [x.1, .int x.2]
theorem stk_dk {S : Store} {x : D × Nat} (h : Dn 55 S x.1) : Dk 57 S (stk x) := (Dk.tup (k := 56) fun y hy => by
  simp at hy
  rcases hy with rfl | rfl
  · exact (h.dk.le (by decide))
  · exact Dk.int _)
theorem ext_at {S T : Store} {a b : List D} {j : Nat} (h : T[j]? = some (.lst b)) (hl : a.length + b.length ≤ LINE) : extendF [.ref S.length, .ref (S.length + (j + 1))] (S ++ .lst a :: T) = some (.ok .non (S ++ .lst (a ++ b) :: T)) := by
  have e : (S ++ MO.lst a :: T)[S.length + (j + 1)]? = some (.lst b) := by
    rw [List.getElem?_append_right (by omega), show S.length + (j + 1) - S.length = j + 1 by omega]
    exact h
  simp [extendF, e, hl]
noncomputable abbrev isT : ST := tVal (e2 neD (eVar 1) (eLst []))
theorem term_loop (o0 : Option D) (S : Store) : ∀ (n many : Nat) (st : List (D × Nat)) (G : Store) (o3 o4 o5 o6 : Option D), 21 ≤ many + n → many ≤ 20 → st.length ≤ many + 1 → (∀ x ∈ st, Dn 55 (S ++ .dct [] :: G) x.1) →
    (∃ S', sWh isT (lb_is_term_1 R_within) [o0, some (.ref S.length), some (.int many), o3, o4, o5, o6] (S ++ .lst (st.reverse.map stk) :: G) = some (.rt (.bl false) (S ++ S')) ∧ 20 < many + tot st) ∨
    (∃ S' ρ', sWh isT (lb_is_term_1 R_within) [o0, some (.ref S.length), some (.int many), o3, o4, o5, o6] (S ++ .lst (st.reverse.map stk) :: G) = some (.nx ρ' (S ++ S')) ∧ many + tot st ≤ 20) := by
  intro n
  induction n with
  | zero => intro many st G o3 o4 o5 o6 h h20; omega
  | succ n ih =>
    intro many st G o3 o4 o5 o6 h h20 hl hst
    have hne := ne_nilD (S := S ++ .lst (st.reverse.map stk) :: (G ++ [.lst []])) (a := S.length) (b := S.length + (G.length + 1)) (ds := st.reverse.map stk) (k := 57) (by decide) (by simp) (by simp) (fun d hd => by
      obtain ⟨x, hx, rfl⟩ := List.mem_map.mp hd
      exact stk_dk (hst x (by simpa using hx)).maskApp)
    cases st with
    | nil =>
      right
      refine ⟨.lst [] :: (G ++ [.lst []]), _, sWh_stop (S1 := S ++ .lst [] :: (G ++ [.lst []])) ?_, by simpa [tot] using h20⟩
      simp at hne
      simp [hne]
    | cons x r =>
      obtain ⟨x, deep⟩ := x
      simp at hne
      have hpop := pop_last (S := S ++ .lst (((x, deep) :: r).reverse.map stk) :: (G ++ [.lst []])) (n := S.length) (xs := r.reverse.map stk) (x := stk (x, deep)) (by simp)
      have hset : ∀ y, (S ++ MO.lst (((x, deep) :: r).reverse.map stk) :: (G ++ [.lst []])).set S.length y = S ++ y :: (G ++ [.lst []]) := fun y => by simp
      rw [hset] at hpop
      simp at hpop
      have htest : isT [o0, some (.ref S.length), some (.int many), o3, o4, o5, o6] (S ++ .lst (((x, deep) :: r).reverse.map stk) :: G) = some (.ok true (S ++ .lst (((x, deep) :: r).reverse.map stk) :: (G ++ [.lst []]))) := by
        simp [hne]
      have hx' : Dn 55 (S ++ .lst (r.reverse.map stk) :: (G ++ [.lst []])) x := (hst (x, deep) (by simp)).maskApp
      have hm : (many : Int) + 1 = ((many + 1 : Nat) : Int) := by omega
      simp only [stk] at hpop
      rcases s_within (by decide) hx' with ⟨hw, G1, hG1⟩ | ⟨ps, G1, hw, hG1⟩
      · left
        have := sz_none hw (11 - deep)
        refine ⟨.lst (r.reverse.map stk) :: (G ++ [.lst []] ++ G1), sWh_rt htest ?_, by simp [tot]; omega⟩
        simp at hG1
        simp [lb_is_term_1, stk, hpop, hG1, isD, isNonB]
      by_cases c1 : 10 < deep
      · left
        have e0 : 11 - deep = 0 := by omega
        have c1' : (10 : Int) < deep := by omega
        refine ⟨.lst (r.reverse.map stk) :: (G ++ [.lst []] ++ G1 ++ [.lst ps]), sWh_rt htest ?_, by simp [tot, e0, sz]; omega⟩
        simp at hG1
        simp [lb_is_term_1, stk, hpop, hG1, isD, isNonB, c1', c_MOST_DEEP]
      have c1' : ¬ (10 : Int) < deep := by omega
      by_cases c2 : 20 < many + 1
      · left
        have c2' : (20 : Int) < (many : Int) + 1 := by omega
        have := sz_pos (11 - deep) x
        refine ⟨.lst (r.reverse.map stk) :: (G ++ [.lst []] ++ G1 ++ [.lst ps]), sWh_rt htest ?_, by simp [tot]; omega⟩
        simp at hG1
        simp [lb_is_term_1, stk, hpop, hG1, isD, isNonB, c1', c_MOST_DEEP, c2', c_MOST_TERMS]
      have c2' : ¬ (20 : Int) < (many : Int) + 1 := by omega
      obtain ⟨hp, hp2⟩ := wi_parts hx' hw
      let G2 : Store := G ++ [.lst []] ++ G1 ++ [.lst ps]
      let st' : List (D × Nat) := (ps.map fun p => (p, deep + 1)).reverse ++ r
      have hlc := lcL_map (chk := fun S' => S'[S.length + (G.length + (G1.length + 1) + 1)]? = some (.lst ps)) (g := gName 6) (t := tYes) (e := eTup [eVar 6, e2 addD (eVar 4) (eC (.int 1))]) (S := S ++ .lst (r.reverse.map stk) :: G2) (ρ := [o0, some (.ref S.length), some (.int (many + 1 : Nat)), some x, some (.int deep), some (.ref (S.length + (G.length + (G1.length + 1) + 1))), none])
        (fun d => stk (d, deep + 1)) ps [] (by rw [LINE_eq]; simp; omega) (fun acc => by simp [G2]) (fun y hy acc => ⟨_, rfl, rfl, by simp [stk]⟩)
      have e1 : tot ((x, deep) :: r) + many = tot st' + (many + 1) := by
        have : 11 - deep = (11 - (deep + 1)) + 1 := by omega
        simp only [st', tot_app, tot_parts, tot]
        rw [this, sz, hw]
        dsimp only
        omega
      have step : ∃ o3' o4' o5' o6', sWh isT (lb_is_term_1 R_within) [o0, some (.ref S.length), some (.int many), o3, o4, o5, o6] (S ++ .lst (((x, deep) :: r).reverse.map stk) :: G) = sWh isT (lb_is_term_1 R_within) [o0, some (.ref S.length), some (.int (many + 1 : Nat)), o3', o4', o5', o6'] (S ++ .lst (st'.reverse.map stk) :: (G2 ++ [.lst (ps.map fun d => stk (d, deep + 1))])) := by
        refine ⟨some x, some (.int deep), some (.ref (S.length + (G.length + (G1.length + 1) + 1))), o6, sWh_go htest ?_⟩
        simp at hG1
        simp [G2] at hlc
        have hext := ext_at (S := S) (T := G ++ .lst [] :: (G1 ++ [.lst ps, .lst (ps.map fun d => stk (d, deep + 1))])) (a := (r.map stk).reverse) (b := ps.map fun d => stk (d, deep + 1)) (j := G.length + (G1.length + 1 + 1)) (by simp) (by rw [LINE_eq]; simp at hl ⊢; omega)
        have hst' : (r.map stk).reverse ++ ps.map (fun d => stk (d, deep + 1)) = (st'.map stk).reverse := by simp [st', Function.comp_def]
        rw [hst'] at hext
        have hpop2 : popF [.ref S.length] (S ++ MO.lst ((r.map stk).reverse ++ [stk (x, deep)]) :: (G ++ [MO.lst []])) = some (.ok (.tup [x, .int deep]) (S ++ MO.lst (r.map stk).reverse :: (G ++ [MO.lst []]))) := hpop
        simp [lb_is_term_1, hpop2, hG1, isD, isNonB, c1', c_MOST_DEEP, c2', c_MOST_TERMS, wipe, hlc, hext, G2]
      obtain ⟨o3', o4', o5', o6', step⟩ := step
      have key := ih (many + 1) st' (G2 ++ [.lst (ps.map fun d => stk (d, deep + 1))]) o3' o4' o5' o6' (by omega) (by omega) (by simp [st']; simp at hl; omega) (fun y hy => by
        have : Dn 55 (S ++ .dct [] :: G) y.1 := by
          rcases List.mem_append.mp hy with hy | hy
          · simp at hy
            obtain ⟨p, hp, rfl⟩ := hy
            exact ((wi_parts (hst (x, deep) (by simp)) hw).1 p hp).le (by decide)
          · exact hst y (List.mem_cons_of_mem _ hy)
        have := this.maskApp (o := .dct []) (T := [.lst []] ++ G1 ++ [.lst ps] ++ [.lst (ps.map fun d => stk (d, deep + 1))])
        simpa [G2] using this)
      rw [step]
      have e2' : many + tot ((x, deep) :: r) = many + 1 + tot st' := by omega
      rw [e2']
      exact key
theorem s_is_term {S : Store} {d : D} (h : Dn 55 S d) : ∃ G, R_is_term [d] S = some (.ok (.bl (decide (sz 10 d ≤ 20))) (S ++ G)) := by
  have key := term_loop (some d) S 21 0 [(d, 1)] [] none none none none (by decide) (by decide) (by simp) (fun x hx => by simp at hx; subst hx; exact h.app)
  unfold R_is_term
  rw [run_eq (n := 1) _ _ rfl]
  unfold b_is_term
  rcases key with ⟨S', h1, h2⟩ | ⟨S', ρ', h1, h2⟩
  · have : ¬ sz 10 d ≤ 20 := by simp [tot] at h2; omega
    simp [stk] at h1
    exact ⟨S', by simp [h1, this]⟩
  · have : sz 10 d ≤ 20 := by simp [tot] at h2; omega
    simp [stk] at h1
    exact ⟨S', by simp [h1, this]⟩
end Z
namespace Z
/-- the store without the spring -/
def msk (S : Store) (p c : Nat) : Store := (S.set p (.dct [])).set c (.dct [])
theorem msk_get {S : Store} {p c n : Nat} (hp : n ≠ p) (hc : n ≠ c) : (msk S p c)[n]? = S[n]? := by
  unfold msk
  rw [List.getElem?_set_ne (Ne.symm hc), List.getElem?_set_ne (Ne.symm hp)]
theorem msk_p {S : Store} {p c n : Nat} {xs : List D} (h : (msk S p c)[n]? = some (.lst xs)) : n ≠ p ∧ n ≠ c := by
  unfold msk at h
  constructor
  · rintro rfl
    by_cases hc : c = n
    · subst hc
      rw [List.getElem?_set] at h
      simp at h
    · rw [List.getElem?_set_ne hc, List.getElem?_set] at h
      simp at h
  · rintro rfl
    rw [List.getElem?_set] at h
    simp at h
theorem LeL.fr {S S' : Store} {p c : Nat} (f : Fr p c S S') : LeL (msk S p c) (msk S' p c) := fun n xs h => by
  obtain ⟨h1, h2⟩ := msk_p h
  rw [msk_get h1 h2] at h ⊢
  rw [f.old n (List.getElem?_eq_some_iff.mp h).1 h1 h2]; exact h
def DnL (k : Nat) (S : Store) (ds : List D) : Prop := ∀ d ∈ ds, Dn k S d
theorem DnL.nil {k : Nat} {S : Store} : DnL k S [] := fun _ h => nomatch h
theorem DnL.cons {k : Nat} {S : Store} {d : D} {ds : List D} (h : Dn k S d) (t : DnL k S ds) : DnL k S (d :: ds) := fun x hx => by
  rcases List.mem_cons.mp hx with rfl | hx
  · exact h
  · exact t x hx
theorem Dn.tup {k : Nat} {S : Store} {ds : List D} (h : DnL k S ds) : Dn (k + 1) S (.tup ds) := ⟨Dk.tup fun d hd => (h d hd).dk, by rw [Sh]; exact shL_iff.mpr fun d hd => (h d hd).sh⟩
theorem Dn.ref {k : Nat} {S : Store} {n : Nat} {ds : List D} (hk : k ≤ 60) (g : S[n]? = some (.lst ds)) (h : DnL k S ds) : Dn (k + 1) S (.ref n) := ⟨Dk.lst hk g fun d hd => (h d hd).dk, by simp [Sh]⟩
theorem Dn.int {k : Nat} {S : Store} (i : Int) : Dn k S (.int i) := ⟨Dk.int i, by simp [Sh]⟩
theorem Dn.bl {k : Nat} {S : Store} (i : Bool) : Dn k S (.bl i) := ⟨Dk.bl i, by simp [Sh]⟩
theorem Dn.non {k : Nat} {S : Store} : Dn k S .non := ⟨Dk.non, by simp [Sh]⟩
theorem Dn.str {k : Nat} {S : Store} {s : List Nat} (h : s.length ≤ 1000) : Dn k S (.str s) := ⟨Dk.str s, by rw [Sh]; exact h⟩
theorem sh_tm {names : List (List Nat)} (hn : ∀ s ∈ names, s.length ≤ 8) : ∀ t : Tm, t.In names → Sh t.d
  | .row s, h => by have := hn s h; rw [Tm.d]; simp [Sh, ShL]; omega
  | .sign i t, h => by have := sh_tm hn t h.2; rw [Tm.d]; simp [Sh, ShL]; exact this
  | .beh t, h => by have := sh_tm hn t h; rw [Tm.d]; simp [Sh, ShL]; exact this
  | .zip a b, h => by have := sh_tm hn a h.1; have := sh_tm hn b h.2; rw [Tm.d]; simp [Sh, ShL]; exact ⟨by assumption, this⟩
theorem tm_dn {names : List (List Nat)} (hn : ∀ s ∈ names, s.length ≤ 8) {t : Tm} (h : t.In names) {k : Nat} (hd : t.depth ≤ k) (S : Store) : Dn k S t.d := ⟨⟨t.pd, by unfold dat; rw [Tm.d_pd], by rw [Tm.pd_dep]; exact hd⟩, sh_tm hn t h⟩
def Tm.hd : Tm → List Nat
  | .row _ => wRow
  | .sign _ _ => wSign
  | .beh _ => wBeh
  | .zip _ _ => wZip
def Tm.tl : Tm → List D
  | .row s => [.str s]
  | .sign i t => [.int i, t.d]
  | .beh t => [t.d]
  | .zip a b => [a.d, b.d]
end Z
namespace Z
theorem gjx {S T : Store} {j : Nat} : (S ++ T)[S.length + j]? = T[j]? := by rw [List.getElem?_append_right (by omega)]; congr 1; omega
theorem gjx0 {S T : Store} : (S ++ T)[S.length]? = T[0]? := by rw [List.getElem?_append_right (by omega)]; congr 1; omega
def Tm.rows : Tm → List (List Nat)
  | .row s => [s]
  | .sign _ t => t.rows
  | .beh t => t.rows
  | .zip a b => a.rows ++ b.rows
def Tm.swor : Tm → List (List Nat)
  | .row s => [s]
  | .sign _ t => t.swor
  | .beh t => t.swor
  | .zip a b => b.swor ++ a.swor
def Tm.kids : Tm → List Tm
  | .row _ => []
  | .sign _ t => [t]
  | .beh t => [t]
  | .zip a b => [a, b]
theorem mem_swor {z : List Nat} : ∀ t : Tm, z ∈ t.swor ↔ z ∈ t.rows
  | .row s => Iff.rfl
  | .sign _ t => mem_swor t
  | .beh t => mem_swor t
  | .zip a b => by rw [Tm.swor, Tm.rows, List.mem_append, List.mem_append, mem_swor a, mem_swor b]; exact Or.comm
theorem rows_len : ∀ t : Tm, t.rows.length ≤ t.size
  | .row s => Nat.le_refl _
  | .sign _ t => by have := rows_len t; simp [Tm.rows, Tm.size]; omega
  | .beh t => by have := rows_len t; simp [Tm.rows, Tm.size]; omega
  | .zip a b => by have := rows_len a; have := rows_len b; simp [Tm.rows, Tm.size]; omega
theorem swor_len : ∀ t : Tm, t.swor.length ≤ t.size
  | .row s => Nat.le_refl _
  | .sign _ t => by have := swor_len t; simp [Tm.swor, Tm.size]; omega
  | .beh t => by have := swor_len t; simp [Tm.swor, Tm.size]; omega
  | .zip a b => by have := swor_len a; have := swor_len b; simp [Tm.swor, Tm.size]; omega
theorem wi_tm {names : List (List Nat)} (hn : ∀ s ∈ names, IsNm s) {t : Tm} (h : t.In names) : wi t.d = some (t.kids.map Tm.d) := by
  cases t with
  | row s =>
    have := nmB_is (hn s h)
    simp [wi, Tm.d, isS, nameB, this, Tm.kids, wRow]
  | sign i t =>
    have : i < 10 := h.1
    simp [wi, Tm.d, isS, Tm.kids, wRow, wBeh, wSign, sigB]
    omega
  | beh t => simp [wi, Tm.d, isS, Tm.kids, wRow, wBeh]
  | zip a b => simp [wi, Tm.d, isS, Tm.kids, wRow, wBeh, wSign, wZip]
def Tm.one : Tm → List (List Nat)
  | .row s => [s]
  | _ => []
/-- the rows of a stack, its top first -/
def allRows : List Tm → List (List Nat)
  | [] => []
  | t :: r => t.swor ++ allRows r
theorem kids_rows (t : Tm) (r : List Tm) : allRows (t :: r) = t.one ++ allRows (t.kids.reverse ++ r) := by
  cases t <;> simp [allRows, Tm.swor, Tm.kids, Tm.one]
theorem kids_size (t : Tm) (r : List Tm) : sizes (t.kids.reverse ++ r) + 1 = sizes (t :: r) := by
  cases t <;> simp [sizes, Tm.size, Tm.kids] <;> omega
noncomputable abbrev namesT : ST := tVal (e2 neD (eVar 2) (eLst []))
theorem names_loop {names : List (List Nat)} (hn : ∀ s ∈ names, IsNm s) (hn8 : ∀ s ∈ names, s.length ≤ 8) (S : Store) (o0 : Option D) : ∀ (n : Nat) (st : List Tm) (ws : List (List Nat)) (G : Store) (o3 : Option D), sizes st ≤ n → sizes st ≤ 60 → ws.length + sizes st ≤ 60 → (∀ t ∈ st, t.depth ≤ 50 ∧ t.In names) →
    ∃ G' o3', sWh namesT (lb_names_in_1 R_within) [o0, some (.ref S.length), some (.ref (S.length + 1)), o3] (S ++ .lst (ws.map .str) :: .lst ((st.reverse).map Tm.d) :: G) =
      some (.nx [o0, some (.ref S.length), some (.ref (S.length + 1)), o3'] (S ++ .lst ((ws ++ allRows st).map .str) :: .lst [] :: G')) := by
  intro n
  have test : ∀ (st : List Tm) (ws : List (List Nat)) (G : Store) (o3 : Option D), (∀ t ∈ st, t.depth ≤ 50 ∧ t.In names) → namesT [o0, some (.ref S.length), some (.ref (S.length + 1)), o3] (S ++ .lst (ws.map .str) :: .lst ((st.reverse).map Tm.d) :: G) = some (.ok (!st.isEmpty) (S ++ .lst (ws.map .str) :: .lst ((st.reverse).map Tm.d) :: (G ++ [.lst []]))) := by
    intro st ws G o3 hst
    have := ne_nil_tm (S := S ++ .lst (ws.map .str) :: .lst ((st.reverse).map Tm.d) :: (G ++ [.lst []])) (a := S.length + 1) (b := S.length + (G.length + 1 + 1)) (ts := st.reverse) (by simp) (by simp) (fun t ht => by have := (hst t (by simpa using ht)).1; omega)
    simp at this
    simp [this]
  induction n with
  | zero =>
    intro st ws G o3 h _ _ hst
    have : st = [] := by
      cases st with
      | nil => rfl
      | cons t r => have := size_pos t; simp [sizes] at h; omega
    subst this
    refine ⟨G ++ [.lst []], o3, ?_⟩
    rw [sWh_stop (by rw [test [] ws G o3 hst]; rfl)]
    simp [allRows]
  | succ n ih =>
    intro st ws G o3 h h1 h2 hst
    cases st with
    | nil =>
      refine ⟨G ++ [.lst []], o3, ?_⟩
      rw [sWh_stop (by rw [test [] ws G o3 hst]; rfl)]
      simp [allRows]
    | cons t r =>
      have ht := test (t :: r) ws G o3 hst
      obtain ⟨hd, hi⟩ := hst t (by simp)
      have hr := fun x hx => hst x (List.mem_cons_of_mem t hx)
      have hks := kids_size t r
      let ws' : List (List Nat) := ws ++ t.one
      have hone : t.one.length ≤ 1 := by cases t <;> simp [Tm.one]
      let G1 : Store := G ++ [.lst []]
      let B : Store := S ++ .lst (ws'.map .str) :: .lst (r.reverse.map Tm.d) :: G1
      obtain ⟨G2, hw⟩ : ∃ G2, R_within [t.d] B = some (.ok (.ref (B ++ G2).length) (B ++ G2 ++ [.lst (t.kids.map Tm.d)])) := by
        have hdn : Dn 50 B t.d := tm_dn hn8 hi hd B
        rcases s_within (by decide) hdn with ⟨hno, _⟩ | ⟨ps, G2, hps, e⟩
        · rw [wi_tm hn hi] at hno; cases hno
        · rw [wi_tm hn hi] at hps; cases hps; exact ⟨G2, e⟩
      have hrl : ∀ l : List Tm, l.length ≤ sizes l := fun l => by
        induction l with
        | nil => exact Nat.le_refl _
        | cons a r ih => have := size_pos a; simp [sizes]; omega
      have hkl : t.kids.length ≤ 2 := by cases t <;> simp [Tm.kids]
      have hsz : sizes (t.kids.reverse ++ r) ≤ 60 := by omega
      have hrL := hrl (t.kids.reverse ++ r)
      have hkid : ∀ x ∈ t.kids.reverse ++ r, x.depth ≤ 50 ∧ x.In names := fun x hx => by
        rcases List.mem_append.mp hx with hx | hx
        · cases t with
          | row s => simp [Tm.kids] at hx
          | sign i t => simp [Tm.kids] at hx; subst hx; exact ⟨by simp [Tm.depth] at hd; omega, hi.2⟩
          | beh t => simp [Tm.kids] at hx; subst hx; exact ⟨by simp [Tm.depth] at hd; omega, hi⟩
          | zip a b =>
            simp [Tm.kids] at hx
            rcases hx with rfl | rfl
            · exact ⟨by simp [Tm.depth] at hd; omega, hi.2⟩
            · exact ⟨by simp [Tm.depth] at hd; omega, hi.1⟩
        · exact hr x hx
      obtain ⟨G', o3', hx⟩ := ih (t.kids.reverse ++ r) ws' (G1 ++ G2 ++ [.lst (t.kids.map Tm.d)]) (some t.d) (by omega) hsz (by
        simp only [ws', List.length_append]
        omega) hkid
      refine ⟨G', o3', ?_⟩
      rw [kids_rows, ← List.append_assoc]
      rw [← hx]
      refine sWh_go (S1 := S ++ .lst (ws.map .str) :: .lst ((t :: r).reverse.map Tm.d) :: G1) ht ?_
      have hpop := pop_last (S := S ++ .lst (ws.map .str) :: .lst ((t :: r).reverse.map Tm.d) :: G1) (n := S.length + 1) (xs := r.reverse.map Tm.d) (x := t.d) (by simp)
      have hset : ∀ x, (S ++ MO.lst (ws.map .str) :: .lst ((t :: r).reverse.map Tm.d) :: G1).set (S.length + 1) x = S ++ .lst (ws.map .str) :: x :: G1 := fun x => by simp
      rw [hset] at hpop
      have hwL : ws.length < LINE := by rw [LINE_eq]; omega
      have hL2 : r.length + t.kids.length ≤ LINE := by rw [LINE_eq]; simp at hrL; omega
      have hget0 : ∀ (X Y : List D) (T : Store), (S ++ (MO.lst X :: MO.lst Y :: T))[S.length]? = some (.lst X) := fun X Y T => by rw [gjx0]; rfl
      have hget1 : ∀ (X Y : List D) (T : Store), (S ++ (MO.lst X :: MO.lst Y :: T))[S.length + 1]? = some (.lst Y) := fun X Y T => by rw [gjx]; rfl
      have hrc0 : ∀ (X Y : List D) (T : Store), rcB (S ++ (MO.lst X :: MO.lst Y :: T)) .list (.ref S.length) = true := fun X Y T => by rw [o_rcr, hget0]
      have hrc1 : ∀ (X Y : List D) (T : Store), rcB (S ++ (MO.lst X :: MO.lst Y :: T)) .list (.ref (S.length + 1)) = true := fun X Y T => by rw [o_rcr, hget1]
      have hext : extendF [.ref (S.length + 1), .ref (B ++ G2).length] (B ++ G2 ++ [.lst (t.kids.map Tm.d)]) = some (.ok .non (S ++ .lst (ws'.map .str) :: .lst ((t.kids.reverse ++ r).reverse.map Tm.d) :: (G1 ++ G2 ++ [.lst (t.kids.map Tm.d)]))) := by
        have a1 : (B ++ G2 ++ [MO.lst (t.kids.map Tm.d)])[S.length + 1]? = some (.lst (r.reverse.map Tm.d)) := get_app (get_app (hget1 _ _ _) _) _
        have a2 : (B ++ G2 ++ [MO.lst (t.kids.map Tm.d)])[(B ++ G2).length]? = some (.lst (t.kids.map Tm.d)) := by rw [gjx0]; rfl
        have a3 : (B ++ G2 ++ [MO.lst (t.kids.map Tm.d)]).set (S.length + 1) (.lst (r.reverse.map Tm.d ++ t.kids.map Tm.d)) = S ++ .lst (ws'.map .str) :: .lst ((t.kids.reverse ++ r).reverse.map Tm.d) :: (G1 ++ G2 ++ [.lst (t.kids.map Tm.d)]) := by simp [B]
        unfold extendF
        dsimp only
        rw [a1, a2]
        dsimp only
        rw [if_pos (by simpa using hL2), a3]
      have hif : sIf (tVal (e2 eqD (e2 ixD (eVar 3) (eC (.int 0))) (eC (.str wRow)))) (sExp (eMt .list appendF (eVar 1) [e2 ixD (eVar 3) (eC (.int 1))])) (sNx) [o0, some (.ref S.length), some (.ref (S.length + 1)), some t.d] (S ++ .lst (ws.map .str) :: .lst (r.reverse.map Tm.d) :: G1) = some (.nx [o0, some (.ref S.length), some (.ref (S.length + 1)), some t.d] B) := by
        have a1 : ∀ a b : D, atI [a, b] 1 = some b := fun a b => by simp [atI, ixN]
        cases t with
        | row s => simp [-o_rcr, hrc0, Tm.d, at0, a1, hget0, hwL, B, ws', Tm.one, -getElem?_pos, List.getElem?_cons_zero, List.getElem?_cons_succ]
        | sign i t => simp [Tm.d, at0, B, ws', Tm.one]
        | beh t => simp [Tm.d, at0, B, ws', Tm.one]
        | zip a b => simp [Tm.d, at0, B, ws', Tm.one]
      have hpop' : popF [.ref (S.length + 1)] (S ++ .lst (ws.map .str) :: .lst ((t :: r).reverse.map Tm.d) :: G1) = some (.ok t.d (S ++ .lst (ws.map .str) :: .lst (r.reverse.map Tm.d) :: G1)) := hpop
      have hrcB : rcB B .list (.ref (S.length + 1)) = true := hrc1 _ _ _
      have step1 : sAsg (eMt .list popF (eVar 2) []) (gName 3) [o0, some (.ref S.length), some (.ref (S.length + 1)), o3] (S ++ .lst (ws.map .str) :: .lst ((t :: r).reverse.map Tm.d) :: G1) = some (.nx [o0, some (.ref S.length), some (.ref (S.length + 1)), some t.d] (S ++ .lst (ws.map .str) :: .lst (r.reverse.map Tm.d) :: G1)) := by
        have := hrc1 (ws.map .str) ((t :: r).reverse.map Tm.d) G1
        simp [-o_rcr] at this hpop' ⊢
        simp [-o_rcr, this, hpop']
      have step3 : sExp (eMt .list extendF (eVar 2) [eCall R_within [eVar 3]]) [o0, some (.ref S.length), some (.ref (S.length + 1)), some t.d] B = some (.nx [o0, some (.ref S.length), some (.ref (S.length + 1)), some t.d] (S ++ .lst (ws'.map .str) :: .lst ((t.kids.reverse ++ r).reverse.map Tm.d) :: (G1 ++ G2 ++ [.lst (t.kids.map Tm.d)]))) := by
        clear_value B
        simp only [x_exp, x_mt, x_var, List.getElem?_cons_zero, List.getElem?_cons_succ, bd_ok, hrcB, if_true, x_cons, x_nil, x_call, hw, hext, bo_ok]
      unfold lb_names_in_1
      rw [x_sq, step1]
      dsimp only
      rw [x_sq, hif]
      dsimp only
      rw [step3]
theorem sortU_ext {a b : List (List Nat)} (h : ∀ x, x ∈ a ↔ x ∈ b) : sortU a = sortU b := strict_eq (sortU_strict a) (sortU_strict b) fun x => by rw [sortU_mem, sortU_mem]; exact h x
theorem s_names_in {names : List (List Nat)} (hn : ∀ s ∈ names, IsNm s) {t : Tm} (hi : t.In names) (hd : t.depth ≤ 50) (hz : t.size ≤ 60) (S : Store) : ∃ (l : Nat) (G : Store), R_names_in [t.d] S = some (.ok (.ref l) (S ++ G)) ∧ (S ++ G)[l]? = some (.lst ((sortU t.rows).map .str)) ∧ S.length ≤ l := by
  obtain ⟨G', o3', h⟩ := names_loop hn (fun s h => (hn s h).l8) S (some t.d) t.size [t] [] [] none (by simp [sizes]) (by simpa [sizes] using hz) (by simpa [sizes] using hz) (fun x hx => by simp at hx; subst hx; exact ⟨hd, hi⟩)
  have har : allRows [t] = t.swor := by simp [allRows]
  rw [har, List.nil_append] at h
  have hsl := swor_len t
  have hg : (S ++ MO.lst (t.swor.map D.str) :: .lst [] :: G')[S.length]? = some (.lst (t.swor.map .str)) := by rw [gjx0]; rfl
  have hs := sset_of hg (by omega)
  rw [sortU_ext fun x => mem_swor t] at hs
  refine ⟨(S ++ MO.lst (t.swor.map D.str) :: .lst [] :: G').length, .lst (t.swor.map .str) :: .lst [] :: (G' ++ [.lst ((sortU t.rows).map .str)]), ?_, ?_, by simp⟩
  · unfold R_names_in
    rw [run_eq (n := 1) _ _ rfl]
    unfold b_names_in
    simp at h hs
    simp [h, hs]
  · have := gjx0 (S := S ++ MO.lst (t.swor.map D.str) :: .lst [] :: G') (T := [MO.lst ((sortU t.rows).map D.str)])
    simpa using this
theorem add_lists {S : Store} {a b : Nat} {xs ys : List (List Nat)} (ha : S[a]? = some (.lst (xs.map .str))) (hb : S[b]? = some (.lst (ys.map .str))) (hl : xs.length + ys.length ≤ 1000) : addD (.ref a) (.ref b) S = some (.ok (.ref S.length) (S ++ [.lst ((xs ++ ys).map .str)])) := by
  rw [o_addr, ha, hb]
  dsimp only
  rw [if_pos (by rw [LINE_eq]; simp; omega)]
  simp
/-- one part of a term -/
theorem met_part {d : Nat} {t : Tm} {S : Store} {f : Nat} {ws : List (List Nat)} {o0 o2 : Option D} (hf : S[f]? = some (.lst (ws.map .str))) (ht : ∃ (l : Nat) (G : Store), R_law_met d [t.d] S = some (.ok (.ref l) (S ++ G)) ∧ (S ++ G)[l]? = some (.lst (t.rows.map .str))) (hl : ws.length + t.size ≤ 900) :
    ∃ (f' : Nat) (G : Store), lb_law_met_1 (R_law_met d) [o0, some (.ref f), some t.d] S = some (.nx [o0, some (.ref f'), some t.d] (S ++ G)) ∧ (S ++ G)[f']? = some (.lst ((ws ++ t.rows).map .str)) := by
  obtain ⟨l, G, e, hg⟩ := ht
  have := rows_len t
  have ha := add_lists (get_app hf G) hg (by omega)
  refine ⟨(S ++ G).length, G ++ [.lst ((ws ++ t.rows).map .str)], ?_, ?_⟩
  · have hi := isi_tm t S
    simp at ha
    simp [lb_law_met_1, hi, e, ha]
  · rw [← List.append_assoc, gjx0]; rfl
theorem s_law_met : ∀ (t : Tm) (d : Nat) (S : Store), t.depth ≤ d → t.size ≤ 60 → ∃ (l : Nat) (G : Store), R_law_met d [t.d] S = some (.ok (.ref l) (S ++ G)) ∧ (S ++ G)[l]? = some (.lst (t.rows.map .str))
  | t, 0, S, h, _ => by cases t <;> simp [Tm.depth] at h
  | .row s, d + 1, S, h, _ => by
    refine ⟨S.length, [.lst [.str s]], ?_, by rw [gjx0]; rfl⟩
    unfold R_law_met
    rw [run_eq (n := 1) _ _ rfl]
    unfold b_law_met
    have a1 : ∀ a b : D, atI [a, b] 1 = some b := fun a b => by simp [atI, ixN]
    simp [Tm.d, at0, a1]
  | .sign i t, d + 1, S, h, hz => by
    simp [Tm.depth] at h
    simp [Tm.size] at hz
    have hf0 : (S ++ [MO.lst []])[S.length]? = some (.lst (([] : List (List Nat)).map .str)) := by rw [gjx0]; rfl
    obtain ⟨f, G, e, hg⟩ := met_part (t := t) (d := d) (o0 := some (Tm.sign i t).d) (o2 := none) hf0 (s_law_met t d _ (by omega) (by omega)) (by simp; omega)
    refine ⟨f, .lst [] :: G, ?_, by simpa [Tm.rows] using hg⟩
    have hfor : forL (fun _ => True) (gName 2) (lb_law_met_1 (R_law_met d)) [.int i, t.d] [some (Tm.sign i t).d, some (.ref S.length), none] (S ++ [.lst []]) = some (.nx [some (Tm.sign i t).d, some (.ref f), some t.d] (S ++ [.lst []] ++ G)) := by
      rw [forL_cons (S1 := S ++ [.lst []]) trivial rfl (ρ1 := [some (Tm.sign i t).d, some (.ref S.length), some (.int i)]) (ρ2 := [some (Tm.sign i t).d, some (.ref S.length), some (.int i)]) (S2 := S ++ [.lst []]) (by simp [lb_law_met_1])]
      rw [forL_cons (S1 := S ++ [.lst []]) trivial rfl e, forL_nil trivial]
    unfold R_law_met
    rw [run_eq (n := 1) _ _ rfl]
    unfold b_law_met
    simp [Tm.d] at hfor
    simp [Tm.d, at0, slD, cut, sIx, hfor]
  | .beh t, d + 1, S, h, hz => by
    simp [Tm.depth] at h
    simp [Tm.size] at hz
    have hf0 : (S ++ [MO.lst []])[S.length]? = some (.lst (([] : List (List Nat)).map .str)) := by rw [gjx0]; rfl
    obtain ⟨f, G, e, hg⟩ := met_part (t := t) (d := d) (o0 := some (Tm.beh t).d) (o2 := none) hf0 (s_law_met t d _ (by omega) (by omega)) (by simp; omega)
    refine ⟨f, .lst [] :: G, ?_, by simpa [Tm.rows] using hg⟩
    have hfor : forL (fun _ => True) (gName 2) (lb_law_met_1 (R_law_met d)) [t.d] [some (Tm.beh t).d, some (.ref S.length), none] (S ++ [.lst []]) = some (.nx [some (Tm.beh t).d, some (.ref f), some t.d] (S ++ [.lst []] ++ G)) := by
      rw [forL_cons (S1 := S ++ [.lst []]) trivial rfl e, forL_nil trivial]
    unfold R_law_met
    rw [run_eq (n := 1) _ _ rfl]
    unfold b_law_met
    simp [Tm.d] at hfor
    simp [Tm.d, at0, slD, cut, sIx, hfor]
  | .zip a b, d + 1, S, h, hz => by
    simp [Tm.depth] at h
    simp [Tm.size] at hz
    have hf0 : (S ++ [MO.lst []])[S.length]? = some (.lst (([] : List (List Nat)).map .str)) := by rw [gjx0]; rfl
    obtain ⟨f, G, e, hg⟩ := met_part (t := a) (d := d) (o0 := some (Tm.zip a b).d) (o2 := none) hf0 (s_law_met a d _ (by omega) (by omega)) (by simp; omega)
    have := rows_len a
    obtain ⟨f2, G2, x, hg2⟩ := met_part (t := b) (d := d) (o0 := some (Tm.zip a b).d) (o2 := none) hg (s_law_met b d _ (by omega) (by omega)) (by simp; omega)
    refine ⟨f2, .lst [] :: (G ++ G2), ?_, by simpa [Tm.rows] using hg2⟩
    have hfor : forL (fun _ => True) (gName 2) (lb_law_met_1 (R_law_met d)) [a.d, b.d] [some (Tm.zip a b).d, some (.ref S.length), none] (S ++ [.lst []]) = some (.nx [some (Tm.zip a b).d, some (.ref f2), some b.d] (S ++ [.lst []] ++ G ++ G2)) := by
      rw [forL_cons (S1 := S ++ [.lst []]) trivial rfl e, forL_cons (S1 := S ++ [.lst []] ++ G) trivial rfl x, forL_nil trivial]
    unfold R_law_met
    rw [run_eq (n := 1) _ _ rfl]
    unfold b_law_met
    simp [Tm.d] at hfor
    simp [Tm.d, at0, slD, cut, sIx, hfor]
theorem pdL_strs (g : Nat → Option PD) : ∀ xs : List (List Nat), pdL g (xs.map D.str) = some (xs.map PD.str)
  | [] => rfl
  | x :: xs => by rw [List.map_cons, pdL, pdL_strs g xs]; simp [D.pd]
theorem dat_strs {S : Store} {n : Nat} {xs : List (List Nat)} (h : S[n]? = some (.lst (xs.map .str))) : dat S (.ref n) = some (.lst (xs.map PD.str)) := by
  unfold dat
  rw [D.pd, rdR, h]
  dsimp only
  rw [pdL_strs]; rfl
theorem depL_strs : ∀ xs : List (List Nat), depL (xs.map PD.str) ≤ 1
  | [] => by simp [depL]
  | x :: xs => by have := depL_strs xs; simp [depL, PD.dep] at this ⊢; omega
theorem ni_strs {S : Store} {n : Nat} {s : List Nat} {xs : List (List Nat)} (h : S[n]? = some (.lst (xs.map .str))) : ninD (.str s) (.ref n) S = some (.ok (.bl (!decide (s ∈ xs))) S) := by
  have e1 : dat S (.str s) = some (.str s) := by simp [dat, D.pd]
  have d2 : (PD.lst (xs.map PD.str)).dep ≤ 64 := by have := depL_strs xs; rw [PD.dep]; omega
  have d1 : (PD.str s).dep ≤ 64 := by simp [PD.dep]
  have e : inB (.str s) (.ref n) S = some (decide (s ∈ xs)) := by
    unfold inB
    dsimp only
    rw [e1, dat_strs h]
    dsimp only
    rw [if_pos ⟨d1, d2⟩, List.any_map]
    congr 1
    rw [Bool.eq_iff_iff]
    simp [PD.eqv, Function.comp_def]
  unfold ninD
  rw [e]
end Z
namespace Z
theorem nd_le : ∀ {a b : List (List Nat)}, a.Nodup → (∀ x ∈ a, x ∈ b) → a.length ≤ b.length
  | [], _, _, _ => Nat.zero_le _
  | x :: a, b, h, s => by
    have hx : x ∈ b := s x (by simp)
    have hn := List.nodup_cons.mp h
    have := nd_le (b := b.erase x) hn.2 fun y hy => (List.mem_erase_of_ne (fun e => hn.1 (by rw [← e]; exact hy))).mpr (s y (List.mem_cons_of_mem _ hy))
    rw [List.length_erase_of_mem hx] at this
    have := List.length_pos_of_mem hx
    rw [List.length_cons]
    omega
theorem not_nd : ∀ {ws : List (List Nat)}, ¬ ws.Nodup → ∃ ws' : List (List Nat), ws'.length + 1 = ws.length ∧ ∀ x ∈ ws, x ∈ ws'
  | [], h => absurd List.nodup_nil h
  | x :: r, h => by
    by_cases hx : x ∈ r
    · exact ⟨r, rfl, fun y hy => by rcases List.mem_cons.mp hy with rfl | hy <;> assumption⟩
    · obtain ⟨r', h1, h2⟩ := not_nd (ws := r) fun e => h (List.nodup_cons.mpr ⟨hx, e⟩)
      exact ⟨x :: r', by simp [h1], fun y hy => by
        rcases List.mem_cons.mp hy with rfl | hy
        · simp
        · exact List.mem_cons_of_mem _ (h2 y hy)⟩
theorem strict_nd {ws : List (List Nat)} (h : Strict ws) : ws.Nodup := List.Pairwise.imp (fun {a b} hab e => by subst e; revert hab; exact fun hab => by rw [ltN_irr] at hab; cases hab) h
theorem sortU_nd (ws : List (List Nat)) : (sortU ws).length < ws.length ↔ ¬ ws.Nodup := by
  have hs := strict_nd (sortU_strict ws)
  constructor
  · intro h hn
    have := nd_le (b := sortU ws) hn fun x hx => (sortU_mem ..).mpr hx
    omega
  · intro h
    obtain ⟨ws', h1, h2⟩ := not_nd h
    have := nd_le (b := ws') hs fun x hx => h2 x ((sortU_mem ..).mp hx)
    omega
theorem is_nmB {s : List Nat} (h : nmB s = true) : IsNm s := by
  simp [nmB, azB] at h
  exact ⟨h.1.1.1.1, h.1.1.1.2, fun k hk => h.2 k hk, h.1.1.2, h.1.2⟩
theorem is_name {d : D} (h : nameB d = true) : ∃ s, d = .str s ∧ IsNm s := by
  cases d with
  | str s => exact ⟨s, rfl, is_nmB h⟩
  | _ => cases h
theorem Tm.In.mono {a b : List (List Nat)} (h : ∀ s ∈ a, s ∈ b) : ∀ {t : Tm}, t.In a → t.In b
  | .row s, i => h s i
  | .sign _ t, i => ⟨i.1, Tm.In.mono h i.2⟩
  | .beh t, i => Tm.In.mono (t := t) h i
  | .zip a b, i => ⟨Tm.In.mono h i.1, Tm.In.mono h i.2⟩
/-- a term's own look -/
structure TmOk (t : Tm) : Prop where
  inn : t.In t.rows
  ok : ∀ s ∈ t.rows, IsNm s
theorem tmOk_row {s : List Nat} (h : IsNm s) : TmOk (.row s) := ⟨by simp [Tm.In, Tm.rows], fun x hx => by simp [Tm.rows] at hx; subst hx; exact h⟩
theorem tmOk_zip {a b : Tm} (ha : TmOk a) (hb : TmOk b) : TmOk (.zip a b) := ⟨⟨ha.inn.mono fun s h => by simp [Tm.rows, h], hb.inn.mono fun s h => by simp [Tm.rows, h]⟩, fun s hs => by
  rcases List.mem_append.mp hs with h | h
  · exact ha.ok s h
  · exact hb.ok s h⟩
theorem tmOk_in {names : List (List Nat)} (hn : ∀ s ∈ names, IsNm s) : ∀ {t : Tm}, t.In names → TmOk t
  | .row s, i => tmOk_row (hn s i)
  | .sign _ t, i => ⟨⟨i.1, (tmOk_in hn i.2).inn⟩, (tmOk_in hn i.2).ok⟩
  | .beh t, i => ⟨(tmOk_in (t := t) hn i).inn, (tmOk_in (t := t) hn i).ok⟩
  | .zip a b, i => tmOk_zip (tmOk_in hn i.1) (tmOk_in hn i.2)
theorem sz_tm : ∀ (k : Nat) (t : Tm), TmOk t → t.depth ≤ k → sz k t.d = t.size
  | 0, t, _, h => by cases t <;> simp [Tm.depth] at h
  | k + 1, t, o, h => by
    rw [sz, wi_tm o.ok o.inn]
    cases t with
    | row s => simp [Tm.kids, Tm.size]
    | sign i t =>
      simp [Tm.depth] at h
      simp [Tm.kids, Tm.size, sz_tm k t (tmOk_in o.ok o.inn.2) h]
    | beh t =>
      simp [Tm.depth] at h
      simp [Tm.kids, Tm.size, sz_tm k t (tmOk_in o.ok (t := t) o.inn) h]
    | zip a b =>
      simp [Tm.depth] at h
      simp [Tm.kids, Tm.size, sz_tm k a (tmOk_in o.ok o.inn.1) (by omega), sz_tm k b (tmOk_in o.ok o.inn.2) (by omega)]
theorem sz_is : ∀ (k : Nat) (d : D), sz k d < 1000 → ∃ t : Tm, d = t.d ∧ TmOk t ∧ t.size = sz k d ∧ t.depth ≤ k
  | 0, d, h => by simp [sz] at h
  | k + 1, d, h => by
    cases e : wi d with
    | none => rw [sz_none e] at h; omega
    | some ps =>
      have hs : sz (k + 1) d = 1 + (ps.map (sz k)).sum := by rw [sz, e]
      rw [hs] at h ⊢
      unfold wi at e
      split at e
      · rename_i a b
        split at e
        · rename_i c
          cases e
          simp only [Bool.and_eq_true] at c
          obtain ⟨s, rfl, hn⟩ := is_name c.2
          rw [isS_str c.1]
          exact ⟨.row s, rfl, tmOk_row hn, by simp [Tm.size], by simp [Tm.depth]⟩
        · split at e
          · rename_i c
            cases e
            simp at h
            obtain ⟨t, rfl, o, h1, h2⟩ := sz_is k b (by omega)
            rw [isS_str c]
            exact ⟨.beh t, rfl, ⟨o.inn, o.ok⟩, by simp [Tm.size, h1], by simp [Tm.depth, h2]⟩
          · cases e
      · rename_i a b c
        split at e
        · rename_i g
          cases e
          simp at h
          simp only [Bool.and_eq_true] at g
          obtain ⟨t, rfl, o, h1, h2⟩ := sz_is k c (by omega)
          rw [isS_str g.1]
          cases b with
          | int i =>
            have gi := g.2
            simp [sigB] at gi
            refine ⟨.sign i.toNat t, ?_, ⟨⟨by omega, o.inn⟩, o.ok⟩, by simp [Tm.size, h1], by simp [Tm.depth, h2]⟩
            have : ((i.toNat : Nat) : Int) = i := by omega
            simp [Tm.d, this]
          | _ => cases g.2
        · split at e
          · rename_i g
            cases e
            simp at h
            obtain ⟨t, rfl, o, h1, h2⟩ := sz_is k b (by omega)
            obtain ⟨u, rfl, o', h1', h2'⟩ := sz_is k c (by omega)
            rw [isS_str g]
            exact ⟨.zip t u, rfl, tmOk_zip o o', by simp [Tm.size, h1, h1'], by simp [Tm.depth]; omega⟩
          · cases e
      · cases e
structure Eqn (e : List Nat × Tm) : Prop where
  nm : IsNm e.1
  tm : TmOk e.2
  size : e.2.size ≤ 20
  depth : e.2.depth ≤ 10
def eqnB : D → Bool
  | .tup [a, b] => nameB a && decide (sz 10 b ≤ 20)
  | _ => false
theorem eqnB_ent {e : List Nat × Tm} (h : Eqn e) : eqnB (ent e) = true := by
  have := sz_tm 10 e.2 h.tm h.depth
  have := h.size
  simp [eqnB, ent, nameB, nmB_is h.nm]
  omega
theorem eqn_of {d : D} (h : eqnB d = true) : ∃ e, d = ent e ∧ Eqn e := by
  unfold eqnB at h
  split at h
  · rename_i a b
    simp only [Bool.and_eq_true, decide_eq_true_eq] at h
    obtain ⟨s, rfl, hs⟩ := is_name h.1
    obtain ⟨t, rfl, o, h1, h2⟩ := sz_is 10 b (by omega)
    exact ⟨(s, t), rfl, hs, o, by show t.size ≤ 20; omega, h2⟩
  · cases h
theorem eqns_of : ∀ {ds : List D}, ds.all eqnB = true → ∃ es : List (List Nat × Tm), ds = es.map ent ∧ ∀ e ∈ es, Eqn e
  | [], _ => ⟨[], rfl, fun e h => by cases h⟩
  | d :: ds, h => by
    rw [List.all_cons, Bool.and_eq_true] at h
    obtain ⟨e, rfl, he⟩ := eqn_of h.1
    obtain ⟨es, rfl, hes⟩ := eqns_of h.2
    exact ⟨e :: es, rfl, fun x hx => by
      rcases List.mem_cons.mp hx with rfl | hx
      · exact he
      · exact hes x hx⟩
theorem s_is_equation {S : Store} {d : D} (h : Dn 56 S d) : ∃ G, R_is_equation [d] S = some (.ok (.bl (eqnB d)) (S ++ G)) := by
  unfold R_is_equation
  rw [run_eq (n := 1) _ _ rfl]
  unfold b_is_equation
  by_cases ht : ∃ ds, d = .tup ds
  · obtain ⟨ds, rfl⟩ := ht
    by_cases h2 : ds.length = 2
    · obtain ⟨a, b, rfl⟩ : ∃ a b, ds = [a, b] := by
        match ds, h2 with
        | [a, b], _ => exact ⟨a, b, rfl⟩
      have it := h.items
      obtain ⟨G, e1⟩ := s_is_name (it a (by simp))
      obtain ⟨G2, e2⟩ := s_is_term (S := S ++ G) ((it b (by simp)).app)
      have a1 : atI [a, b] 1 = some b := by simp [atI, ixN]
      cases c : nameB a
      · exact ⟨G, by simp [at0, e1, c, eqnB]⟩
      · exact ⟨G ++ G2, by simp [at0, a1, e1, c, e2, eqnB]⟩
    · have h2' : ¬ (ds.length : Int) = 2 := by omega
      refine ⟨[], ?_⟩
      have : eqnB (.tup ds) = false := by
        unfold eqnB
        split
        · rename_i hh; cases hh; simp at h2
        · rfl
      simp [this, h2']
  · refine ⟨[], ?_⟩
    cases d with
    | tup ds => exact absurd ⟨ds, rfl⟩ ht
    | ref n => simp [isi_dat h.dk, tyB, eqnB]
    | fl xs => simp [isi_dat h.dk, tyB, eqnB]
    | raw n => exact h.dk.noraw.elim
    | _ => simp [tyB, eqnB]
end Z
namespace Z
theorem in_strs {S : Store} {n : Nat} {s : List Nat} {xs : List (List Nat)} (h : S[n]? = some (.lst (xs.map .str))) : inD (.str s) (.ref n) S = some (.ok (.bl (decide (s ∈ xs))) S) := by
  have e := ni_strs (s := s) h
  unfold ninD at e
  unfold inD
  cases c : inB (.str s) (.ref n) S with
  | none => rw [c] at e; cases e
  | some b =>
    rw [c] at e
    simp at e
    simp [e]
structure IsBook (es : List (List Nat × Tm)) : Prop where
  len : es.length ≤ 8
  eqn : ∀ e ∈ es, Eqn e
  nd : (es.map (·.1)).Nodup
  met : ∀ e ∈ es, ∀ s ∈ e.2.rows, s ∈ es.map (·.1)
open Classical in
noncomputable def bookB (d : D) : Bool := decide (∃ es, d = bookD es ∧ IsBook es)
open Classical in
theorem bookB_no {d : D} (h : ¬ ∃ es, d = bookD es ∧ IsBook es) : bookB d = false := by unfold bookB; exact decide_eq_false h
open Classical in
theorem bookB_iff {d : D} : bookB d = true ↔ ∃ es, d = bookD es ∧ IsBook es := by unfold bookB; exact decide_eq_true_iff
theorem book_step {S : Store} {n : Nat} {ns : List (List Nat)} {d0 : D} {o4 o5 : Option D} {e : List Nat × Tm} (hS : S[n]? = some (.lst (ns.map .str))) (he : Eqn e) : ∃ G, lb_is_book_1 R_names_in [some d0, some (.ref n), some (.str e.1), some e.2.d, o4, o5] S = if ∀ s ∈ e.2.rows, s ∈ ns then some (.nx [some d0, some (.ref n), some (.str e.1), some e.2.d, o4, o5] (S ++ G)) else some (.rt (.bl false) (S ++ G)) := by
  have h1 := he.size
  have h2 := he.depth
  obtain ⟨l, G, e1, hl, hle⟩ := s_names_in he.tm.ok he.tm.inn (by omega) (by omega) S
  have hsz := rows_len e.2
  have hlen : (sortU e.2.rows).length ≤ e.2.rows.length := nd_le (strict_nd (sortU_strict _)) fun x hx => (sortU_mem ..).mp hx
  have hlc := lcL_map (chk := fun T => T[l]? = some (.lst ((sortU e.2.rows).map .str))) (g := gName 5) (t := tYes) (e := e2 inD (eVar 5) (eVar 1)) (S := S ++ G) (ρ := [some d0, some (.ref n), some (.str e.1), some e.2.d, o4, none]) (fun d => .bl (match d with | .str s => decide (s ∈ ns) | _ => false)) ((sortU e.2.rows).map .str) [] (by rw [LINE_eq]; simp; omega) (fun acc => get_app hl _) (fun x hx acc => by
    obtain ⟨s, _, rfl⟩ := List.mem_map.mp hx
    have hS' : (S ++ G ++ [.lst acc])[n]? = some (.lst (ns.map .str)) := get_app (get_app hS _) _
    refine ⟨_, rfl, rfl, ?_⟩
    simp only [List.append_assoc] at hS'
    simp [in_strs hS'])
  have hall := all_ref (n := (S ++ G).length) (S := S ++ G ++ [.lst ((sortU e.2.rows).map fun s => .bl (decide (s ∈ ns)))]) (xs := sortU e.2.rows) (q := fun s => decide (s ∈ ns)) (by simp)
  have hq : (sortU e.2.rows).all (fun s => decide (s ∈ ns)) = decide (∀ s ∈ e.2.rows, s ∈ ns) := by
    rw [Bool.eq_iff_iff]
    simp only [List.all_eq_true, decide_eq_true_eq]
    exact ⟨fun h s hs => h s ((sortU_mem ..).mpr hs), fun h s hs => h s ((sortU_mem ..).mp hs)⟩
  rw [hq] at hall
  refine ⟨G ++ [.lst ((sortU e.2.rows).map fun s => .bl (decide (s ∈ ns)))], ?_⟩
  simp only [List.map_map, List.nil_append] at hlc
  simp [Function.comp_def] at hlc hall
  by_cases c : ∀ s ∈ e.2.rows, s ∈ ns
  · have c' : decide (∀ s ∈ e.2.rows, s ∈ ns) = true := decide_eq_true c
    rw [c'] at hall
    rw [if_pos c]
    simp [lb_is_book_1, e1, hl, hlc, wipe, hall, Function.comp_def]
  · have c' : decide (∀ s ∈ e.2.rows, s ∈ ns) = false := decide_eq_false c
    rw [c'] at hall
    rw [if_neg c]
    simp [lb_is_book_1, e1, hl, hlc, wipe, hall, Function.comp_def]
theorem book_loop {n : Nat} {ns : List (List Nat)} {d0 : D} (o4 : Option D) : ∀ (es : List (List Nat × Tm)) (o2 o3 o5 : Option D) (S : Store), S[n]? = some (.lst (ns.map .str)) → (∀ e ∈ es, Eqn e) → ∃ G o2' o3' o5', forL (fun _ => True) (gTup [gName 2, gName 3]) (lb_is_book_1 R_names_in) (es.map ent) [some d0, some (.ref n), o2, o3, o4, o5] S = if ∀ e ∈ es, ∀ s ∈ e.2.rows, s ∈ ns then some (.nx [some d0, some (.ref n), o2', o3', o4, o5'] (S ++ G)) else some (.rt (.bl false) (S ++ G))
  | [], o2, o3, o5, S, hS, _ => ⟨[], o2, o3, o5, by rw [if_pos (fun e h => by cases h), List.map_nil, forL_nil trivial]; simp⟩
  | e :: es, o2, o3, o5, S, hS, he => by
    obtain ⟨G, h1⟩ := book_step (d0 := d0) (o4 := o4) (o5 := o5) hS (he e (by simp))
    by_cases c : ∀ s ∈ e.2.rows, s ∈ ns
    · rw [if_pos c] at h1
      obtain ⟨G2, p2, p3, p5, h2⟩ := book_loop (d0 := d0) o4 es (some (.str e.1)) (some e.2.d) o5 (S ++ G) (get_app hS _) fun x hx => he x (List.mem_cons_of_mem _ hx)
      refine ⟨G ++ G2, p2, p3, p5, ?_⟩
      rw [List.map_cons, forL_cons trivial (by simp [ent]) h1, h2]
      have : (∀ e' ∈ e :: es, ∀ s ∈ e'.2.rows, s ∈ ns) ↔ ∀ e' ∈ es, ∀ s ∈ e'.2.rows, s ∈ ns := by simp; intro _; exact c
      simp only [this, List.append_assoc]
    · rw [if_neg c] at h1
      refine ⟨G, none, none, none, ?_⟩
      rw [if_neg fun h => c (h e (by simp)), List.map_cons, forL_rt trivial (by simp [ent]) h1]
theorem Tm.d_inj : ∀ {t u : Tm}, t.d = u.d → t = u
  | .row s, u, h => by cases u <;> simp [Tm.d] at h; rw [h]
  | .sign i t, u, h => by
    cases u with
    | sign j u =>
      simp [Tm.d] at h
      have e : i = j := by omega
      rw [e, Tm.d_inj h.2]
    | _ => simp [Tm.d] at h
  | .beh t, u, h => by
    cases u <;> simp [Tm.d] at h
    rw [Tm.d_inj h]
  | .zip a b, u, h => by
    cases u <;> simp [Tm.d] at h
    rw [Tm.d_inj h.1, Tm.d_inj h.2]
theorem ent_inj {e f : List Nat × Tm} (h : ent e = ent f) : e = f := by
  simp [ent] at h
  exact Prod.ext h.1 (Tm.d_inj h.2)
theorem bookD_inj {es fs : List (List Nat × Tm)} (h : bookD es = bookD fs) : es = fs := by
  injection h with h
  exact List.map_inj_right (fun _ _ => ent_inj) |>.mp h
theorem bookB_of {es : List (List Nat × Tm)} : bookB (bookD es) = true ↔ IsBook es := by
  rw [bookB_iff]
  exact ⟨fun ⟨fs, h1, h2⟩ => by rw [bookD_inj h1]; exact h2, fun h => ⟨es, rfl, h⟩⟩
theorem s_is_book {S : Store} {d : D} (h : Dn 57 S d) (hL : ∀ ds, d = .tup ds → ds.length ≤ LINE) : ∃ G, R_is_book [d] S = some (.ok (.bl (bookB d)) (S ++ G)) := by
  unfold R_is_book
  rw [run_eq (n := 1) _ _ rfl]
  unfold b_is_book
  by_cases ht : ∃ ds, d = .tup ds
  rotate_left
  · have hb : bookB d = false := bookB_no fun ⟨es, h1, _⟩ => ht ⟨_, h1⟩
    rw [hb]
    refine ⟨[], ?_⟩
    cases d with
    | tup ds => exact absurd ⟨ds, rfl⟩ ht
    | ref n => simp [isi_dat h.dk, tyB]
    | fl xs => simp [isi_dat h.dk, tyB]
    | raw n => exact h.dk.noraw.elim
    | _ => simp [tyB]
  obtain ⟨ds, rfl⟩ := ht
  by_cases h8 : ds.length ≤ 8
  rotate_left
  · have hb : bookB (.tup ds) = false := bookB_no fun ⟨es, h1, h2⟩ => by
      injection h1 with h1
      have := h2.len
      rw [h1, List.length_map] at h8
      omega
    rw [hb]
    have h8' : (8 : Int) < ds.length := by omega
    exact ⟨[], by simp [c_MOST_EQUATIONS, h8, h8']⟩
  have h8' : ¬ (8 : Int) < ds.length := by omega
  obtain ⟨G1, hlc⟩ := lcL_app (chk := fun _ => True) (g := gName 4) (t := tYes) (e := eCall R_is_equation [eVar 4]) (S := S) (ρ := [some (.tup ds), none, none, none, none, none]) (fun d => .bl (eqnB d)) ds [] [] (by rw [LINE_eq]; simp; omega) (fun _ _ => trivial) (fun x hx acc G => by
    obtain ⟨G', e⟩ := s_is_equation (S := S ++ .lst acc :: G) ((h.items x hx).app)
    refine ⟨_, G', rfl, rfl, ?_⟩
    simp [e])
  have hall := all_ref (n := S.length) (S := S ++ .lst (ds.map fun d => .bl (eqnB d)) :: G1) (xs := ds) (q := eqnB) (by simp)
  by_cases ha : ds.all eqnB = true
  rotate_left
  · have hb : bookB (.tup ds) = false := bookB_no fun ⟨es, h1, h2⟩ => by
      injection h1 with h1
      refine ha (List.all_eq_true.mpr fun x hx => ?_)
      rw [h1] at hx
      obtain ⟨e, he, rfl⟩ := List.mem_map.mp hx
      exact eqnB_ent (h2.eqn e he)
    rw [hb]
    have ha' : ds.all eqnB = false := by simpa using ha
    rw [ha'] at hall
    refine ⟨.lst (ds.map fun d => .bl (eqnB d)) :: G1, ?_⟩
    simp only [List.nil_append] at hlc
    simp [c_MOST_EQUATIONS, h8, h8', wipe, hlc, hall]
  rw [ha] at hall
  obtain ⟨es, rfl, hes⟩ := eqns_of ha
  simp only [List.nil_append] at hlc
  let T : Store := S ++ .lst ((es.map ent).map fun d => .bl (eqnB d)) :: G1
  have hlc2 := lcL_map (chk := fun _ => True) (g := gTup [gName 2, gName 3]) (t := tYes) (e := eVar 2) (S := T) (ρ := [some (bookD es), none, none, none, none, none]) (fun d => match d with | .tup [a, _] => a | _ => .non) (es.map ent) [] (by rw [LINE_eq]; simp at h8 ⊢; omega) (fun _ => trivial) (fun x hx acc => by
    obtain ⟨e, _, rfl⟩ := List.mem_map.mp hx
    exact ⟨_, by simp [ent]; rfl, rfl, by simp [ent]⟩)
  have hn : (es.map ent).map (fun d => match d with | D.tup [a, _] => a | _ => D.non) = (es.map (·.1)).map .str := by simp [ent, Function.comp_def]
  rw [hn, List.nil_append] at hlc2
  have hT : (T ++ [.lst ((es.map (·.1)).map .str)])[T.length]? = some (.lst ((es.map (·.1)).map .str)) := by simp
  have h8l : es.length ≤ 8 := by simpa using h8
  have hset := lset_of hT (by simp; omega)
  obtain ⟨G3, p2, p3, p5, hfor⟩ := book_loop (d0 := bookD es) none es none none none _ hT hes
  by_cases hnd : (es.map (·.1)).Nodup
  rotate_left
  · have hb : bookB (bookD es) = false := by
      cases c : bookB (bookD es) with
      | false => rfl
      | true => exact absurd (bookB_of.mp c).nd hnd
    have hlt := (sortU_nd (es.map (·.1))).mpr hnd
    rw [hb]
    refine ⟨.lst ((es.map ent).map fun d => .bl (eqnB d)) :: (G1 ++ [.lst ((es.map (·.1)).map .str)]), ?_⟩
    simp only [T] at hlc2 hset
    simp [-o_addr] at hlc2 hset hlt hlc hall
    simp [c_MOST_EQUATIONS, h8l, show ¬ (8 : Int) < es.length by omega, wipe, hlc, hall, hlc2, hset, hlt]
  have hlt : ¬ (sortU (es.map (·.1))).length < es.length := fun h => (sortU_nd _).mp (by simpa using h) hnd
  by_cases hm : ∀ e ∈ es, ∀ s ∈ e.2.rows, s ∈ es.map (·.1)
  · have hb : bookB (bookD es) = true := bookB_of.mpr ⟨h8l, hes, hnd, hm⟩
    rw [if_pos hm] at hfor
    rw [hb]
    refine ⟨.lst ((es.map ent).map fun d => .bl (eqnB d)) :: (G1 ++ .lst ((es.map (·.1)).map .str) :: G3), ?_⟩
    simp only [T] at hlc2 hset hfor
    simp [-o_addr] at hlc2 hset hlc hall hfor
    simp [c_MOST_EQUATIONS, h8l, show ¬ (8 : Int) < es.length by omega, wipe, hlc, hall, hlc2, hset, hlt, hfor]
  · have hb : bookB (bookD es) = false := by
      cases c : bookB (bookD es) with
      | false => rfl
      | true => exact absurd (bookB_of.mp c).met hm
    rw [if_neg hm] at hfor
    rw [hb]
    refine ⟨.lst ((es.map ent).map fun d => .bl (eqnB d)) :: (G1 ++ .lst ((es.map (·.1)).map .str) :: G3), ?_⟩
    simp only [T] at hlc2 hset hfor
    simp [-o_addr] at hlc2 hset hlc hall hfor
    simp [c_MOST_EQUATIONS, h8l, show ¬ (8 : Int) < es.length by omega, wipe, hlc, hall, hlc2, hset, hlt, hfor]
end Z
namespace Z
theorem DnL.app {k : Nat} {S : Store} {a b : List D} (ha : DnL k S a) (hb : DnL k S b) : DnL k S (a ++ b) := fun d hd => by
  rcases List.mem_append.mp hd with h | h
  · exact ha d h
  · exact hb d h
end Z
namespace Z
/-- a thing that is asked about -/
def Th (S : Store) (p c : Nat) (d : D) : Prop := Dn 40 (msk S p c) d ∧ ∀ ds, d = .tup ds → ds.length ≤ 100
theorem Th.tup {S : Store} {p c : Nat} {ds : List D} (h : DnL 31 (msk S p c) ds) (hl : ds.length ≤ 100) : Th S p c (.tup ds) := ⟨(Dn.tup (k := 31) h).le (by decide), fun ds' e => by injection e with e; rw [← e]; exact hl⟩
end Z
namespace Z
theorem in_strsL {S : Store} {n : Nat} {s : List Nat} {xs : List (List Nat)} (h : S[n]? = some (.lst (xs.map .str))) : inD (.str s) (.ref n) S = some (.ok (.bl (decide (s ∈ xs))) S) := by
  have e := ni_strs (s := s) h
  unfold ninD at e
  unfold inD
  cases c : inB (.str s) (.ref n) S with
  | none => rw [c] at e; cases e
  | some b =>
    rw [c] at e
    simp at e
    simp [e]
theorem due_pair {S : Store} {ns : List (List Nat)} {G : Store} {d0 x : D} {o3 : Option D} (hx : Dn 56 (S ++ .lst (ns.map .str) :: G) x) (hns : ns.length ≤ 100) :
    (∃ e G', x = ent e ∧ Eqn e ∧ e.1 ∉ ns ∧ lb_law_due_v2_1 R_law_is_name (R_law_size 24) [some d0, some (.ref S.length), some x, o3] (S ++ .lst (ns.map .str) :: G) = some (.nx [some d0, some (.ref S.length), some x, o3] (S ++ .lst ((ns ++ [e.1]).map .str) :: (G ++ G')))) ∨
    (∃ G', (∀ e, x = ent e → Eqn e → e.1 ∈ ns) ∧ lb_law_due_v2_1 R_law_is_name (R_law_size 24) [some d0, some (.ref S.length), some x, o3] (S ++ .lst (ns.map .str) :: G) = some (.rt (.bl false) (S ++ .lst (ns.map .str) :: (G ++ G')))) := by
  by_cases ht : ∃ xs, x = .tup xs
  · obtain ⟨xs, rfl⟩ := ht
    by_cases h2 : xs.length = 2
    · obtain ⟨a, y, rfl⟩ : ∃ a y, xs = [a, y] := by
        match xs, h2 with
        | [a, y], _ => exact ⟨a, y, rfl⟩
      have it := hx.items
      obtain ⟨G1, e1⟩ := s_law_is_name (it a (by simp))
      have a1 : atI [a, y] 1 = some y := by simp [atI, ixN]
      cases hn : nameB a
      · refine .inr ⟨G1, fun e he hq => ?_, ?_⟩
        · simp [ent] at he
          rw [he.1] at hn
          simp [nameB, nmB_is hq.nm] at hn
        · simp at e1
          simp [lb_law_due_v2_1, at0, e1, hn]
      · obtain ⟨s, rfl, hsn⟩ := is_name hn
        obtain ⟨v, G2, e2, hv⟩ := s_law_size 10 24 1 y (S ++ .lst (ns.map .str) :: G ++ G1) (by decide) (by decide) (((it y (by simp)).le (by decide)).app)
        by_cases h20 : v ≤ 20
        · have hsz : sz 10 y ≤ 20 := by omega
          obtain ⟨t, rfl, o, q1, q2⟩ := sz_is 10 y (by omega)
          have h20' : ¬ (20 : Int) < v := by omega
          have hin : inD (.str s) (.ref S.length) (S ++ .lst (ns.map .str) :: G ++ G1 ++ G2) = some (.ok (.bl (decide (s ∈ ns))) (S ++ .lst (ns.map .str) :: G ++ G1 ++ G2)) := in_strsL (get_app (get_app (by simp) _) _)
          by_cases hm : s ∈ ns
          · refine .inr ⟨G1 ++ G2, fun e he hq => ?_, ?_⟩
            · simp [ent] at he
              rw [← he.1]; exact hm
            · simp at e1 e2 hin
              simp [lb_law_due_v2_1, at0, a1, e1, hn, e2, h20', hin, hm]
          · refine .inl ⟨(s, t), G1 ++ G2, rfl, ⟨hsn, o, by show t.size ≤ 20; omega, q2⟩, hm, ?_⟩
            have hL : ns.length < LINE := by rw [LINE_eq]; omega
            simp at e1 e2 hin
            simp [lb_law_due_v2_1, at0, a1, e1, hn, e2, h20', hin, hm, hL]
        · have h20' : (20 : Int) < v := by omega
          refine .inr ⟨G1 ++ G2, fun e he hq => ?_, ?_⟩
          · simp [ent] at he
            have := sz_tm 10 e.2 hq.tm hq.depth
            rw [he.2] at hv
            have := hq.size
            omega
          · simp at e1 e2
            simp [lb_law_due_v2_1, at0, a1, e1, hn, e2, h20']
    · have h2' : ¬ (xs.length : Int) = 2 := by omega
      refine .inr ⟨[], fun e he _ => ?_, ?_⟩
      · injection he with he
        rw [he] at h2
        simp at h2
      · have : neD (.int (xs.length : Nat)) (.int 2) (S ++ .lst (ns.map .str) :: G) = some (.ok (.bl true) (S ++ .lst (ns.map .str) :: G)) := by simp [h2']
        simp [lb_law_due_v2_1, h2']
  · refine .inr ⟨[], fun e he _ => absurd ⟨_, he⟩ ht, ?_⟩
    cases x with
    | tup xs => exact absurd ⟨xs, rfl⟩ ht
    | ref n => simp [lb_law_due_v2_1, isi_dat hx.dk, tyB]
    | fl xs => simp [lb_law_due_v2_1, isi_dat hx.dk, tyB]
    | raw xs => simp [lb_law_due_v2_1, isi_dat hx.dk, tyB]
    | _ => simp [lb_law_due_v2_1, tyB]
theorem due_pairs {S : Store} {d0 : D} : ∀ (ds : List D) (ns : List (List Nat)) (G : Store) (o2 o3 : Option D), ns.length + ds.length ≤ 100 → (∀ d ∈ ds, Dn 56 S d) → ns.Nodup →
    (∃ (es : List (List Nat × Tm)) (G' : Store) (o2' : Option D), ds = es.map ent ∧ (∀ e ∈ es, Eqn e) ∧ (ns ++ es.map (·.1)).Nodup ∧ forL (fun _ => True) (gName 2) (lb_law_due_v2_1 R_law_is_name (R_law_size 24)) ds [some d0, some (.ref S.length), o2, o3] (S ++ .lst (ns.map .str) :: G) = some (.nx [some d0, some (.ref S.length), o2', o3] (S ++ .lst ((ns ++ es.map (·.1)).map .str) :: (G ++ G')))) ∨
    (∃ G' : Store, (∀ es : List (List Nat × Tm), ds = es.map ent → (∀ e ∈ es, Eqn e) → ¬ (ns ++ es.map (·.1)).Nodup) ∧ forL (fun _ => True) (gName 2) (lb_law_due_v2_1 R_law_is_name (R_law_size 24)) ds [some d0, some (.ref S.length), o2, o3] (S ++ .lst (ns.map .str) :: G) = some (.rt (.bl false) (S ++ G')))
  | [], ns, G, o2, o3, _, _, hn => .inl ⟨[], [], o2, rfl, fun e h => (by cases h), by simpa using hn, by rw [forL_nil trivial]; simp⟩
  | d :: ds, ns, G, o2, o3, hl, hd, hn => by
    rw [List.length_cons] at hl
    rcases due_pair (d0 := d0) (o3 := o3) (ns := ns) (G := G) ((hd d (by simp)).app) (by omega) with ⟨e, G1, rfl, he, hne, h1⟩ | ⟨G1, hno, h1⟩
    · have hn2 : (ns ++ [e.1]).Nodup := List.nodup_append.mpr ⟨hn, by simp, fun a ha x hx => by simp at hx; subst hx; exact fun q => hne (q ▸ ha)⟩
      rcases due_pairs (d0 := d0) ds (ns ++ [e.1]) (G ++ G1) (some (ent e)) o3 (by simp; omega) (fun x hx => hd x (List.mem_cons_of_mem _ hx)) hn2 with ⟨es, G2, o2', rfl, h2, h3, h4⟩ | ⟨G2, h2, h4⟩
      · refine .inl ⟨e :: es, G1 ++ G2, o2', rfl, fun x hx => ?_, by simpa using h3, ?_⟩
        · rcases List.mem_cons.mp hx with rfl | hx
          · exact he
          · exact h2 x hx
        · rw [forL_cons trivial rfl h1, h4]
          simp
      · refine .inr ⟨G2, fun es hes hq hnd => ?_, by rw [forL_cons trivial rfl h1, h4]⟩
        cases es with
        | nil => cases hes
        | cons f es =>
          rw [List.map_cons] at hes
          obtain ⟨q1, q2⟩ := List.cons.inj hes
          have := ent_inj q1
          subst this
          exact h2 es q2 (fun x hx => hq x (List.mem_cons_of_mem _ hx)) (by simpa using hnd)
    · refine .inr ⟨.lst (ns.map .str) :: (G ++ G1), fun es hes hq hnd => ?_, by rw [forL_rt trivial rfl h1]⟩
      cases es with
      | nil => cases hes
      | cons f es =>
        rw [List.map_cons] at hes
        obtain ⟨q1, q2⟩ := List.cons.inj hes
        have hm := hno f q1 (hq f (by simp))
        rw [List.nodup_append] at hnd
        exact hnd.2.2 _ hm f.1 (by simp) rfl
theorem due_mets {S : Store} {ns : List (List Nat)} {d0 : D} : ∀ (es : List (List Nat × Tm)) (G : Store) (o2 o3 : Option D), (∀ e ∈ es, Eqn e) →
    ((∀ e ∈ es, ∀ s ∈ e.2.rows, s ∈ ns) ∧ ∃ G' o2', forL (fun _ => True) (gName 2) (lb_law_due_v2_2 (R_law_met 24)) (es.map ent) [some d0, some (.ref S.length), o2, o3] (S ++ .lst (ns.map .str) :: G) = some (.nx [some d0, some (.ref S.length), o2', o3] (S ++ .lst (ns.map .str) :: (G ++ G')))) ∨
    ((¬ ∀ e ∈ es, ∀ s ∈ e.2.rows, s ∈ ns) ∧ ∃ G', forL (fun _ => True) (gName 2) (lb_law_due_v2_2 (R_law_met 24)) (es.map ent) [some d0, some (.ref S.length), o2, o3] (S ++ .lst (ns.map .str) :: G) = some (.rt (.bl false) (S ++ G')))
  | [], G, o2, o3, _ => .inl ⟨fun e h => (by cases h), [], o2, by rw [List.map_nil, forL_nil trivial]; simp⟩
  | e :: es, G, o2, o3, he => by
    have q := he e (by simp)
    have hz := q.size
    have hd := q.depth
    let T : Store := S ++ .lst (ns.map .str) :: G
    obtain ⟨l, G1, e1, hl⟩ := s_law_met e.2 24 T (by omega) (by omega)
    have hrl := rows_len e.2
    have gn : (T ++ G1)[S.length]? = some (.lst (ns.map .str)) := get_app (by simp [T]) _
    have hlc := lcL_filter (chk := fun U => U[l]? = some (.lst (e.2.rows.map .str))) (g := gName 3) (t := tVal (e2 ninD (eVar 3) (eVar 1))) (e := eVar 3) (S := T ++ G1) (ρ := [some d0, some (.ref S.length), some (ent e), none]) (fun d => match d with | .str s => !decide (s ∈ ns) | _ => false) id (e.2.rows.map .str) [] (by rw [LINE_eq]; simp; omega) (fun acc => get_app hl _) (fun x hx acc => by
      obtain ⟨s, _, rfl⟩ := List.mem_map.mp hx
      have hni := ni_strs (s := s) (get_app gn [.lst acc])
      refine ⟨_, rfl, ?_, fun _ => rfl⟩
      simp at hni
      simp [hni])
    have hfl : ((e.2.rows.map D.str).filter fun d => match d with | .str s => !decide (s ∈ ns) | _ => false).map id = (e.2.rows.filter fun s => !decide (s ∈ ns)).map .str := by
      rw [List.map_id, List.filter_map]
      rfl
    rw [hfl, List.nil_append] at hlc
    have hne := ne_nilD (k := 0) (S := T ++ G1 ++ [.lst ((e.2.rows.filter fun s => !decide (s ∈ ns)).map .str), .lst []]) (a := (T ++ G1).length) (b := (T ++ G1).length + 1) (ds := (e.2.rows.filter fun s => !decide (s ∈ ns)).map .str) (by decide) (by simp) (by rw [gjx]; rfl) (fun d hd => by
      obtain ⟨s, _, rfl⟩ := List.mem_map.mp hd
      exact Dk.str s)
    have a1 : atI [D.str e.1, e.2.d] 1 = some e.2.d := by simp [atI, ixN]
    by_cases hm : ∀ s ∈ e.2.rows, s ∈ ns
    · have hemp : (e.2.rows.filter fun s => !decide (s ∈ ns)) = [] := List.filter_eq_nil_iff.mpr fun s hs => by simp [hm s hs]
      rw [hemp] at hne hlc
      have h1 : lb_law_due_v2_2 (R_law_met 24) [some d0, some (.ref S.length), some (ent e), o3] T = some (.nx [some d0, some (.ref S.length), some (ent e), o3] (T ++ G1 ++ [.lst [], .lst []])) := by
        simp [T, Nat.add_assoc] at e1 hl hlc hne
        simp [T, lb_law_due_v2_2, ent, a1, e1, hl, wipe, hne, Nat.add_assoc] at hlc ⊢
        simp [hlc, hne, Nat.add_assoc]
      rcases due_mets (S := S) (ns := ns) (d0 := d0) es (G ++ (G1 ++ [.lst [], .lst []])) (some (ent e)) o3 (fun x hx => he x (List.mem_cons_of_mem _ hx)) with ⟨h2, G2, o2', h3⟩ | ⟨h2, G2, h3⟩
      · refine .inl ⟨fun x hx => ?_, G1 ++ ([.lst [], .lst []] ++ G2), o2', ?_⟩
        · rcases List.mem_cons.mp hx with rfl | hx
          · exact hm
          · exact h2 x hx
        · rw [List.map_cons, forL_cons trivial rfl h1]
          simp [T] at h3 ⊢
          exact h3
      · refine .inr ⟨fun h => h2 fun x hx => h x (List.mem_cons_of_mem _ hx), G2, ?_⟩
        rw [List.map_cons, forL_cons trivial rfl h1]
        simp [T] at h3 ⊢
        exact h3
    · have hemp : (((e.2.rows.filter fun s => !decide (s ∈ ns)).map D.str).isEmpty) = false := by
        cases c : (e.2.rows.filter fun s => !decide (s ∈ ns)) with
        | nil => exact absurd (fun s hs => by have := List.filter_eq_nil_iff.mp c s hs; simpa using this) hm
        | cons _ _ => rfl
      rw [hemp] at hne
      refine .inr ⟨fun h => hm (h e (by simp)), .lst (ns.map .str) :: (G ++ (G1 ++ [.lst ((e.2.rows.filter fun s => !decide (s ∈ ns)).map .str), .lst []])), ?_⟩
      rw [List.map_cons, forL_rt trivial rfl]
      simp [T, Nat.add_assoc] at e1 hl hlc hne
      simp [T, lb_law_due_v2_2, ent, a1, e1, hl, wipe, hne, Nat.add_assoc] at hlc ⊢
      simp [hlc, hne, Nat.add_assoc]
theorem s_law_due_v2 {S : Store} {d : D} (h : Dn 57 S d) (hL : ∀ ds, d = .tup ds → ds.length ≤ LINE) : ∃ G, R_law_due_v2 [d] S = some (.ok (.bl (bookB d)) (S ++ G)) := by
  unfold R_law_due_v2
  rw [run_eq (n := 1) _ _ rfl]
  unfold b_law_due_v2
  by_cases ht : ∃ ds, d = .tup ds
  rotate_left
  · have hb : bookB d = false := bookB_no fun ⟨es, h1, _⟩ => ht ⟨_, h1⟩
    rw [hb]
    refine ⟨[], ?_⟩
    cases d with
    | tup ds => exact absurd ⟨ds, rfl⟩ ht
    | ref n => simp [isi_dat h.dk, tyB]
    | fl xs => simp [isi_dat h.dk, tyB]
    | raw xs => simp [isi_dat h.dk, tyB]
    | _ => simp [tyB]
  obtain ⟨ds, rfl⟩ := ht
  by_cases h8 : ds.length ≤ 8
  rotate_left
  · have hb : bookB (.tup ds) = false := bookB_no fun ⟨es, h1, h2⟩ => by
      injection h1 with h1
      have := h2.len
      rw [h1, List.length_map] at h8
      omega
    rw [hb]
    have h8' : (8 : Int) < ds.length := by omega
    exact ⟨[], by simp [h8, h8']⟩
  have h8' : ¬ (8 : Int) < ds.length := by omega
  rcases due_pairs (S := S) (d0 := .tup ds) ds [] [] none none (by simp; omega) (fun x hx => h.items x hx) List.nodup_nil with ⟨es, G', o2', rfl, hes, hnd, h1⟩ | ⟨G', hno, h1⟩
  · rw [List.nil_append] at hnd h1
    have h8l : es.length ≤ 8 := by simpa using h8
    rcases due_mets (S := S) (ns := es.map (·.1)) (d0 := bookD es) es ([] ++ G') o2' none hes with ⟨hm, G2, o2, h2⟩ | ⟨hm, G2, h2⟩
    · rw [bookB_of.mpr ⟨h8l, hes, hnd, hm⟩]
      refine ⟨.lst ((es.map (·.1)).map .str) :: (G' ++ G2), ?_⟩
      simp at h1 h2
      simp [h8l, show ¬ (8 : Int) < es.length by omega, h1, h2]
    · have hb : bookB (bookD es) = false := by
        cases c : bookB (bookD es) with
        | false => rfl
        | true => exact absurd (bookB_of.mp c).met hm
      rw [hb]
      refine ⟨G2, ?_⟩
      simp at h1 h2
      simp [h8l, show ¬ (8 : Int) < es.length by omega, h1, h2]
  · have hb : bookB (.tup ds) = false := bookB_no fun ⟨es, q1, q2⟩ => by
      injection q1 with q1
      exact hno es q1 q2.eqn (by simpa using q2.nd)
    rw [hb]
    refine ⟨G', ?_⟩
    simp at h1
    simp [h8, h8', h1]
end Z
namespace Z
structure Q where
  s : Nat
  e : Nat
  o : Nat
def Q.d (q : Q) : D := .tup [.int q.s, .int q.e, .int q.o]
abbrev machD (m : List Q) : D := .tup (m.map Q.d)
structure Mach (m : List Q) : Prop where
  pos : 0 < m.length
  he : ∀ q ∈ m, q.e < m.length
  ho : ∀ q ∈ m, q.o < m.length
  hs : ∀ q ∈ m, ∀ p, m[q.e]? = some p → p.s = q.s
  h9 : ∀ q ∈ m, q.s ≤ 9
def stq (m : List Q) (s : Nat) : Q := m.getD s ⟨0, 0, 0⟩
def go (m : List Q) (s n : Nat) : Nat := if h : n = 0 then s else go m (if n % 2 = 0 then (stq m s).e else (stq m s).o) (n / 2)
termination_by n
decreasing_by omega
def sgn (m : List Q) (s n : Nat) : Nat := (stq m (go m s n)).s
theorem Mach.at {m : List Q} {s : Nat} (h : s < m.length) : m[s]? = some (stq m s) := by simp [stq, h]
theorem at_state {m : List Q} {s : Nat} (h : s < m.length) : atI (m.map Q.d) (s : Int) = some (stq m s).d := atI_nat (by simp [Mach.at h])
theorem ix_sign (q : Q) (S : Store) : ixD q.d (.int 0) S = some (.ok (.int q.s) S) := by simp [Q.d, atI, ixN]
end Z
namespace Z
def numB (many : Int) : D → Bool
  | .int i => decide (0 ≤ i) && decide (i < many)
  | _ => false
def stB (many : Int) : D → Bool
  | .tup [a, b, c] => numB 10 a && (numB many b && numB many c)
  | _ => false
theorem s_is_number {k : Nat} {S : Store} {d : D} (h : Dk k S d) (many : Int) : R_is_number [d, .int many] S = some (.ok (.bl (numB many d)) S) := by
  unfold R_is_number
  rw [run_eq (n := 2) _ _ rfl]
  unfold b_is_number
  cases d with
  | int i => by_cases c : 0 ≤ i <;> simp [numB, tyB, c]
  | ref n => simp [isi_dat h, tyB, numB]
  | fl xs => simp [isi_dat h, tyB, numB]
  | raw xs => simp [isi_dat h, tyB, numB]
  | _ => simp [tyB, numB]
theorem s_law_number {k : Nat} {S : Store} {d : D} (h : Dk k S d) (many : Int) : R_law_number [d, .int many] S = some (.ok (.bl (numB many d)) S) := by
  unfold R_law_number
  rw [run_eq (n := 2) _ _ rfl]
  unfold b_law_number
  cases d with
  | int i => by_cases c : 0 ≤ i <;> simp [numB, tyB, c]
  | ref n => simp [isi_dat h, tyB, numB]
  | fl xs => simp [isi_dat h, tyB, numB]
  | raw xs => simp [isi_dat h, tyB, numB]
  | _ => simp [tyB, numB]
theorem at3 (a b c : D) : atI [a, b, c] 0 = some a ∧ atI [a, b, c] 1 = some b ∧ atI [a, b, c] 2 = some c := by simp [atI, ixN]
theorem s_is_state {k : Nat} {S : Store} {d : D} (h : Dk k S d) (many : Int) : R_is_state [d, .int many] S = some (.ok (.bl (stB many d)) S) := by
  unfold R_is_state
  rw [run_eq (n := 2) _ _ rfl]
  unfold b_is_state
  cases d with
  | tup xs =>
    match xs, h with
    | [], h => simp [stB]
    | [_], h => simp [stB]
    | [_, _], h => simp [stB]
    | [a, b, c], h =>
      have hi := h.items
      have ha := s_is_number (hi a (by simp)) 10
      have hb := s_is_number (hi b (by simp)) many
      have hc := s_is_number (hi c (by simp)) many
      obtain ⟨t0, t1, t2⟩ := at3 a b c
      cases ea : numB 10 a <;> cases eb : numB many b <;> simp [t0, t1, t2, ha, hb, hc, ea, eb, stB]
    | _ :: _ :: _ :: _ :: r, h =>
      have e : ¬ ((r.length : Int) + 1 + 1 + 1 + 1 = 3) := by omega
      simp [stB, e]
  | ref n => simp [isi_dat h, tyB, stB]
  | fl xs => simp [isi_dat h, tyB, stB]
  | raw xs => simp [isi_dat h, tyB, stB]
  | _ => simp [tyB, stB]
def toQ : D → Option Q
  | .tup [.int s, .int e, .int o] => some ⟨s.toNat, e.toNat, o.toNat⟩
  | _ => none
theorem stB_q {many : Int} {d : D} (h : stB many d = true) : ∃ q : Q, d = q.d ∧ q.s < 10 ∧ (q.e : Int) < many ∧ (q.o : Int) < many := by
  match d, h with
  | .tup [a, b, c], h =>
    simp only [stB, Bool.and_eq_true] at h
    obtain ⟨h1, h2, h3⟩ := h
    match a, b, c, h1, h2, h3 with
    | .int s, .int e, .int o, h1, h2, h3 =>
      simp [numB] at h1 h2 h3
      refine ⟨⟨s.toNat, e.toNat, o.toNat⟩, ?_, ?_, ?_, ?_⟩
      · simp [Q.d]; omega
      · show s.toNat < 10; omega
      · show ((e.toNat : Nat) : Int) < many; omega
      · show ((o.toNat : Nat) : Int) < many; omega
theorem toQ_d (q : Q) : toQ q.d = some q := by simp [toQ, Q.d]
theorem states_of {many : Int} : ∀ {xs : List D}, xs.all (stB many) = true → ∃ m : List Q, xs = m.map Q.d ∧ ∀ q ∈ m, q.s < 10 ∧ (q.e : Int) < many ∧ (q.o : Int) < many
  | [], _ => ⟨[], rfl, fun q h => by cases h⟩
  | x :: xs, h => by
    rw [List.all_cons, Bool.and_eq_true] at h
    obtain ⟨q, rfl, hq⟩ := stB_q h.1
    obtain ⟨m, rfl, hm⟩ := states_of h.2
    exact ⟨q :: m, rfl, fun p hp => by rcases List.mem_cons.mp hp with rfl | hp; exact hq; exact hm p hp⟩
theorem filter_q (m : List Q) : (m.map Q.d).filterMap toQ = m := by
  induction m with
  | nil => rfl
  | cons q m ih => rw [List.map_cons, List.filterMap_cons, toQ_d]; simp [ih]
def sameB (m : List Q) : Bool := m.all fun q => decide ((stq m q.e).s = q.s)
def machB : D → Bool
  | .tup xs => decide (0 < xs.length) && (xs.all (stB xs.length) && sameB (xs.filterMap toQ))
  | _ => false
def fewB : D → Bool
  | .tup xs => decide (xs.length ≤ 500)
  | _ => false
theorem lt_LINE_of {n : Nat} (h : n ≤ 500) : n ≤ LINE := by rw [LINE_eq]; omega
theorem s_is_machine {S : Store} {d : D} (h : Dk 60 S d) : ∃ G, R_is_machine [d] S = some (.ok (.bl (fewB d && machB d)) (S ++ G)) := by
  unfold R_is_machine
  rw [run_eq (n := 1) _ _ rfl]
  unfold b_is_machine
  cases d with
  | tup xs =>
    by_cases h0 : 0 < xs.length
    case neg =>
      have : xs = [] := List.length_eq_zero_iff.mp (by omega)
      subst this
      exact ⟨[], by simp [c_MOST_STATES, machB]⟩
    by_cases h5 : xs.length ≤ 500
    case neg =>
      have h5' : ¬ ((xs.length : Int) ≤ 500) := by omega
      exact ⟨[], by simp [c_MOST_STATES, fewB, h5, h0, h5']⟩
    have h0' : (0 : Int) < xs.length := by omega
    have h5' : (xs.length : Int) ≤ 500 := by omega
    have hlc := lcL_map (chk := fun _ => True) (g := gName 1) (t := tYes) (e := eCall R_is_state [eVar 1, eCall lenF [eVar 0]]) (S := S) (ρ := [some (.tup xs), none, none, none, none]) (fun x => .bl (stB xs.length x)) xs [] (by simpa using lt_LINE_of h5) (fun _ => trivial) (fun x hx acc => by
      refine ⟨_, rfl, rfl, ?_⟩
      have := s_is_state ((h.items x hx).mono (LeL.app (G := [.lst acc]))) xs.length
      simp [this])
    have ha := all_ref (n := S.length) (S := S ++ [.lst (xs.map fun x => .bl (stB xs.length x))]) (xs := xs) (q := stB xs.length) (by simp)
    rw [List.nil_append] at hlc
    by_cases h1 : xs.all (stB xs.length) = true
    · obtain ⟨m, rfl, hm⟩ := states_of h1
      let S1 : Store := S ++ [.lst ((m.map Q.d).map fun x => .bl (stB (m.map Q.d).length x))]
      have hlc2 := lcL_map (chk := fun _ => True) (g := gTup [gName 2, gName 3, gName 4]) (t := tYes) (e := e2 eqD (e2 ixD (e2 ixD (eVar 0) (eVar 3)) (eC (.int 0))) (eVar 2)) (S := S1) (ρ := [some (machD m), none, none, none, none])
        (fun x => .bl (match toQ x with | some q => decide ((stq m q.e).s = q.s) | none => false)) (m.map Q.d) [] (by simpa using lt_LINE_of h5) (fun _ => trivial) (fun x hx acc => by
        obtain ⟨q, hq, rfl⟩ := List.mem_map.mp hx
        have he : q.e < m.length := by have := (hm q hq).2.1; simp at this; exact this
        refine ⟨[some (machD m), none, some (.int q.s), some (.int q.e), some (.int q.o)], by simp [Q.d], rfl, ?_⟩
        have a := at_state he
        rw [toQ_d]
        simp [a, ix_sign]
        omega)
      have ha2 := all_ref (n := S1.length) (S := S1 ++ [.lst (m.map fun q => .bl (decide ((stq m q.e).s = q.s)))]) (xs := m) (q := fun q => decide ((stq m q.e).s = q.s)) (by simp)
      refine ⟨[.lst ((m.map Q.d).map fun x => .bl (stB (m.map Q.d).length x)), .lst (m.map fun q => .bl (decide ((stq m q.e).s = q.s)))], ?_⟩
      have e1 : ((m.map Q.d).map fun x => D.bl (match toQ x with | some q => decide ((stq m q.e).s = q.s) | none => false)) = m.map fun q => .bl (decide ((stq m q.e).s = q.s)) := by simp [toQ_d, Function.comp_def]
      rw [e1, List.nil_append] at hlc2
      have hmb : machB (machD m) = sameB m := by
        show (decide (0 < (m.map Q.d).length) && ((m.map Q.d).all (stB (m.map Q.d).length) && sameB ((m.map Q.d).filterMap toQ))) = sameB m
        rw [h1, filter_q]; simp; intro _; simpa using h0
      have hfb : fewB (machD m) = true := by show decide ((m.map Q.d).length ≤ 500) = true; exact decide_eq_true h5
      have hsb : (m.all fun q => decide ((stq m q.e).s = q.s)) = sameB m := rfl
      rw [h1] at ha
      rw [hsb] at ha2
      rw [hmb, hfb]
      simp only [S1] at hlc2 ha2
      simp at hlc ha hlc2 ha2 h0 h0' h5 h5'
      simp [c_MOST_STATES, h0, h5, h0', h5', wipe, hlc, ha, hlc2, ha2]
    · refine ⟨[.lst (xs.map fun x => .bl (stB xs.length x))], ?_⟩
      have h1' : xs.all (stB xs.length) = false := by simpa using h1
      simp [c_MOST_STATES, h0, h5, h0', h5', wipe, hlc, ha, h1', machB, fewB]
  | ref n => exact ⟨[], by simp [isi_dat h, tyB, machB]⟩
  | fl xs => exact ⟨[], by simp [isi_dat h, tyB, machB]⟩
  | raw xs => exact ⟨[], by simp [isi_dat h, tyB, machB]⟩
  | _ => exact ⟨[], by simp [tyB, machB]⟩
theorem eqvL_nil : ∀ xs : List PD, eqvL xs [] = xs.isEmpty
  | [] => rfl
  | _ :: _ => rfl
theorem eq_nilT {k : Nat} (hk : k ≤ 64) {S : Store} {xs : List D} (h : Dk k S (.tup xs)) : eqD (.tup xs) (.tup []) S = some (.ok (.bl xs.isEmpty) S) := by
  obtain ⟨x, h1, h2⟩ := h
  have h1' := h1
  unfold dat at h1
  rw [D.pd] at h1
  obtain ⟨ys, e1, rfl⟩ := Option.map_eq_some_iff.mp h1
  have e2' : dat S (.tup []) = some (.tup []) := by simp [dat, D.pd, pdL]
  unfold eqD
  rw [h1', e2']
  have : (PD.tup ys).dep ≤ 64 ∧ (PD.tup []).dep ≤ 64 := ⟨by omega, by simp [PD.dep, depL]⟩
  simp only [this, and_self, if_true, PD.eqv, eqvL_nil]
  cases xs with
  | nil => cases e1; rfl
  | cons a r =>
    rw [pdL] at e1
    split at e1
    · cases e1; rfl
    · cases e1
def Q.pd (q : Q) : PD := .tup [.int q.s, .int q.e, .int q.o]
theorem Q.d_pd (g : Nat → Option PD) (q : Q) : q.d.pd g = some q.pd := by simp [Q.d, Q.pd, D.pd, pdL]
theorem pdL_q (g : Nat → Option PD) : ∀ m : List Q, pdL g (m.map Q.d) = some (m.map Q.pd)
  | [] => rfl
  | q :: m => by rw [List.map_cons, pdL, Q.d_pd, pdL_q g m]; rfl
theorem depL_q : ∀ m : List Q, depL (m.map Q.pd) ≤ 1
  | [] => by simp [depL]
  | q :: m => by
    have := depL_q m
    rw [List.map_cons, depL]
    simp [Q.pd, PD.dep, depL]
    omega
theorem dat_q {S : Store} {n : Nat} {m : List Q} (h : S[n]? = some (.lst (m.map Q.d))) : dat S (.ref n) = some (.lst (m.map Q.pd)) := by
  unfold dat
  rw [D.pd, rdR, h]
  dsimp only
  rw [pdL_q]; rfl
theorem eq_nil_q {S : Store} {a b : Nat} {m : List Q} (h : S[a]? = some (.lst (m.map Q.d))) (h' : S[b]? = some (.lst [])) : eqD (.ref a) (.ref b) S = some (.ok (.bl m.isEmpty) S) := by
  unfold eqD
  rw [dat_q h, dat_q (m := []) h']
  have : (PD.lst (m.map Q.pd)).dep ≤ 64 ∧ (PD.lst (([] : List Q).map Q.pd)).dep ≤ 64 := ⟨by have := depL_q m; simp [PD.dep]; omega, by simp [PD.dep, depL]⟩
  dsimp only
  rw [if_pos this, PD.eqv, List.map_nil, eqvL_nil]
  cases m <;> rfl
theorem due_loop5 {S : Store} {d : D} {len : Nat} (hlen : ∀ S, lenF [d] S = some (.ok (.int len) S)) : ∀ (xs : List D) (o : Option D), (∀ x ∈ xs, Dk 60 S x) →
    if xs.all (stB len) = true then ∃ o', forL (fun _ => True) (gName 1) (lb_law_due_v5_1 R_law_number) xs [some d, o] S = some (.nx [some d, o'] S)
    else forL (fun _ => True) (gName 1) (lb_law_due_v5_1 R_law_number) xs [some d, o] S = some (.rt (.bl false) S)
  | [], o, _ => by
    rw [if_pos (by rfl), forL_nil trivial]; exact ⟨o, rfl⟩
  | x :: xs, o, h => by
    have hb : lb_law_due_v5_1 R_law_number [some d, some x] S = if stB len x = true then some (.nx [some d, some x] S) else some (.rt (.bl false) S) := by
      have hx := h x (by simp)
      unfold lb_law_due_v5_1
      cases x with
      | tup ys =>
        match ys, hx with
        | [], _ => simp [stB]
        | [_], _ => simp [stB]
        | [_, _], _ => simp [stB]
        | [a, b, c], hx =>
          have hi := hx.items
          have ha := s_law_number (hi a (by simp)) 10
          have hb := s_law_number (hi b (by simp)) len
          have hc := s_law_number (hi c (by simp)) len
          obtain ⟨t0, t1, t2⟩ := at3 a b c
          cases ea : numB 10 a <;> cases eb : numB len b <;> cases ec : numB len c <;> simp [t0, t1, t2, ha, hb, hc, ea, eb, ec, stB, hlen]
        | _ :: _ :: _ :: _ :: r, _ =>
          have e : ¬ ((r.length : Int) + 1 + 1 + 1 + 1 = 3) := by omega
          simp [stB, e]
      | ref n => simp [isi_dat hx, tyB, stB]
      | fl xs => simp [isi_dat hx, tyB, stB]
      | raw xs => simp [isi_dat hx, tyB, stB]
      | _ => simp [tyB, stB]
    by_cases hs : stB len x = true
    · rw [if_pos hs] at hb
      have e := forL_cons (chk := fun _ => True) (g := gName 1) (b := lb_law_due_v5_1 R_law_number) (r := xs) (ρ := [some d, o]) (S := S) (x := x) (ρ1 := [some d, some x]) trivial rfl hb
      have ih := due_loop5 hlen xs (some x) fun y hy => h y (List.mem_cons_of_mem _ hy)
      rw [e]
      simpa [hs] using ih
    · rw [if_neg hs] at hb
      have e := forL_rt (chk := fun _ => True) (g := gName 1) (b := lb_law_due_v5_1 R_law_number) (r := xs) (ρ := [some d, o]) (S := S) (x := x) (ρ1 := [some d, some x]) trivial rfl hb
      simp [hs, e]
theorem s_law_due_v5 {S : Store} {d : D} (h : Dk 60 S d) (hL : ∀ xs, d = .tup xs → xs.length ≤ LINE) : ∃ G, R_law_due_v5 [d] S = some (.ok (.bl (machB d)) (S ++ G)) := by
  unfold R_law_due_v5
  rw [run_eq (n := 1) _ _ rfl]
  unfold b_law_due_v5
  cases d with
  | tup xs =>
    have hnil := eq_nilT (by decide) h
    cases hx : xs with
    | nil => subst hx; exact ⟨[], by simp [hnil, machB]⟩
    | cons x r =>
    rw [← hx]
    have h0 : 0 < xs.length := by rw [hx]; simp
    have hne : xs.isEmpty = false := by rw [hx]; rfl
    rw [hne] at hnil
    have hl := due_loop5 (S := S) (d := .tup xs) (len := xs.length) (fun S => rfl) xs none (fun y hy => (h.items y hy).le (by decide))
    by_cases h1 : xs.all (stB xs.length) = true
    · rw [if_pos h1] at hl
      obtain ⟨o', hl⟩ := hl
      obtain ⟨m, rfl, hm⟩ := states_of h1
      have hmb : machB (machD m) = sameB m := by
        show (decide (0 < (m.map Q.d).length) && ((m.map Q.d).all (stB (m.map Q.d).length) && sameB ((m.map Q.d).filterMap toQ))) = sameB m
        rw [h1, filter_q]; simp; intro _; simpa using h0
      let bad : List Q := m.filter fun q => !decide ((stq m q.e).s = q.s)
      have hbad : bad.isEmpty = sameB m := by
        simp only [bad, sameB]
        rw [Bool.eq_iff_iff]
        simp [List.isEmpty_iff, List.filter_eq_nil_iff]
      have hlc := lcL_filter (chk := fun _ => True) (g := gName 1) (t := tVal (e2 neD (e2 ixD (e2 ixD (eVar 0) (e2 ixD (eVar 1) (eC (.int 1)))) (eC (.int 0))) (e2 ixD (eVar 1) (eC (.int 0))))) (e := eVar 1) (S := S) (ρ := [some (machD m), none])
        (fun x => match toQ x with | some q => !decide ((stq m q.e).s = q.s) | none => false) id (m.map Q.d) [] (by
          simpa using hL _ rfl) (fun _ => trivial) (fun x hx acc => by
        obtain ⟨q, hq, rfl⟩ := List.mem_map.mp hx
        have he : q.e < m.length := by have := (hm q hq).2.1; simp at this; exact this
        refine ⟨_, rfl, ?_, fun _ => rfl⟩
        have a := at_state he
        obtain ⟨t0, t1, t2⟩ := at3 (.int q.s) (.int q.e) (.int q.o)
        rw [toQ_d]
        simp [Q.d, t0, t1, a]
        simp [at3]
        omega)
      have e4 : ((m.map Q.d).filter fun x => match toQ x with | some q => !decide ((stq m q.e).s = q.s) | none => false) = bad.map Q.d := by
        simp [bad, List.filter_map, Function.comp_def, toQ_d]
      rw [List.nil_append, List.map_id, e4] at hlc
      have hq := eq_nil_q (S := S ++ [.lst (bad.map Q.d), .lst []]) (a := S.length) (b := S.length + 1) (m := bad) (by simp) (by simp)
      rw [hbad] at hq
      refine ⟨[.lst (bad.map Q.d), .lst []], ?_⟩
      rw [hmb]
      simp [hnil, hl, wipe, hlc, hq]
    · rw [if_neg h1] at hl
      have h1' : xs.all (stB xs.length) = false := by simpa using h1
      refine ⟨[], ?_⟩
      simp [hnil, hl, machB, h1']
  | ref n => exact ⟨[], by simp [isi_dat h, tyB, machB]⟩
  | fl xs => exact ⟨[], by simp [isi_dat h, tyB, machB]⟩
  | raw xs => exact ⟨[], by simp [isi_dat h, tyB, machB]⟩
  | _ => exact ⟨[], by simp [tyB, machB]⟩
end Z
namespace Z
def Tm.Rw (names : List (List Nat)) (t : Tm) : Prop := ∀ s ∈ t.rows, s ∈ names
end Z
namespace Z
def hop : Tm → Nat → Nat ⊕ (List Nat × Nat)
  | .row s, n => .inr (s, n)
  | .sign i _, 0 => .inl i
  | .sign _ t, n + 1 => hop t n
  | .beh t, n => hop t (n + 1)
  | .zip a b, n => if n % 2 = 0 then hop a (n / 2) else hop b (n / 2)
def termOf (es : List (List Nat × Tm)) (s : List Nat) : Tm := match es.find? fun e => decide (e.1 = s) with
  | some e => e.2
  | none => .row s
theorem termOf_mem {es : List (List Nat × Tm)} (hn : (es.map (·.1)).Nodup) {e : List Nat × Tm} (he : e ∈ es) : termOf es e.1 = e.2 := by
  have : es.find? (fun f => decide (f.1 = e.1)) = some e := by
    induction es with
    | nil => cases he
    | cons f es ih =>
      rw [List.map_cons, List.nodup_cons] at hn
      rcases List.mem_cons.mp he with rfl | he
      · simp
      · have : ¬ f.1 = e.1 := fun c => hn.1 (by rw [c]; exact List.mem_map.mpr ⟨e, he, rfl⟩)
        rw [List.find?_cons]
        simp only [decide_eq_false this]
        exact ih hn.2 he
  unfold termOf
  rw [this]
/-- a drawn book -/
structure Bk (es : List (List Nat × Tm)) : Prop where
  dep : ∀ e ∈ es, e.2.depth ≤ 12
  row : ∀ e ∈ es, e.2.Rw (es.map (·.1))
  nd : (es.map (·.1)).Nodup
  len : es.length ≤ 8
theorem Bk.at {es : List (List Nat × Tm)} (b : Bk es) {s : List Nat} (h : s ∈ es.map (·.1)) : (s, termOf es s) ∈ es := by
  obtain ⟨e, he, rfl⟩ := List.mem_map.mp h
  rw [termOf_mem b.nd he]
  exact he
def kvE (e : List Nat × Tm) : D × D := (.str e.1, e.2.d)
end Z
namespace Z
abbrev Call := List Nat × Nat
end Z
namespace Z
theorem sq_nx {a b : SS} {ρ ρ1 : Env} {S S1 : Store} (h : a ρ S = some (.nx ρ1 S1)) : sq a b ρ S = b ρ1 S1 := by unfold sq; rw [h]
def Keep (S S' : Store) : Prop := S.length ≤ S'.length ∧ ∀ i, i < S.length → S'[i]? = S[i]?
theorem Keep.refl {S : Store} : Keep S S := ⟨Nat.le_refl _, fun _ _ => rfl⟩
theorem Keep.trans {S S' S'' : Store} (a : Keep S S') (b : Keep S' S'') : Keep S S'' := ⟨Nat.le_trans a.1 b.1, fun i h => by rw [b.2 i (Nat.lt_of_lt_of_le h a.1), a.2 i h]⟩
theorem Keep.app {S G : Store} : Keep S (S ++ G) := ⟨by simp, fun i h => List.getElem?_append_left h⟩
theorem Keep.set {S S' : Store} {i : Nat} {o : MO} (h : Keep S S') (hi : S.length ≤ i) : Keep S (S'.set i o) := ⟨by rw [List.length_set]; exact h.1, fun j hj => by rw [List.getElem?_set_ne (by omega)]; exact h.2 j hj⟩
theorem Keep.get {S S' : Store} (k : Keep S S') {n : Nat} {o : MO} (h : S[n]? = some o) : S'[n]? = some o := by rw [k.2 n (List.getElem?_eq_some_iff.mp h).1]; exact h
end Z
namespace Z
abbrev Eqs := List (List Nat × Tm)
def look : Eqs → List Nat → Option Tm
  | [], _ => none
  | e :: r, s => if e.1 = s then some e.2 else look r s
inductive Wr where
  | sign (i : Nat) | waits (s : List Nat)
def nx (es : Eqs) (c : Call) : Wr ⊕ Call := match look es c.1 with
  | none => .inl (.waits c.1)
  | some t => match hop t c.2 with
    | .inl i => .inl (.sign i)
    | .inr d => .inr d
end Z
namespace Z
/-- a coming book -/
structure CB (S : Store) (r d : Nat) (es : Eqs) : Prop where
  gr : S[r]? = some (.ins "Coming" [("terms", .ref d)])
  gd : S[d]? = some (.dk (es.map kvE))
theorem CB.keep {S S' : Store} {r d : Nat} {es : Eqs} (h : CB S r d es) (k : Keep S S') : CB S' r d es := ⟨k.get h.gr, k.get h.gd⟩
theorem CB.ne {S : Store} {r d : Nat} {es : Eqs} (h : CB S r d es) : r ≠ d := fun e => by
  have := h.gr
  rw [e, h.gd] at this
  cases this
theorem CB.lt {S : Store} {r d : Nat} {es : Eqs} (h : CB S r d es) : r < S.length ∧ d < S.length := ⟨(List.getElem?_eq_some_iff.mp h.gr).1, (List.getElem?_eq_some_iff.mp h.gd).1⟩
end Z
namespace Z
/-- a dict of told terms, locked or not -/
def TD (S : Store) (d : Nat) (es : Eqs) : Prop := S[d]? = some (.dk (es.map kvE)) ∨ S[d]? = some (.dkl (es.map kvE))
theorem TD.keep {S S' : Store} {d : Nat} {es : Eqs} (h : TD S d es) (k : Keep S S') : TD S' d es := h.imp (fun h => k.get h) (fun h => k.get h)
theorem TD.at {S : Store} {d : Nat} {es : Eqs} (h : TD S d es) : dkAt S (.ref d) = some (es.map kvE) := by
  rcases h with h | h <;> simp [h]
end Z
namespace Z
structure LI (S : Store) (p c l r d dt : Nat) (names : List (List Nat)) (es : Eqs) : Prop where
  sp : Sp S p c
  nm : Nm S p c l names
  cb : CB S r d es
  gt : S[dt]? = some (.dk (es.map kvE))
  ne : d ≠ dt
theorem sp_lst {S : Store} {p c : Nat} (h : Sp S p c) : (∃ xs, S[p]? = some (.lst xs)) ∧ ∃ xs, S[c]? = some (.lst xs) := by
  obtain ⟨s, h⟩ := h
  exact ⟨⟨_, h.hp⟩, ⟨_, h.hc⟩⟩
theorem LI.fr {S S' : Store} {p c l r d dt : Nat} {names : List (List Nat)} {es : Eqs} (h : LI S p c l r d dt names es) (f : Fr p c S S') (s : Sp S' p c) : LI S' p c l r d dt names es := by
  obtain ⟨⟨xs, hp⟩, ⟨ys, hc⟩⟩ := sp_lst h.sp
  have nl : ∀ {i : Nat} {o : MO}, S[i]? = some o → (∀ zs, o ≠ .lst zs) → S'[i]? = some o := fun {i o} g hn => by
    rw [f.old i (List.getElem?_eq_some_iff.mp g).1 (fun e => by subst e; rw [hp] at g; cases g; exact hn _ rfl) (fun e => by subst e; rw [hc] at g; cases g; exact hn _ rfl)]
    exact g
  exact ⟨s, h.nm.fr f, ⟨nl h.cb.gr (fun _ e => by cases e), nl h.cb.gd (fun _ e => by cases e)⟩, nl h.gt (fun _ e => by cases e), h.ne⟩
theorem keep_fr {p c : Nat} {S S' : Store} (k : Keep S S') : Fr p c S S' := ⟨k.1, fun i h _ _ => k.2 i h⟩
theorem keep_sp2 {S S' : Store} {p c : Nat} (hs : Sp S p c) (k : Keep S S') : Sp S' p c := by
  obtain ⟨x, h1⟩ := hs
  have h2 := h1.lt
  exact ⟨x, ⟨h1.ne, by rw [k.2 p h2.1]; exact h1.hp, by rw [k.2 c h2.2]; exact h1.hc, h1.ok⟩⟩
theorem LI.keep {S S' : Store} {p c l r d dt : Nat} {names : List (List Nat)} {es : Eqs} (h : LI S p c l r d dt names es) (k : Keep S S') : LI S' p c l r d dt names es := h.fr (keep_fr k) (keep_sp2 h.sp k)
end Z
namespace Z
open Classical
def GK (b : Bool) (k : D) : Prop := if b = true then nkOk k = true else k0 k = true
structure DA (S : Store) (n : Nat) (b : Bool) (kvs : List (D × D)) : Prop where
  gk : ∀ p ∈ kvs, GK b p.1
  at' : S[n]? = some (if b = true then .nk kvs else .dk kvs)
theorem DA.get {S S' : Store} {n : Nat} {b : Bool} {kvs : List (D × D)} (h : DA S n b kvs) (e : S'[n]? = S[n]?) : DA S' n b kvs := ⟨h.gk, by rw [e]; exact h.at'⟩
theorem DA.lt {S : Store} {n : Nat} {b : Bool} {kvs : List (D × D)} (h : DA S n b kvs) : n < S.length := (List.getElem?_eq_some_iff.mp h.at').1
theorem DA.keep {S S' : Store} {n : Nat} {b : Bool} {kvs : List (D × D)} (h : DA S n b kvs) (k : Keep S S') : DA S' n b kvs := h.get (k.2 n h.lt)
@[simp] theorem x_dctN (ρ : Env) (S : Store) : eDctN ρ S = some (.ok (.ref S.length) (S ++ [.nk []])) := rfl
end Z
namespace Z
/-- among the first n places of the row from state s on -/
def cnt (m : List Q) (x s : Nat) : Nat → Nat
  | 0 => 0
  | n + 1 => cnt m x s n + if sgn m s n = x then 1 else 0
end Z
namespace Z
def en (m : List Q) (x : Nat) (q : Nat × Nat) : List D × D := ([.int q.1, .int q.2], .int (cnt m x q.1 q.2))
theorem nodup_le {α : Type} [DecidableEq α] : ∀ (P L : List α), P.Nodup → (∀ q ∈ P, q ∈ L) → P.length ≤ L.length
  | [], L, _, _ => Nat.zero_le _
  | q :: P, L, h, hs => by
    obtain ⟨h1, h2⟩ := List.nodup_cons.mp h
    have hq := hs q (by simp)
    have := nodup_le P (L.erase q) h2 fun y hy => by
      have hy' := hs y (List.mem_cons_of_mem _ hy)
      exact (List.mem_erase_of_ne (by rintro rfl; exact h1 hy)).mpr hy'
    rw [List.length_erase_of_mem hq] at this
    have := List.length_pos_of_mem hq
    simp; omega
/-- a dict of counts stands at r, its keys of L -/
def Kn (m : List Q) (x : Nat) (S : Store) (r : Nat) (L : List (Nat × Nat)) : Prop := ∃ P : List (Nat × Nat), S[r]? = some (.st (P.map (en m x))) ∧ P.Nodup ∧ ∀ q ∈ P, q ∈ L
theorem Kn.keep {m : List Q} {x : Nat} {S S' : Store} {r : Nat} {L : List (Nat × Nat)} (h : Kn m x S r L) (e : S'[r]? = S[r]?) : Kn m x S' r L := let ⟨P, a, b, c⟩ := h; ⟨P, by rw [e]; exact a, b, c⟩
def lev (m : List Q) (n j : Nat) : List (Nat × Nat) := ((List.range m.length).map fun s => (s, n / 2 ^ j)) ++ (List.range m.length).map fun s => (s, n / 2 ^ j + 1)
def hs (m : List Q) (n : Nat) : Nat → List (Nat × Nat)
  | 0 => []
  | k + 1 => hs m n k ++ lev m n k
end Z
namespace Z
open Classical
noncomputable def pushU {α : Type} (r : List α) (k : α) : List α := if k ∈ r then r else r ++ [k]
noncomputable def bfs {α : Type} (nx : α → Option (α × α)) : Nat → Nat → List α → Option (List α)
  | 0, _, _ => none
  | f + 1, i, r => match r[i]? with
    | none => some r
    | some k => match nx k with
      | none => none
      | some q => bfs nx f (i + 1) (pushU (pushU r q.1) q.2)
section
variable {α β : Type}
theorem nodup_len {P L : List α} (h : P.Nodup) (hs : ∀ q ∈ P, q ∈ L) : P.length ≤ L.length := nodup_le P L h hs
theorem bfs_more {nx : α → Option (α × α)} : ∀ {f i : Nat} {r l : List α}, bfs nx f i r = some l → bfs nx (f + 1) i r = some l
  | 0, i, r, l, h => by cases h
  | f + 1, i, r, l, h => by
    rw [bfs] at h ⊢
    cases hr : r[i]? with
    | none => rw [hr] at h; exact h
    | some k =>
      rw [hr] at h
      dsimp only at h ⊢
      cases hq : nx k with
      | none => rw [hq] at h; cases h
      | some q =>
        rw [hq] at h
        dsimp only at h ⊢
        exact bfs_more h
theorem bfs_mono {nx : α → Option (α × α)} {f g i : Nat} {r l : List α} (h : bfs nx f i r = some l) (hg : f ≤ g) : bfs nx g i r = some l := by
  obtain ⟨k, rfl⟩ := Nat.exists_eq_add_of_le hg
  clear hg
  induction k with
  | zero => exact h
  | succ k ih => exact bfs_more ih
structure MetG (nx : α → Option (α × α)) (P : α → Prop) (r l : List α) : Prop where
  pre : ∃ t, l = r ++ t
  nd : l.Nodup
  ok : ∀ x ∈ l, P x
  clo : ∀ k ∈ l, ∃ q, nx k = some q ∧ q.1 ∈ l ∧ q.2 ∈ l
end
end Z
namespace Z
open Classical
structure NQ where
  s : Nat
  e : D
  o : D
def NQ.d (q : NQ) : D := .tup [.int q.s, q.e, q.o]
abbrev Gr := List (D × NQ)
noncomputable def nxG (gs : Gr) (k : D) : Option (D × D) := (dget gs k).map fun q => (q.e, q.o)
theorem dget_mem {β : Type} {kvs : List (D × β)} {k : D} {v : β} (h : dget kvs k = some v) : (k, v) ∈ kvs := by
  unfold dget at h
  obtain ⟨p, hp, rfl⟩ := Option.map_eq_some_iff.mp h
  have h1 := List.find?_some hp
  have h2 := List.mem_of_find?_eq_some hp
  have : p.1 = k := by simpa using h1
  rw [← this]
  exact h2
theorem dget_some {β : Type} {kvs : List (D × β)} {k : D} (h : k ∈ kvs.map (·.1)) : ∃ v, dget kvs k = some v := by
  unfold dget
  obtain ⟨p, hp, rfl⟩ := List.mem_map.mp h
  cases e : kvs.find? fun q => decide (q.1 = p.1) with
  | none =>
    have := List.find?_eq_none.mp e p hp
    simp at this
  | some q => exact ⟨q.2, rfl⟩
structure GOk (gs : Gr) (b : Bool) : Prop where
  gk : ∀ p ∈ gs, GK b p.1
  clo : ∀ p ∈ gs, (∃ q, dget gs p.2.e = some q ∧ q.s = p.2.s) ∧ ∃ q, dget gs p.2.o = some q
  few : gs.length ≤ 9500000
abbrev keysG (gs : Gr) : List D := gs.map (·.1)
end Z
namespace Z
open Classical
noncomputable def ixU {α : Type} (l : List α) (x : α) : Nat := if h : ∃ j, l[j]? = some x then h.choose else 0
noncomputable def sgG (gs : Gr) (k : D) : Nat := ((dget gs k).map (·.s)).getD 0
noncomputable def evG (gs : Gr) (k : D) : D := ((dget gs k).map (·.e)).getD k
noncomputable def odG (gs : Gr) (k : D) : D := ((dget gs k).map (·.o)).getD k
abbrev T3 := Nat × Nat × Nat
structure RowOk (gs : Gr) (b : Bool) (row : List D) : Prop where
  g : GOk gs b
  nd : row.Nodup
  ok : ∀ k ∈ row, k ∈ keysG gs
  clo : ∀ k ∈ row, ∃ q, dget gs k = some q ∧ q.e ∈ row ∧ q.o ∈ row
  ne : row ≠ []
theorem RowOk.of {gs : Gr} {b : Bool} {row : List D} {a : D} (g : GOk gs b) (m : MetG (nxG gs) (· ∈ keysG gs) [a] row) : RowOk gs b row := ⟨g, m.nd, m.ok, fun k hk => by
  obtain ⟨q, h1, h2, h3⟩ := m.clo k hk
  unfold nxG at h1
  obtain ⟨q', h4, rfl⟩ := Option.map_eq_some_iff.mp h1
  exact ⟨q', h4, h2, h3⟩, by
  obtain ⟨t, ht⟩ := m.pre
  rw [ht]
  simp⟩
theorem RowOk.len {gs : Gr} {b : Bool} {row : List D} (h : RowOk gs b row) : row.length ≤ 9500000 := by
  have := nodup_len h.nd h.ok
  have := h.g.few
  simp at *
  omega
theorem RowOk.at {gs : Gr} {b : Bool} {row : List D} (h : RowOk gs b row) {k : D} (hk : k ∈ row) : ∃ q, dget gs k = some q ∧ q.s = sgG gs k ∧ q.e = evG gs k ∧ q.o = odG gs k ∧ q.e ∈ row ∧ q.o ∈ row := by
  obtain ⟨q, h1, h2, h3⟩ := h.clo k hk
  exact ⟨q, h1, by simp [sgG, h1], by simp [evG, h1], by simp [odG, h1], h2, h3⟩
end Z
namespace Z
open Classical
def evF (f : Nat → Nat) : Nat → Nat := fun m => f (2 * m)
def odF (f : Nat → Nat) : Nat → Nat := fun m => f (2 * m + 1)
def nxF (f : Nat → Nat) : Option ((Nat → Nat) × (Nat → Nat)) := some (evF f, odF f)
noncomputable def macF (l : List (Nat → Nat)) : List Q := l.map fun h => ⟨h 0, ixU l (evF h), ixU l (odF h)⟩
def Canon (M : List Q) (f : Nat → Nat) : Prop := ∃ fu l, bfs nxF fu 0 [f] = some l ∧ M = macF l
theorem Canon.eq {M M' : List Q} {f : Nat → Nat} (h : Canon M f) (h' : Canon M' f) : M = M' := by
  obtain ⟨a, l, h1, rfl⟩ := h
  obtain ⟨c, l', h2, rfl⟩ := h'
  have e1 := bfs_mono h1 (Nat.le_max_left a c)
  have e2 := bfs_mono h2 (Nat.le_max_right a c)
  rw [e1] at e2
  cases e2
  rfl
end Z
namespace Z
open Classical
def mkK (mark i : Nat) : D := .tup [.int mark, .int i]
/-- the states of a machine among others -/
structure Inn (gs : Gr) (mark : Nat) (m : List Q) : Prop where
  at' : ∀ (i : Nat) (q : Q), m[i]? = some q → dget gs (mkK mark i) = some ⟨q.s, mkK mark q.e, mkK mark q.o⟩
end Z
namespace Z
open Classical
/-- a least machine with this row -/
structure Lst (M : List Q) (f : Nat → Nat) (B : Nat) : Prop where
  mach : Mach M
  len : M.length ≤ B
  row : ∀ n, sgn M 0 n = f n
  can : Canon M f
theorem Inn.clo {gs : Gr} {mark : Nat} {m : List Q} (M : Mach m) (h : Inn gs mark m) {q : Q} (hq : q ∈ m) : (∃ w, dget gs (mkK mark q.e) = some w ∧ w.s = q.s) ∧ ∃ w, dget gs (mkK mark q.o) = some w :=
  ⟨⟨_, h.at' _ _ (Mach.at (M.he q hq)), M.hs q hq _ (Mach.at (M.he q hq))⟩, _, h.at' _ _ (Mach.at (M.ho q hq))⟩
end Z
namespace Z
open Classical
theorem tv_t {e : SE} {ρ : Env} {S S1 : Store} {b : Bool} (h : e ρ S = some (.ok (.bl b) S1)) : tVal e ρ S = some (.ok b S1) := by
  unfold tVal
  rw [h]
  rfl
theorem sif_t {t : ST} {b1 b2 : SS} {ρ : Env} {S S1 : Store} {b : Bool} (h : t ρ S = some (.ok b S1)) : sIf t b1 b2 ρ S = if b = true then b1 ρ S1 else b2 ρ S1 := by
  rw [x_sif, h]
  rfl
end Z
namespace Z
open Classical
/-- this expression makes a machine with this row -/
def MG (e : SE) (ρ : Env) (f : Nat → Nat) (B : Nat) : Prop := ∀ S, ∃ m S', e ρ S = some (.ok (machD m) S') ∧ Keep S S' ∧ Mach m ∧ (∀ n, sgn m 0 n = f n) ∧ m.length ≤ B
/-- and it is the least one -/
def ML (e : SE) (ρ : Env) (f : Nat → Nat) (B : Nat) : Prop := ∀ S, ∃ m S', e ρ S = some (.ok (machD m) S') ∧ Keep S S' ∧ Lst m f B
section
variable {e a b : SE} {ρ : Env} {f g : Nat → Nat} {A B : Nat}
theorem ML.mg (h : ML e ρ f B) : MG e ρ f B := fun S => let ⟨m, S', t, k, l⟩ := h S; ⟨m, S', t, k, l.mach, l.row, l.len⟩
end
end Z
namespace Z
open Classical
section
variable {S : Store} {n kx : Nat} {gs : Gr} {row : List D} {kd : D → Nat}
abbrev e9 (n kx many : Nat) (o3 o4 o5 o6 o7 o8 : Option D) : Env := [some (.ref n), some (.ref kx), some (.int many), o3, o4, o5, o6, o7, o8]
theorem RowOk.all (g : GOk gs true) (hnd : (keysG gs).Nodup) (hne : gs ≠ []) : RowOk gs true (keysG gs) := ⟨g, hnd, fun k hk => hk, fun k hk => by
  obtain ⟨q, hq⟩ := dget_some hk
  obtain ⟨⟨qe, he, _⟩, qo, ho⟩ := g.clo _ (dget_mem hq)
  exact ⟨q, hq, List.mem_map.mpr ⟨_, dget_mem he, rfl⟩, List.mem_map.mpr ⟨_, dget_mem ho, rfl⟩⟩, fun e => hne (List.map_eq_nil_iff.mp e)⟩
end
end Z
namespace Z
/-- data of so much weight, so deep -/
def Dw (k b : Nat) (S : Store) (d : D) : Prop := ∃ x, dat S d = some x ∧ x.dep ≤ k ∧ x.sml 302 = true ∧ x.wgt ≤ b
theorem Dw.mono {k b : Nat} {S S' : Store} (h : LeL S S') {d : D} : Dw k b S d → Dw k b S' d := fun ⟨x, a, r⟩ => ⟨x, dat_mono h a, r⟩
theorem Dw.le {k b k' b' : Nat} (h : k ≤ k') (h' : b ≤ b') {S : Store} {d : D} : Dw k b S d → Dw k' b' S d := fun ⟨x, a, c, e, f⟩ => ⟨x, a, by omega, e, by omega⟩
theorem Dw.dk {k b : Nat} {S : Store} {d : D} : Dw k b S d → Dk k S d := fun ⟨x, a, c, _⟩ => ⟨x, a, c⟩
theorem pdL_w {g : Nat → Option PD} {k b : Nat} : ∀ {ds : List D}, (∀ d ∈ ds, ∃ x, d.pd g = some x ∧ x.dep ≤ k ∧ x.sml 302 = true ∧ x.wgt ≤ b) → ∃ xs, pdL g ds = some xs ∧ depL xs ≤ k ∧ smlL 302 xs = true ∧ wgtL xs ≤ ds.length * (b + 1)
  | [], _ => ⟨[], rfl, by simp [depL], rfl, by simp [wgtL]⟩
  | d :: ds, h => by
    obtain ⟨x, h1, h2, h3, h4⟩ := h d (by simp)
    obtain ⟨xs, g1, g2, g3, g4⟩ := pdL_w fun e he => h e (List.mem_cons_of_mem _ he)
    refine ⟨x :: xs, by rw [pdL, h1, g1], by simp [depL]; omega, by simp [smlL, h3, g3], ?_⟩
    simp only [wgtL, List.length_cons, Nat.add_mul]
    omega
theorem Dw.tup {k b : Nat} {S : Store} {ds : List D} (h : ∀ d ∈ ds, Dw k b S d) : Dw (k + 1) (ds.length * (b + 1)) S (.tup ds) := by
  obtain ⟨xs, h1, h2, h3, h4⟩ := pdL_w (g := rdR 70 S) (k := k) (b := b) h
  exact ⟨.tup xs, by unfold dat; rw [D.pd, h1]; rfl, by simp [PD.dep]; omega, by simp [PD.sml, h3], by simp [PD.wgt]; exact h4⟩
theorem Dw.int {k b : Nat} {S : Store} {i : Int} (h : i.natAbs.log2 < 301) (hb : 302 ≤ b) : Dw k b S (.int i) := ⟨.int i, by simp [dat, D.pd], by simp [PD.dep], by simp [PD.sml]; omega, by simp [PD.wgt]; omega⟩
theorem Dw.bl {k b : Nat} {S : Store} (i : Bool) : Dw k b S (.bl i) := ⟨.bl i, by simp [dat, D.pd], by simp [PD.dep], rfl, by simp [PD.wgt]⟩
theorem Dw.non {k b : Nat} {S : Store} : Dw k b S .non := ⟨.non, by simp [dat, D.pd], by simp [PD.dep], rfl, by simp [PD.wgt]⟩
theorem Dw.str {k b : Nat} {S : Store} {s : List Nat} (h : s.length ≤ b) : Dw k b S (.str s) := ⟨.str s, by simp [dat, D.pd], by simp [PD.dep], rfl, by simp [PD.wgt]; exact h⟩
theorem Dw.ref {k b n : Nat} {S : Store} {ds : List D} (hk : k ≤ 60) (g : S[n]? = some (.lst ds)) (h : ∀ d ∈ ds, Dw k b S d) : Dw (k + 1) (ds.length * (b + 1)) S (.ref n) := by
  obtain ⟨xs, h1, h2, h3, h4⟩ := pdL_w (g := rdR 70 S) (k := k) (b := b) h
  refine ⟨.lst xs, ?_, by simp [PD.dep]; omega, by simp [PD.sml, h3], by simp [PD.wgt]; exact h4⟩
  unfold dat
  rw [D.pd, rdR, g]
  dsimp only
  rw [pdL_bnd (fun n x e hd => rdR_fuel 70 69 n x e (by omega)) ds xs h1 (Nat.le_refl _)]
  rfl
theorem Dw.repr {k b : Nat} (hk : k ≤ 60) (hb : b ≤ 55000) {S : Store} {d : D} (h : Dw k b S d) : ∃ s, ∀ S', LeL S S' → reprD [d] S' = some (.ok (.str s) S') := by
  obtain ⟨x, h1, h2, h3, h4⟩ := h
  refine ⟨rtext x, fun S' l => o_reprD (dat_mono l h1) (by omega) (.inr ⟨h3, ?_⟩)⟩
  omega
/-- a thing in a state -/
abbrev En (S : Store) (d : D) : Prop := Dw 3 310 S d
/-- a state, or what stands for it -/
def Sx (S : Store) (y : D) : Prop := (∃ xs, y = .tup xs ∧ xs.length ≤ 4 ∧ ∀ x ∈ xs, En S x) ∨ (Dw 5 1300 S y ∧ ∀ xs, y = .tup xs → xs.length ≠ 3)
theorem Sx.mono {S S' : Store} (h : LeL S S') {y : D} : Sx S y → Sx S' y
  | .inl ⟨xs, e, l, g⟩ => .inl ⟨xs, e, l, fun x hx => (g x hx).mono h⟩
  | .inr ⟨g, n⟩ => .inr ⟨g.mono h, n⟩
end Z
namespace Z
open Classical
inductive LL (B : Nat) : List (List Q) → List (Nat → Nat) → Prop
  | nil : LL B [] []
  | cons {m : List Q} {f : Nat → Nat} {ms : List (List Q)} {fs : List (Nat → Nat)} : Lst m f B → LL B ms fs → LL B (m :: ms) (f :: fs)
theorem LL.eq {A B : Nat} {ms ms' : List (List Q)} {fs : List (Nat → Nat)} (h : LL A ms fs) (h' : LL B ms' fs) : ms = ms' := by
  induction h generalizing ms' with
  | nil => cases h'; rfl
  | cons l _ ih =>
    cases h' with
    | cons l' h2 => rw [l.can.eq l'.can, ih h2]
theorem LL.len {A : Nat} {ms : List (List Q)} {fs : List (Nat → Nat)} (h : LL A ms fs) : ms.length = fs.length := by
  induction h with
  | nil => rfl
  | cons _ _ ih => simp [ih]
theorem LL.all {A : Nat} {ms : List (List Q)} {fs : List (Nat → Nat)} (h : LL A ms fs) : ∀ m ∈ ms, Mach m ∧ m.length ≤ A := by
  induction h with
  | nil => intro m hm; cases hm
  | cons l _ ih =>
    intro m hm
    rcases List.mem_cons.mp hm with rfl | hm
    · exact ⟨l.mach, l.len⟩
    · exact ih m hm
end Z
namespace Z
open Classical
theorem nodup_le9 (P L : List D) (h : P.Nodup) (hs : ∀ q ∈ P, q ∈ L) : P.length ≤ L.length := nodup_len h hs
abbrev PF9 := D → Option Nat
noncomputable def setF9 (F : PF9) (s : D) (n : Nat) : PF9 := fun q => if q = s then some n else F q
noncomputable def mis9 (F : PF9) (row : List D) : Nat := (row.filter fun q => (F q).isNone).length
noncomputable def sm9 (F : PF9) : List D → Nat
  | [] => 0
  | q :: r => (F q).getD 0 + sm9 F r
noncomputable def Ltm9 (row : List D) (F' F : PF9) : Prop := mis9 F' row < mis9 F row ∨ (mis9 F' row = mis9 F row ∧ sm9 F' row < sm9 F row)
theorem Ltm9.trans {row : List D} {F'' F' F : PF9} (a : Ltm9 row F'' F') (b : Ltm9 row F' F) : Ltm9 row F'' F := by
  unfold Ltm9 at *; omega
structure PlD9 (row : List D) (l : List (D × Nat)) : Prop where
  nd : (l.map (·.1)).Nodup
  sub : ∀ q ∈ l.map (·.1), q ∈ row
theorem PlD9.len {row : List D} {l : List (D × Nat)} (P : PlD9 row l) : l.length ≤ row.length := by
  have := nodup_le9 _ _ P.nd P.sub
  simpa using this
/-- the walk from u by the bits of n ends at a marked one -/
noncomputable def MW (mk : D → Prop) (fe fo : D → D) (u : D) (n : Nat) : Prop := if h : n = 0 then mk u else MW mk fe fo (if n % 2 = 0 then fe u else fo u) (n / 2)
  termination_by n
  decreasing_by exact Nat.div_lt_self (Nat.pos_of_ne_zero h) (by decide)
section
variable {mk : D → Prop} {fe fo : D → D}
structure PI9 (row : List D) (mk : D → Prop) (fe fo : D → D) (F : PF9) : Prop where
  val : ∀ p n, F p = some n → p ∈ row ∧ MW mk fe fo p n
  mrk : ∀ p ∈ row, mk p → F p = some 0
theorem PI9.set {row : List D} {F : PF9} {s : D} {n : Nat} (P : PI9 row mk fe fo F) (hs : s ∈ row) (hd : MW mk fe fo s n) (h : ∀ u, F s = some u → n < u) : PI9 row mk fe fo (setF9 F s n) := by
  refine ⟨fun p k hk => ?_, fun p hp hm => ?_⟩
  · unfold setF9 at hk
    by_cases c : p = s
    · rw [if_pos c] at hk
      cases hk
      rw [c]
      exact ⟨hs, hd⟩
    · rw [if_neg c] at hk
      exact P.val p k hk
  · unfold setF9
    by_cases c : p = s
    · subst c
      have := h 0 (P.mrk p hp hm)
      omega
    · rw [if_neg c]
      exact P.mrk p hp hm
end
end Z
namespace Z
abbrev PP := Nat × Nat
section
variable (m1 m2 : List Q)
def nx1 (p : PP) : PP := ((stq m1 p.1).e, (stq m2 p.2).e)
def nx2 (p : PP) : PP := ((stq m1 p.1).o, (stq m2 p.2).o)
inductive RchP : PP → Prop where
  | base : RchP (0, 0)
  | one {p : PP} : RchP p → RchP (nx1 m1 m2 p)
  | two {p : PP} : RchP p → RchP (nx2 m1 m2 p)
structure RowI (row : List PP) (k : Nat) : Prop where
  nd : row.Nodup
  bd : ∀ p ∈ row, p.1 < m1.length ∧ p.2 < m2.length
  zero : (0, 0) ∈ row
  cl : ∀ (i : Nat) (q : PP), i < k → row[i]? = some q → nx1 m1 m2 q ∈ row ∧ nx2 m1 m2 q ∈ row
  rch : ∀ p ∈ row, RchP m1 m2 p
end
section
variable {m1 m2 : List Q} (M1 : Mach m1) (M2 : Mach m2)
include M1 M2
theorem RowI.start : RowI m1 m2 [(0, 0)] 0 := ⟨by simp, fun p hp => by simp at hp; subst hp; exact ⟨M1.pos, M2.pos⟩, by simp, fun i q h => by omega, fun p hp => by simp at hp; subst hp; exact .base⟩
end
theorem nodup_leP : ∀ (P L : List PP), P.Nodup → (∀ q ∈ P, q ∈ L) → P.length ≤ L.length
  | [], L, _, _ => Nat.zero_le _
  | q :: P, L, h, hs => by
    obtain ⟨h1, h2⟩ := List.nodup_cons.mp h
    have hq := hs q (by simp)
    have := nodup_leP P (L.erase q) h2 fun y hy => by
      have hy' := hs y (List.mem_cons_of_mem _ hy)
      exact (List.mem_erase_of_ne (by rintro rfl; exact h1 hy)).mpr hy'
    rw [List.length_erase_of_mem hq] at this
    have := List.length_pos_of_mem hq
    simp; omega
def grid (a b : Nat) : List PP := (List.range a).flatMap fun x => (List.range b).map fun y => (x, y)
theorem grid_len (a b : Nat) : (grid a b).length = a * b := by
  induction a with
  | zero => simp [grid]
  | succ a ih =>
    unfold grid at ih ⊢
    rw [List.range_succ, List.flatMap_append, List.length_append, ih]
    simp [Nat.succ_mul]
theorem grid_mem {a b : Nat} {p : PP} (h : p.1 < a ∧ p.2 < b) : p ∈ grid a b := by
  unfold grid
  rw [List.mem_flatMap]
  exact ⟨p.1, List.mem_range.mpr h.1, List.mem_map.mpr ⟨p.2, List.mem_range.mpr h.2, rfl⟩⟩
theorem RowI.len {m1 m2 : List Q} {row : List PP} {k : Nat} (R : RowI m1 m2 row k) : row.length ≤ m1.length * m2.length := by
  rw [← grid_len]
  exact nodup_leP row _ R.nd fun q hq => grid_mem (R.bd q hq)
/-- the row of all pairs met -/
abbrev Met (m1 m2 : List Q) (row : List PP) : Prop := RowI m1 m2 row row.length
theorem Met.closed {m1 m2 : List Q} {row : List PP} (R : Met m1 m2 row) {p : PP} (h : p ∈ row) : nx1 m1 m2 p ∈ row ∧ nx2 m1 m2 p ∈ row := by
  obtain ⟨i, hi⟩ := List.getElem?_of_mem h
  exact R.cl i p (List.getElem?_eq_some_iff.mp hi).1 hi
theorem Met.all {m1 m2 : List Q} {row : List PP} (R : Met m1 m2 row) {p : PP} (h : RchP m1 m2 p) : p ∈ row := by
  induction h with
  | base => exact R.zero
  | one _ ih => exact (R.closed ih).1
  | two _ ih => exact (R.closed ih).2
end Z
namespace Z
/-- a store that only grew -/
theorem grown {S S' : Store} (hl : S.length ≤ S'.length) (h : ∀ i, i < S.length → S'[i]? = S[i]?) : ∃ G, S' = S ++ G := by
  refine ⟨S'.drop S.length, ?_⟩
  apply List.ext_getElem?
  intro i
  by_cases hi : i < S.length
  · rw [List.getElem?_append_left hi, h i hi]
  · rw [List.getElem?_append_right (by omega), List.getElem?_drop]
    congr 1; omega
end Z
namespace Z
abbrev PF := PP → Option Nat
def setF' (F : PF) (s : PP) (n : Nat) : PF := fun q => if q = s then some n else F q
def mis (F : PF) (row : List PP) : Nat := (row.filter fun q => (F q).isNone).length
def sm (F : PF) : List PP → Nat
  | [] => 0
  | q :: r => (F q).getD 0 + sm F r
def Ltm (row : List PP) (F' F : PF) : Prop := mis F' row < mis F row ∨ (mis F' row = mis F row ∧ sm F' row < sm F row)
theorem Ltm.trans {row : List PP} {F'' F' F : PF} (a : Ltm row F'' F') (b : Ltm row F' F) : Ltm row F'' F := by
  unfold Ltm at *; omega
section
variable (m1 m2 : List Q)
def Diff (p : PP) (n : Nat) : Prop := sgn m1 p.1 n ≠ sgn m2 p.2 n
/-- what stands: differing places, the marked pairs at 0 -/
structure PlI (row : List PP) (F : PF) : Prop where
  val : ∀ p n, F p = some n → p ∈ row ∧ Diff m1 m2 p n
  mrk : ∀ p, p ∈ row → Diff m1 m2 p 0 → F p = some 0
end
section
variable {m1 m2 : List Q} (M1 : Mach m1) (M2 : Mach m2)
include M1 M2
theorem PlI.set {row : List PP} {F : PF} {s : PP} {n : Nat} (P : PlI m1 m2 row F) (hs : s ∈ row) (hd : Diff m1 m2 s n) (h : ∀ u, F s = some u → n < u) : PlI m1 m2 row (setF' F s n) := by
  refine ⟨fun p k hp => ?_, fun p hp h0 => ?_⟩
  · unfold setF' at hp
    split at hp
    · rename_i e; subst e; cases hp; exact ⟨hs, hd⟩
    · exact P.val p k hp
  · unfold setF'
    split
    · rename_i e
      subst e
      have := h 0 (P.mrk p hp h0)
      omega
    · exact P.mrk p hp h0
end
structure PlD (row : List PP) (l : List (PP × Nat)) : Prop where
  nd : (l.map (·.1)).Nodup
  sub : ∀ q ∈ l.map (·.1), q ∈ row
theorem PlD.len {row : List PP} {l : List (PP × Nat)} (P : PlD row l) : l.length ≤ row.length := by
  have := nodup_leP _ _ P.nd P.sub
  simpa using this
end Z
namespace Z
/-- a pair that is as it ought to be in a row -/
def goodP (m1 m2 : List Q) (row : List PP) (p : PP) : Prop := p.1 < m1.length ∧ p.2 < m2.length ∧ (stq m1 p.1).s = (stq m2 p.2).s ∧ nx1 m1 m2 p ∈ row ∧ nx2 m1 m2 p ∈ row
instance (m1 m2 : List Q) (row : List PP) (p : PP) : Decidable (goodP m1 m2 row p) := by unfold goodP; infer_instance
end Z
namespace Z
open Classical
section
variable {K : Nat} {row : Nat → Nat → Nat} {e o : Nat → Nat}
def AgK (row : Nat → Nat → Nat) (k x y : Nat) : Prop := ∀ n, n < 2 ^ k → row x n = row y n
theorem AgK.symm {k x y : Nat} (h : AgK row k x y) : AgK row k y x := fun n hn => (h n hn).symm
theorem AgK.trans {k x y z : Nat} (h : AgK row k x y) (g : AgK row k y z) : AgK row k x z := fun n hn => (h n hn).trans (g n hn)
end
end Z
namespace Z
open Classical
/-- the store without the spring -/
def mskS (p c : Nat) (S : Store) : Store := (S.set p (.nk [])).set c (.nk [])
theorem mq_get {p c j : Nat} {S : Store} (h1 : j ≠ p) (h2 : j ≠ c) : (mskS p c S)[j]? = S[j]? := by
  unfold mskS
  rw [List.getElem?_set_ne (Ne.symm h2), List.getElem?_set_ne (Ne.symm h1)]
theorem mq_no {p c j : Nat} {S : Store} {xs : List D} (h : (mskS p c S)[j]? = some (.lst xs)) : j ≠ p ∧ j ≠ c := by
  constructor
  · rintro rfl
    unfold mskS at h
    by_cases e : c = j
    · subst e
      rw [List.getElem?_set] at h
      split at h <;> simp_all
    · rw [List.getElem?_set_ne e, List.getElem?_set] at h
      split at h <;> simp_all
  · rintro rfl
    unfold mskS at h
    rw [List.getElem?_set] at h
    split at h <;> simp_all
theorem mq_le {p c : Nat} {S : Store} : LeL (mskS p c S) S := fun n xs h => by
  obtain ⟨h1, h2⟩ := mq_no h
  rw [mq_get h1 h2] at h
  exact h
theorem mq_fr {p c : Nat} {S S' : Store} (f : Fr p c S S') : LeL (mskS p c S) (mskS p c S') := fun n xs h => by
  obtain ⟨h1, h2⟩ := mq_no h
  rw [mq_get h1 h2] at h ⊢
  rw [f.old n (List.getElem?_eq_some_iff.mp h).1 h1 h2]
  exact h
theorem pdL_bd {g : Nat → Option PD} {k W : Nat} : ∀ {ds : List D}, (∀ d ∈ ds, ∃ x, d.pd g = some x ∧ x.dep ≤ k ∧ x.sml 20 = true ∧ x.wgt ≤ W) → ∃ xs, pdL g ds = some xs ∧ depL xs ≤ k ∧ smlL 20 xs = true ∧ wgtL xs ≤ ds.length * (W + 1)
  | [], _ => ⟨[], rfl, by simp [depL], rfl, by simp [wgtL]⟩
  | d :: ds, h => by
    obtain ⟨x, h1, h2, h3, h4⟩ := h d (by simp)
    obtain ⟨xs, g1, g2, g3, g4⟩ := pdL_bd (ds := ds) fun e he => h e (List.mem_cons_of_mem _ he)
    refine ⟨x :: xs, by rw [pdL, h1, g1], by simp [depL]; omega, by simp [smlL, h3, g3], ?_⟩
    rw [wgtL, List.length_cons, Nat.succ_mul]
    omega
def W06 (n : Nat) : Nat := 20 * 4 ^ n
theorem W06_succ (n : Nat) : 3 * (W06 n + 1) ≤ W06 (n + 1) := by
  unfold W06
  have : 1 ≤ 4 ^ n := Nat.one_le_pow _ _ (by decide)
  rw [Nat.pow_succ]
  omega
theorem W06_le {n m : Nat} (h : n ≤ m) : W06 n ≤ W06 m := Nat.mul_le_mul_left _ (Nat.pow_le_pow_right (by decide) h)
/-- a thing -/
structure Tg (p c n : Nat) (S : Store) (d : D) : Prop where
  ex : ∃ x, dat (mskS p c S) d = some x ∧ x.dep ≤ n ∧ x.sml 20 = true ∧ x.wgt ≤ W06 n
  sh : Sh d
  tl : ∀ ds, d = .tup ds → ds.length ≤ 3
section
variable {p c n : Nat} {S S' : Store} {d : D}
theorem Tg.mono (h : Tg p c n S d) (f : Fr p c S S') : Tg p c n S' d := by
  obtain ⟨⟨x, h1, h2⟩, h3, h4⟩ := h
  exact ⟨⟨x, dat_mono (mq_fr f) h1, h2⟩, h3, h4⟩
theorem Tg.le {m : Nat} (h : Tg p c n S d) (l : n ≤ m) : Tg p c m S d := by
  obtain ⟨⟨x, h1, h2, h3, h4⟩, h5, h6⟩ := h
  exact ⟨⟨x, h1, by omega, h3, by have := W06_le l; omega⟩, h5, h6⟩
theorem Tg.dn (h : Tg p c n S d) : Dn n S d := by
  obtain ⟨⟨x, h1, h2, h3, h4⟩, h5, h6⟩ := h
  exact ⟨⟨x, dat_mono mq_le h1, h2⟩, h5⟩
theorem Tg.tup {ds : List D} (h : ∀ d ∈ ds, Tg p c n S d) (hl : ds.length ≤ 3) : Tg p c (n + 1) S (.tup ds) := by
  obtain ⟨xs, h1, h2, h3, h4⟩ := pdL_bd (g := rdR 70 (mskS p c S)) (k := n) (W := W06 n) (ds := ds) fun d hd => (h d hd).ex
  refine ⟨⟨.tup xs, by unfold dat; rw [D.pd, h1]; rfl, by simp [PD.dep]; omega, by simp [PD.sml, h3], ?_⟩, ?_, fun es e => by cases e; exact hl⟩
  · show wgtL xs ≤ _
    have := W06_succ n
    have h5 := Nat.mul_le_mul_right (W06 n + 1) hl
    omega
  · rw [Sh]
    exact shL_iff.mpr fun x hx => (h x hx).sh
theorem Tg.lst {ds : List D} {r : Nat} (hn : n ≤ 60) (g : S[r]? = some (.lst ds)) (h1 : r ≠ p) (h2 : r ≠ c) (h : ∀ d ∈ ds, Tg p c n S d) (hl : ds.length ≤ 3) : Tg p c (n + 1) S (.ref r) := by
  obtain ⟨xs, g1, g2, g3, g4⟩ := pdL_bd (g := rdR 70 (mskS p c S)) (k := n) (W := W06 n) (ds := ds) fun d hd => (h d hd).ex
  have gm : (mskS p c S)[r]? = some (.lst ds) := by rw [mq_get h1 h2]; exact g
  refine ⟨⟨.lst xs, ?_, by simp [PD.dep]; omega, by simp [PD.sml, g3], ?_⟩, trivial, fun es e => by cases e⟩
  · unfold dat
    rw [D.pd, rdR, gm]
    dsimp only
    rw [pdL_bnd (fun n x e hd => rdR_fuel 70 69 n x e (by omega)) ds xs g1 (Nat.le_refl _)]
    rfl
  · show wgtL xs ≤ _
    have := W06_succ n
    have h5 := Nat.mul_le_mul_right (W06 n + 1) hl
    omega
theorem Tg.str (s : List Nat) (h : s.length ≤ 10) : Tg p c 0 S (.str s) := ⟨⟨.str s, by simp [dat, D.pd], by simp [PD.dep], rfl, by simp [PD.wgt, W06]; omega⟩, by rw [Sh]; omega, fun es e => by cases e⟩
theorem Tg.int (i : Nat) (h : i ≤ 20) : Tg p c 0 S (.int (i : Nat)) := by
  have hl : ((i : Nat) : Int).natAbs.log2 ≤ i := by rw [Int.natAbs_natCast]; exact Nat.log2_le_self i
  have h5 : ((i : Nat) : Int).natAbs.log2 < 5 := by
    rw [Int.natAbs_natCast]
    by_cases h0 : i = 0
    · subst h0; decide
    · rw [Nat.log2_lt h0]; omega
  exact ⟨⟨.int (i : Nat), by simp [dat, D.pd], by simp [PD.dep], by simp only [PD.sml, decide_eq_true_eq]; omega, by simp only [PD.wgt, W06]; omega⟩, by simp [Sh], fun es e => by cases e⟩
theorem Tg.bl (b : Bool) : Tg p c 0 S (.bl b) := ⟨⟨.bl b, by simp [dat, D.pd], by simp [PD.dep], rfl, by simp [PD.wgt]⟩, by simp [Sh], fun es e => by cases e⟩
theorem Tg.non : Tg p c 0 S .non := ⟨⟨.non, by simp [dat, D.pd], by simp [PD.dep], rfl, by simp [PD.wgt]⟩, by simp [Sh], fun es e => by cases e⟩
/-- its text -/
theorem Tg.repr (h : Tg p c n S d) (hn : n ≤ 7) : ∃ t : List Nat, ∀ S', LeL (mskS p c S) S' → reprD [d] S' = some (.ok (.str t) S') := by
  obtain ⟨⟨x, h1, h2, h3, h4⟩, h5, h6⟩ := h
  refine ⟨rtext x, fun S' l => o_reprD (dat_mono l h1) (by omega) (.inl ⟨h3, ?_⟩)⟩
  have := W06_le hn
  have h7 : W06 7 = 327680 := by decide
  omega
end
abbrev e8t (o0 o1 o2 o3 o4 o5 o6 o7 : Option D) : Env := [o0, o1, o2, o3, o4, o5, o6, o7]
/-- the small things -/
theorem small06 {p c : Nat} {S : Store} {deep : Nat} (hs : Sp S p c) (f : Nat) (w : Int) (hw : w < 2) (o3 o4 o5 o6 o7 : Option D) (rest : SS) :
    ∃ d S', sq (sIf (tVal (e2 ltD (eVar 2) (eC (.int 2)))) (sq (sAsg (eLst [eC (.str [97]), eC (.str [98]), eC (.str [114, 111, 119]), eC (.str [122, 105, 112]), eC (.int 0), eC (.int 1), eC (.int 9), eC (.int 10), eC (.bl true), eC (.bl false), eC .non, eC (.str []), eTup [], eLst [], eTup [eC (.str [114, 111, 119]), eC (.str [97])], eLst [eC (.str [114, 111, 119]), eC (.str [97])]]) (gName 3)) (sRet (e2 ixD (eVar 3) (eCall R_law_drop [eVar 0, eC (.int 16)])))) (sNx)) rest (e8t (some (.ref p)) (some (.int (deep : Nat))) (some (.int w)) o3 o4 o5 o6 o7) S = some (.rt d S') ∧ Tg p c 1 S' d ∧ Sp S' p c ∧ Fr p c S S' := by
  have hlt := hs.lt
  obtain ⟨a, ha⟩ : ∃ a, a = S.length := ⟨_, rfl⟩
  obtain ⟨L, hL⟩ : ∃ L : List D, L = [.str [97], .str [98], .str [114, 111, 119], .str [122, 105, 112], .int 0, .int 1, .int 9, .int 10, .bl true, .bl false, .non, .str [], .tup [], .ref a, .tup [.str [114, 111, 119], .str [97]], .ref (a + 1)] := ⟨_, rfl⟩
  obtain ⟨S1, hS1⟩ : ∃ S1, S1 = S ++ [MO.lst [], .lst [.str [114, 111, 119], .str [97]], .lst L] := ⟨_, rfl⟩
  have hs1 : Sp S1 p c := by rw [hS1]; exact hs.app
  obtain ⟨v, S2, e2', hv, hs2, hl2, f2⟩ := drop_nat hs1 16 (by decide) (by decide)
  have e2a : R_law_drop [.ref p, .int 16] S1 = some (.ok (.int v) S2) := e2'
  have f1 : Fr p c S S1 := by rw [hS1]; exact .app
  have g2 : ∀ j, S.length ≤ j → j < S1.length → S2[j]? = S1[j]? := fun j h1 h2 => f2.old j h2 (by omega) (by omega)
  have hlen : S1.length = S.length + 3 := by rw [hS1]; simp
  have gA : S2[a]? = some (.lst []) := by rw [ha, g2 _ (by omega) (by omega), hS1]; simp
  have gB : S2[a + 1]? = some (.lst [.str [114, 111, 119], .str [97]]) := by rw [ha, g2 _ (by omega) (by omega), hS1]; simp
  have gL : S2[a + 2]? = some (.lst L) := by rw [ha, g2 _ (by omega) (by omega), hS1]; simp
  have hall : ∀ x ∈ L, Tg p c 1 S2 x := fun x hx => by
    rw [hL] at hx
    have tr : ∀ y ∈ [D.str [114, 111, 119], .str [97]], Tg p c 0 S2 y := fun y hy => by
      simp only [List.mem_cons, List.not_mem_nil, or_false] at hy
      rcases hy with rfl | rfl <;> exact .str _ (by decide)
    simp only [List.mem_cons, List.not_mem_nil, or_false] at hx
    rcases hx with rfl | rfl | rfl | rfl | rfl | rfl | rfl | rfl | rfl | rfl | rfl | rfl | rfl | rfl | rfl | rfl
    · exact (Tg.str _ (by decide)).le (by decide)
    · exact (Tg.str _ (by decide)).le (by decide)
    · exact (Tg.str _ (by decide)).le (by decide)
    · exact (Tg.str _ (by decide)).le (by decide)
    · exact (Tg.int 0 (by decide)).le (by decide)
    · exact (Tg.int 1 (by decide)).le (by decide)
    · exact (Tg.int 9 (by decide)).le (by decide)
    · exact (Tg.int 10 (by decide)).le (by decide)
    · exact (Tg.bl _).le (by decide)
    · exact (Tg.bl _).le (by decide)
    · exact Tg.non.le (by decide)
    · exact (Tg.str _ (by decide)).le (by decide)
    · exact Tg.tup (n := 0) (fun y hy => (nomatch hy)) (by decide)
    · exact Tg.lst (n := 0) (by decide) gA (by omega) (by omega) (fun y hy => (nomatch hy)) (by decide)
    · exact Tg.tup (n := 0) tr (by decide)
    · exact Tg.lst (n := 0) (by decide) gB (by omega) (by omega) tr (by decide)
  have hLl : L.length = 16 := by rw [hL]; rfl
  have hx : L[v]? = some L[v] := List.getElem?_eq_getElem (by omega)
  have hat : atI L (v : Int) = some L[v] := atI_nat hx
  refine ⟨L[v], S2, ?_, hall _ (List.mem_of_getElem? hx), hs2, f1.trans f2⟩
  have t1 : eLst [eC (.str [97]), eC (.str [98]), eC (.str [114, 111, 119]), eC (.str [122, 105, 112]), eC (.int 0), eC (.int 1), eC (.int 9), eC (.int 10), eC (.bl true), eC (.bl false), eC .non, eC (.str []), eTup [], eLst [], eTup [eC (.str [114, 111, 119]), eC (.str [97])], eLst [eC (.str [114, 111, 119]), eC (.str [97])]] (e8t (some (.ref p)) (some (.int (deep : Nat))) (some (.int w)) o3 o4 o5 o6 o7) S = some (.ok (.ref (a + 2)) S1) := by
    rw [hS1, hL, ha]
    simp
  obtain ⟨z, hz⟩ : ∃ z, z = L[v] := ⟨_, rfl⟩
  rw [← hz] at hat ⊢
  obtain ⟨E, hE⟩ : ∃ E, E = eLst [eC (.str [97]), eC (.str [98]), eC (.str [114, 111, 119]), eC (.str [122, 105, 112]), eC (.int 0), eC (.int 1), eC (.int 9), eC (.int 10), eC (.bl true), eC (.bl false), eC .non, eC (.str []), eTup [], eLst [], eTup [eC (.str [114, 111, 119]), eC (.str [97])], eLst [eC (.str [114, 111, 119]), eC (.str [97])]] := ⟨_, rfl⟩
  rw [← hE] at t1 ⊢
  simp [hw, t1, e2a, gL, hat]
/-- a thing as it is drawn -/
theorem s_thing06 {p c : Nat} : ∀ (f deep : Nat) (S : Store), deep < f → deep ≤ 40 → Sp S p c → ∃ d S', R_law_thing_v2 f [.ref p, .int (deep : Nat)] S = some (.ok d S') ∧ Tg p c (deep + 1) S' d ∧ Sp S' p c ∧ Fr p c S S'
  | 0, deep, S, h, _, _ => absurd h (by omega)
  | f + 1, deep, S, hf, h40, hs => by
    obtain ⟨v, S1, e1, hv, s1, _, f1⟩ := drop_nat hs 9 (by decide) (by decide)
    have e1a : R_law_drop [.ref p, .int 9] S = some (.ok (.int v) S1) := e1
    have env : (List.map some [D.ref p, .int (deep : Nat)] ++ List.replicate (8 - 2) none : Env) = e8t (some (.ref p)) (some (.int (deep : Nat))) none none none none none none := rfl
    obtain ⟨w, hw⟩ : ∃ w : Nat, w = if 0 < deep then v else 0 := ⟨_, rfl⟩
    have t1 : sAsg (e2 mulD (eCall R_law_drop [eVar 0, eC (.int 9)]) (eCall intF [e2 gtD (eVar 1) (eC (.int 0))])) (gName 2) (e8t (some (.ref p)) (some (.int (deep : Nat))) none none none none none none) S = some (.nx (e8t (some (.ref p)) (some (.int (deep : Nat))) (some (.int (w : Nat))) none none none none none) S1) := by
      by_cases h0 : 0 < deep
      · have h0' : (0 : Int) < (deep : Int) := by omega
        have sm : small (1 : Int) := small_nat (n := 1) (by decide)
        rw [hw, if_pos h0]
        simp [e1a, h0, h0', sm]
      · have h0' : ¬ (0 : Int) < (deep : Int) := by omega
        have sm : small (0 : Int) := small_nat (n := 0) (by decide)
        rw [hw, if_neg h0]
        simp [e1a, h0, h0', sm]
    by_cases c2 : w < 2
    · obtain ⟨d, S2, e2', h2, s2, f2⟩ := small06 (deep := deep) s1 f (w : Int) (by omega) none none none none none (sq (sAsg (eCall (R_law_thing_v2 f) [eVar 0, e2 subD (eVar 1) (eC (.int 1))]) (gName 4)) (sq (sAsg (eCall (R_law_thing_v2 f) [eVar 0, e2 subD (eVar 1) (eC (.int 1))]) (gName 5)) (sq (sAsg (eLst [eTup [eC (.str [98, 101, 104, 105, 110, 100]), eVar 4], eTup [eC (.str [115, 105, 103, 110]), eCall R_law_drop [eVar 0, eC (.int 11)], eVar 4], eTup [eC (.str [122, 105, 112]), eVar 4, eVar 5], eTup [eC (.str [97]), eVar 4], eTup [eVar 4, eVar 5]]) (gName 6)) (sq (sAsg (e2 addD (eVar 6) (eLst [eTup [eVar 4], eTup [eC (.int 0), eC (.int 0), eCall R_law_drop [eVar 0, eC (.int 2)]]])) (gName 6)) (sq (sAsg (e2 ixD (eVar 6) (e2 subD (eVar 2) (eC (.int 2)))) (gName 7)) (sq (sIf (tVal (e2 eqD (eCall R_law_drop [eVar 0, eC (.int 4)]) (eC (.int 0)))) (sRet (eCall listF [eVar 7])) (sNx)) (sRet (eVar 7))))))))
      refine ⟨d, S2, ?_, h2.le (by omega), s2, f1.trans f2⟩
      rw [R_law_thing_v2, run_eq (n := 2) _ _ rfl]
      unfold b_law_thing_v2
      rw [env, sq_nx t1, e2']
      rfl
    -- a thing with things in it
    have hd0 : 0 < deep := by
      by_cases h0 : 0 < deep
      · exact h0
      · rw [if_neg h0] at hw; omega
    obtain ⟨deep, rfl⟩ : ∃ k, deep = k + 1 := ⟨deep - 1, by omega⟩
    have hdc : ((deep + 1 : Nat) : Int) - 1 = (deep : Int) := by omega
    have t2 : ∀ rest : SS, sIf (tVal (e2 ltD (eVar 2) (eC (.int 2)))) rest (sNx) (e8t (some (.ref p)) (some (.int ((deep + 1 : Nat) : Int))) (some (.int (w : Nat))) none none none none none) S1 = some (.nx (e8t (some (.ref p)) (some (.int ((deep + 1 : Nat) : Int))) (some (.int (w : Nat))) none none none none none) S1) := fun rest => by
      have hn : ¬ (w : Int) < 2 := by omega
      have : tVal (e2 ltD (eVar 2) (eC (.int 2))) (e8t (some (.ref p)) (some (.int ((deep + 1 : Nat) : Int))) (some (.int (w : Nat))) none none none none none) S1 = some (.ok false S1) := by simp [hn]
      rw [sif_t this]
      rfl
    obtain ⟨x, S2, e2', hx, s2, f2⟩ := s_thing06 (p := p) (c := c) f deep S1 (by omega) (by omega) s1
    obtain ⟨y, S3, e3, hy, s3, f3⟩ := s_thing06 (p := p) (c := c) f deep S2 (by omega) (by omega) s2
    obtain ⟨k, S4, e4, hk, s4, _, f4⟩ := drop_nat s3 11 (by decide) (by decide)
    have e4a : R_law_drop [.ref p, .int 11] S3 = some (.ok (.int k) S4) := e4
    obtain ⟨L1, hL1⟩ : ∃ L : List D, L = [.tup [.str [98, 101, 104, 105, 110, 100], x], .tup [.str [115, 105, 103, 110], .int (k : Nat), x], .tup [.str [122, 105, 112], x, y], .tup [.str [97], x], .tup [x, y]] := ⟨_, rfl⟩
    obtain ⟨S5, hS5⟩ : ∃ S5, S5 = S4 ++ [MO.lst L1] := ⟨_, rfl⟩
    have s5 : Sp S5 p c := by rw [hS5]; exact s4.app
    have f5 : Fr p c S4 S5 := by rw [hS5]; exact .app
    obtain ⟨j, S6, e6, hj, s6, l6, f6⟩ := drop_nat s5 2 (by decide) (by decide)
    have e6a : R_law_drop [.ref p, .int 2] S5 = some (.ok (.int j) S6) := e6
    obtain ⟨L2', hL2⟩ : ∃ L : List D, L = [.tup [x], .tup [.int 0, .int 0, .int (j : Nat)]] := ⟨_, rfl⟩
    obtain ⟨S7, hS7⟩ : ∃ S7, S7 = S6 ++ [MO.lst L2'] := ⟨_, rfl⟩
    obtain ⟨S8, hS8⟩ : ∃ S8, S8 = S7 ++ [MO.lst (L1 ++ L2')] := ⟨_, rfl⟩
    have f7 : Fr p c S6 S7 := by rw [hS7]; exact .app
    have f8 : Fr p c S7 S8 := by rw [hS8]; exact .app
    have s8 : Sp S8 p c := by rw [hS8, hS7]; exact s6.app.app
    have hp3 := s4.lt
    have g6 : S6[S4.length]? = some (.lst L1) := by
      rw [f6.old _ (by rw [hS5]; simp) (by omega) (by omega), hS5]; simp
    have g7a : S7[S4.length]? = some (.lst L1) := by rw [hS7]; exact get_app g6 _
    have g7b : S7[S6.length]? = some (.lst L2') := by rw [hS7]; simp
    have g8 : S8[S7.length]? = some (.lst (L1 ++ L2')) := by rw [hS8]; simp
    have hx8 : Tg p c (deep + 1) S8 x := hx.mono (((((f3.trans f4).trans f5).trans f6).trans f7).trans f8)
    have hy8 : Tg p c (deep + 1) S8 y := hy.mono ((((f4.trans f5).trans f6).trans f7).trans f8)
    have th0 : ∀ {d : D}, Tg p c 0 S8 d → Tg p c (deep + 1) S8 d := fun h => h.le (by omega)
    have hall : ∀ z ∈ L1 ++ L2', ∃ ds, z = .tup ds ∧ ds.length ≤ 3 ∧ ∀ d ∈ ds, Tg p c (deep + 1) S8 d := fun z hz => by
      rw [hL1, hL2] at hz
      simp only [List.cons_append, List.nil_append, List.mem_cons, List.not_mem_nil, or_false] at hz
      rcases hz with rfl | rfl | rfl | rfl | rfl | rfl | rfl
      · exact ⟨_, rfl, by simp, fun d hd => by
          simp only [List.mem_cons, List.not_mem_nil, or_false] at hd
          rcases hd with rfl | rfl
          · exact th0 (.str _ (by decide))
          · exact hx8⟩
      · exact ⟨_, rfl, by simp, fun d hd => by
          simp only [List.mem_cons, List.not_mem_nil, or_false] at hd
          rcases hd with rfl | rfl | rfl
          · exact th0 (.str _ (by decide))
          · exact th0 (.int _ (by omega))
          · exact hx8⟩
      · exact ⟨_, rfl, by simp, fun d hd => by
          simp only [List.mem_cons, List.not_mem_nil, or_false] at hd
          rcases hd with rfl | rfl | rfl
          · exact th0 (.str _ (by decide))
          · exact hx8
          · exact hy8⟩
      · exact ⟨_, rfl, by simp, fun d hd => by
          simp only [List.mem_cons, List.not_mem_nil, or_false] at hd
          rcases hd with rfl | rfl
          · exact th0 (.str _ (by decide))
          · exact hx8⟩
      · exact ⟨_, rfl, by simp, fun d hd => by
          simp only [List.mem_cons, List.not_mem_nil, or_false] at hd
          rcases hd with rfl | rfl
          · exact hx8
          · exact hy8⟩
      · exact ⟨_, rfl, by simp, fun d hd => by
          simp only [List.mem_cons, List.not_mem_nil, or_false] at hd
          subst hd
          exact hx8⟩
      · exact ⟨_, rfl, by simp, fun d hd => by
          simp only [List.mem_cons, List.not_mem_nil, or_false] at hd
          rcases hd with rfl | rfl | rfl
          · exact th0 (.int 0 (by omega))
          · exact th0 (.int 0 (by omega))
          · exact th0 (.int _ (by omega))⟩
    have hwv : w ≤ 8 := by rw [if_pos hd0] at hw; omega
    have hLl : (L1 ++ L2').length = 7 := by rw [hL1, hL2]; rfl
    have hz : (L1 ++ L2')[w - 2]? = some (L1 ++ L2')[w - 2] := List.getElem?_eq_getElem (by omega)
    obtain ⟨z, hzz⟩ : ∃ z, z = (L1 ++ L2')[w - 2] := ⟨_, rfl⟩
    rw [← hzz] at hz
    have hat : atI (L1 ++ L2') ((w : Int) - 2) = some z := by
      rw [show (w : Int) - 2 = ((w - 2 : Nat) : Int) by omega]
      exact atI_nat hz
    obtain ⟨ds, hzd, hdl, hds⟩ := hall z (List.mem_of_getElem? hz)
    obtain ⟨u, S9, e9, hu, s9, l9, f9⟩ := drop_nat s8 4 (by decide) (by decide)
    have e9a : R_law_drop [.ref p, .int 4] S8 = some (.ok (.int u) S9) := e9
    have F9 : Fr p c S S9 := (((((((f1.trans f2).trans f3).trans f4).trans f5).trans f6).trans f7).trans f8).trans f9
    obtain ⟨Z, hZ⟩ : ∃ Z : Option D → Option D → Option D → Option D → Env, Z = fun o4 o5 o6 o7 => e8t (some (.ref p)) (some (.int ((deep + 1 : Nat) : Int))) (some (.int (w : Nat))) none o4 o5 o6 o7 := ⟨_, rfl⟩
    have t3 : sAsg (eCall (R_law_thing_v2 f) [eVar 0, e2 subD (eVar 1) (eC (.int 1))]) (gName 4) (Z none none none none) S1 = some (.nx (Z (some x) none none none) S2) := by
      rw [hZ]
      simp only []
      have := hdc
      simp at this
      simp [this, e2']
    have t4 : sAsg (eCall (R_law_thing_v2 f) [eVar 0, e2 subD (eVar 1) (eC (.int 1))]) (gName 5) (Z (some x) none none none) S2 = some (.nx (Z (some x) (some y) none none) S3) := by
      rw [hZ]
      simp only []
      have := hdc
      simp at this
      simp [this, e3]
    have t5 : sAsg (eLst [eTup [eC (.str [98, 101, 104, 105, 110, 100]), eVar 4], eTup [eC (.str [115, 105, 103, 110]), eCall R_law_drop [eVar 0, eC (.int 11)], eVar 4], eTup [eC (.str [122, 105, 112]), eVar 4, eVar 5], eTup [eC (.str [97]), eVar 4], eTup [eVar 4, eVar 5]]) (gName 6) (Z (some x) (some y) none none) S3 = some (.nx (Z (some x) (some y) (some (.ref S4.length)) none) S5) := by
      rw [hZ, hS5, hL1]
      simp [e4a]
    have t6 : sAsg (e2 addD (eVar 6) (eLst [eTup [eVar 4], eTup [eC (.int 0), eC (.int 0), eCall R_law_drop [eVar 0, eC (.int 2)]]])) (gName 6) (Z (some x) (some y) (some (.ref S4.length)) none) S5 = some (.nx (Z (some x) (some y) (some (.ref S7.length)) none) S8) := by
      have hadd : addD (.ref S4.length) (.ref S6.length) S7 = some (.ok (.ref S7.length) S8) := by
        have hL' : L1.length + L2'.length ≤ LINE := by rw [LINE_eq, hL1, hL2]; simp
        rw [hS8]
        simp [addD, g7a, g7b, new1, hL']
      have hin : eLst [eTup [eVar 4], eTup [eC (.int 0), eC (.int 0), eCall R_law_drop [eVar 0, eC (.int 2)]]] (Z (some x) (some y) (some (.ref S4.length)) none) S5 = some (.ok (.ref S6.length) S7) := by
        rw [hZ, hS7, hL2]
        simp [e6a]
      have hv6 : eVar 6 (Z (some x) (some y) (some (.ref S4.length)) none) S5 = some (.ok (.ref S4.length) S5) := by rw [hZ]; rfl
      rw [x_asg, x_2, hv6, bd_ok, hin, bd_ok, hadd, hZ]
      rfl
    have t7 : sAsg (e2 ixD (eVar 6) (e2 subD (eVar 2) (eC (.int 2)))) (gName 7) (Z (some x) (some y) (some (.ref S7.length)) none) S8 = some (.nx (Z (some x) (some y) (some (.ref S7.length)) (some z)) S8) := by
      rw [hZ]
      generalize L1 ++ L2' = LL at g8 hat ⊢
      simp [g8, hat]
    have tt : tVal (e2 eqD (eCall R_law_drop [eVar 0, eC (.int 4)]) (eC (.int 0))) (Z (some x) (some y) (some (.ref S7.length)) (some z)) S8 = some (.ok (decide ((u : Int) = 0)) S9) := by
      refine tv_t ?_
      rw [hZ]
      simp [e9a]
    have hds9 : ∀ d ∈ ds, Tg p c (deep + 1) S9 d := fun d hd => (hds d hd).mono f9
    by_cases cu : (u : Int) = 0
    · refine ⟨.ref S9.length, S9 ++ [.lst ds], ?_, Tg.lst (n := deep + 1) (ds := ds) (by omega) (by simp) (by have := s9.lt; omega) (by have := s9.lt; omega) (fun d hd => (hds9 d hd).mono .app) hdl, s9.app, F9.trans .app⟩
      rw [R_law_thing_v2, run_eq (n := 2) _ _ rfl]
      unfold b_law_thing_v2
      rw [env, sq_nx t1, sq_nx (t2 _)]
      rw [show e8t (some (.ref p)) (some (.int ((deep + 1 : Nat) : Int))) (some (.int (w : Nat))) none none none none none = Z none none none none by rw [hZ]]
      rw [sq_nx t3, sq_nx t4, sq_nx t5, sq_nx t6, sq_nx t7, x_sq, sif_t tt, decide_eq_true cu, if_pos rfl, hZ, hzd]
      have hll : ds.length ≤ LINE := by rw [LINE_eq]; omega
      simp [listF, new1, hll]
    · refine ⟨z, S9, ?_, by rw [hzd]; exact Tg.tup hds9 hdl, s9, F9⟩
      rw [R_law_thing_v2, run_eq (n := 2) _ _ rfl]
      unfold b_law_thing_v2
      rw [env, sq_nx t1, sq_nx (t2 _)]
      rw [show e8t (some (.ref p)) (some (.int ((deep + 1 : Nat) : Int))) (some (.int (w : Nat))) none none none none none = Z none none none none by rw [hZ]]
      rw [sq_nx t3, sq_nx t4, sq_nx t5, sq_nx t6, sq_nx t7, x_sq, sif_t tt, decide_eq_false cu, if_neg (by decide), hZ]
      rfl
end Z
namespace Z
open Classical
theorem pdL_bls (g : Nat → Option PD) : ∀ bs : List Bool, pdL g (bs.map .bl) = some (bs.map .bl)
  | [] => rfl
  | b :: bs => by rw [List.map_cons, pdL, pdL_bls g bs]; rfl
theorem depL_bls : ∀ bs : List Bool, depL (bs.map .bl) = 0
  | [] => by simp [depL]
  | b :: bs => by rw [List.map_cons, depL, depL_bls bs]; simp [PD.dep]
theorem dat_bls {S : Store} {a : Nat} {bs : List Bool} (g : S[a]? = some (.lst (bs.map .bl))) : dat S (.ref a) = some (.lst (bs.map .bl)) ∧ (PD.lst (bs.map .bl)).dep ≤ 60 := by
  constructor
  · unfold dat
    rw [D.pd, rdR, g]
    dsimp only
    rw [pdL_bls]
    rfl
  · rw [PD.dep, depL_bls]; decide
theorem ne_bls06 {S : Store} {a b : Nat} {bs : List Bool} (g : S[a]? = some (.lst (bs.map .bl))) (g' : S[b]? = some (.lst (bs.map .bl))) : neD (.ref a) (.ref b) S = some (.ok (.bl false) S) := by
  obtain ⟨h1, h2⟩ := dat_bls g
  obtain ⟨h3, _⟩ := dat_bls g'
  have := PD.eqv_refl (PD.lst (bs.map .bl))
  unfold neD
  rw [h1, h3]
  dsimp only
  rw [if_pos ⟨by omega, by omega⟩, this]
  rfl
theorem eq_bls06 {S : Store} {a b : Nat} {bs : List Bool} (g : S[a]? = some (.lst (bs.map .bl))) (g' : S[b]? = some (.lst (bs.map .bl))) : eqD (.ref a) (.ref b) S = some (.ok (.bl true) S) := by
  obtain ⟨h1, h2⟩ := dat_bls g
  obtain ⟨h3, _⟩ := dat_bls g'
  have := PD.eqv_refl (PD.lst (bs.map .bl))
  unfold eqD
  rw [h1, h3]
  dsimp only
  rw [if_pos ⟨by omega, by omega⟩, this]
def CL6 : List String := ["NoName", "NoRow", "NoText", "Told", "TooBig", "Waits"]
def fl6 (c : String) : List Bool := CL6.map fun x => decide (c = x)
theorem s_kinds06 {S : Store} {r : Nat} {c : String} (g : S[r]? = some (.exn c)) (hc : c ∈ CL6 ∨ c = "ZipError") : ∃ l S', R_law_kinds [.ref r] S = some (.ok (.ref l) S') ∧ S'[l]? = some (.lst ((fl6 c).map .bl)) ∧ Keep S S' := by
  obtain ⟨a, b, e, d, f, h, hf⟩ : ∃ a b e d f h, fl6 c = [a, b, e, d, f, h] := ⟨_, _, _, _, _, _, rfl⟩
  obtain ⟨S1, hS1⟩ : ∃ S1, S1 = S ++ [MO.lst [.bl a, .bl b, .bl e, .bl d]] := ⟨_, rfl⟩
  obtain ⟨S2, hS2⟩ : ∃ S2, S2 = S1 ++ [MO.lst [.bl f, .bl h]] := ⟨_, rfl⟩
  obtain ⟨S3, hS3⟩ : ∃ S3, S3 = S2 ++ [MO.lst [.bl a, .bl b, .bl e, .bl d, .bl f, .bl h]] := ⟨_, rfl⟩
  have g1 : S1[r]? = some (.exn c) := by rw [hS1]; exact get_app g _
  have g2a : S2[S.length]? = some (.lst [.bl a, .bl b, .bl e, .bl d]) := by rw [hS2, hS1]; simp
  have g2b : S2[S1.length]? = some (.lst [.bl f, .bl h]) := by rw [hS2]; simp
  refine ⟨S2.length, S3, ?_, by rw [hS3, hf]; simp, by rw [hS3, hS2, hS1]; exact (Keep.app.trans .app).trans .app⟩
  have t1 : sAsg (eLst [e1 (isXF [("NoName", true), ("NoRow", false), ("NoText", false), ("Told", false), ("TooBig", false), ("Waits", false), ("ZipError", false)]) (eVar 0), e1 (isXF [("NoName", false), ("NoRow", true), ("NoText", false), ("Told", false), ("TooBig", false), ("Waits", false), ("ZipError", false)]) (eVar 0), e1 (isXF [("NoName", false), ("NoRow", false), ("NoText", true), ("Told", false), ("TooBig", false), ("Waits", false), ("ZipError", false)]) (eVar 0), e1 (isXF [("NoName", false), ("NoRow", false), ("NoText", false), ("Told", true), ("TooBig", false), ("Waits", false), ("ZipError", false)]) (eVar 0)]) (gName 1) [some (.ref r), none] S = some (.nx [some (.ref r), some (.ref S.length)] S1) := by
    rw [hS1]
    simp only [CL6, List.mem_cons, List.not_mem_nil, or_false] at hc
    rcases hc with (rfl | rfl | rfl | rfl | rfl | rfl) | rfl <;> (simp [fl6, CL6] at hf; obtain ⟨rfl, rfl, rfl, rfl, rfl, rfl⟩ := hf; simp [isXF, g, pickB])
  have t2 : eLst [e1 (isXF [("NoName", false), ("NoRow", false), ("NoText", false), ("Told", false), ("TooBig", true), ("Waits", false), ("ZipError", false)]) (eVar 0), e1 (isXF [("NoName", false), ("NoRow", false), ("NoText", false), ("Told", false), ("TooBig", false), ("Waits", true), ("ZipError", false)]) (eVar 0)] [some (.ref r), some (.ref S.length)] S1 = some (.ok (.ref S1.length) S2) := by
    rw [hS2]
    simp only [CL6, List.mem_cons, List.not_mem_nil, or_false] at hc
    rcases hc with (rfl | rfl | rfl | rfl | rfl | rfl) | rfl <;> (simp [fl6, CL6] at hf; obtain ⟨rfl, rfl, rfl, rfl, rfl, rfl⟩ := hf; simp [isXF, g1, pickB])
  have t3 : addD (.ref S.length) (.ref S1.length) S2 = some (.ok (.ref S2.length) S3) := by
    have hL : 4 + 2 ≤ LINE := by rw [LINE_eq]; decide
    rw [hS3]
    simp [addD, g2a, g2b, new1]
    try (rw [LINE_eq]; decide)
  unfold R_law_kinds
  rw [run_eq (n := 1) _ _ rfl]
  unfold b_law_kinds
  rw [show (List.map some [D.ref r] ++ List.replicate (2 - 1) none : Env) = [some (.ref r), none] from rfl, sq_nx t1, x_ret, x_2]
  rw [show eVar 1 [some (D.ref r), some (D.ref S.length)] S1 = some (.ok (.ref S.length) S1) from rfl, bd_ok, t2, bd_ok, t3]
  rfl
abbrev tblT : List (String × Bool) := [("NoName", true), ("NoRow", true), ("NoText", true), ("Told", true), ("TooBig", true), ("Waits", true), ("ZipError", true)]
theorem isT06 {S : Store} {r : Nat} {c : String} (g : S[r]? = some (.exn c)) (hc : c ∈ CL6 ∨ c = "ZipError") : isXF tblT (.ref r) S = some (.ok (.bl true) S) := by
  simp only [CL6, List.mem_cons, List.not_mem_nil, or_false] at hc
  rcases hc with (rfl | rfl | rfl | rfl | rfl | rfl) | rfl <;> simp [isXF, g, pickB]
theorem fl6_at {i : Nat} {c : String} (h : CL6[i]? = some c) : fl6 c = (List.range 6).map fun k => decide (i = k) := by
  have hi : i < 6 := (List.getElem?_eq_some_iff.mp h).1
  have : i = 0 ∨ i = 1 ∨ i = 2 ∨ i = 3 ∨ i = 4 ∨ i = 5 := by omega
  rcases this with rfl | rfl | rfl | rfl | rfl | rfl <;> (simp [CL6] at h; subst h; decide)
theorem s_refusals06 (t : List Nat) (S : Store) : ∃ S', R_law_refusals_right [.str t] S = some (.ok (.bl true) S') ∧ Keep S S' := by
  obtain ⟨A, hA⟩ : ∃ A : Option D, A = some (.str t) := ⟨_, rfl⟩
  obtain ⟨n, hn⟩ : ∃ n, n = S.length := ⟨_, rfl⟩
  obtain ⟨Ls, hLs⟩ : ∃ L : List D, L = [.ref n, .ref (n + 1), .ref (n + 2), .ref (n + 3), .ref (n + 4), .ref (n + 5)] := ⟨_, rfl⟩
  obtain ⟨S1, hS1⟩ : ∃ S1, S1 = S ++ [MO.exn "NoName", .exn "NoRow", .exn "NoText", .exn "Told", .exn "TooBig", .exn "Waits", .lst Ls] := ⟨_, rfl⟩
  have gx : ∀ i c, CL6[i]? = some c → S1[n + i]? = some (.exn c) := fun i c h => by
    have hi : i < 6 := (List.getElem?_eq_some_iff.mp h).1
    rw [hS1, hn, List.getElem?_append_right (by omega), Nat.add_sub_cancel_left]
    have : i = 0 ∨ i = 1 ∨ i = 2 ∨ i = 3 ∨ i = 4 ∨ i = 5 := by omega
    rcases this with rfl | rfl | rfl | rfl | rfl | rfl <;> (simp [CL6] at h; subst h; rfl)
  have gl : S1[n + 6]? = some (.lst Ls) := by rw [hS1, hn]; simp
  have k1 : Keep S S1 := by rw [hS1]; exact .app
  have t1 : eLst [eMkX "NoName" (eVar 0), eMkX "NoRow" (eVar 0), eMkX "NoText" (eVar 0), eMkX "Told" (eVar 0), eMkX "TooBig" (eVar 0), eMkX "Waits" (eVar 0)] [A, none, none, none] S = some (.ok (.ref (n + 6)) S1) := by
    rw [hA, hS1, hLs, hn]
    simp
  obtain ⟨ρ', S2, h2, ⟨o1, o2, rfl, k2⟩⟩ := forL_idx (chk := fun T => T[n + 6]? = some (.lst Ls)) (g := gTup [gName 1, gName 2]) (b := lb_law_refusals_right_1 R_law_kinds)
    (fun i ρ T => ∃ o1 o2, ρ = [A, o1, o2, none] ∧ Keep S1 T) (fun i ρ T ⟨_, _, _, k⟩ => k.get gl) (enumL 0 Ls) 0 (fun i x hx ρ T ⟨o1, o2, hρ, k⟩ => by
      subst hρ
      rw [enumL_get] at hx
      obtain ⟨d, hd, rfl⟩ := Option.map_eq_some_iff.mp hx
      have hi : i < 6 := by
        have := (List.getElem?_eq_some_iff.mp hd).1
        rw [hLs] at this
        exact this
      have hdr : d = .ref (n + i) := by
        rw [hLs] at hd
        have : i = 0 ∨ i = 1 ∨ i = 2 ∨ i = 3 ∨ i = 4 ∨ i = 5 := by omega
        rcases this with rfl | rfl | rfl | rfl | rfl | rfl <;> (simp at hd; exact hd.symm)
      subst hdr
      obtain ⟨c, hc⟩ : ∃ c, CL6[i]? = some c := ⟨_, List.getElem?_eq_getElem (show i < CL6.length from hi)⟩
      have hcm : c ∈ CL6 ∨ c = "ZipError" := .inl (List.mem_of_getElem? hc)
      have gT : T[n + i]? = some (.exn c) := k.get (gx i c hc)
      obtain ⟨l, T1, q1, gl1, k1⟩ := s_kinds06 gT hcm
      obtain ⟨T2, hT2⟩ : ∃ T2, T2 = T1 ++ [MO.lst ((fl6 c).map .bl)] := ⟨_, rfl⟩
      refine ⟨[A, some (.int ((0 + i : Nat) : Int)), some (.ref (n + i)), none], T, by simp, [A, some (.int ((0 + i : Nat) : Int)), some (.ref (n + i)), none], T2, .inl ?_, _, _, rfl, (k.trans k1).trans (by rw [hT2]; exact .app)⟩
      rw [Nat.zero_add]
      have hT := isT06 gT hcm
      have hlc := lcL_map (chk := fun _ => True) (g := gName 3) (t := tYes) (e := e2 eqD (eVar 1) (eVar 3)) (S := T1) (ρ := [A, some (.int (i : Nat)), some (.ref (n + i)), none]) (fun d => match d with | .int k => .bl (decide ((i : Int) = k)) | _ => .non) ((List.range 6).map fun (k : Nat) => D.int (k : Int)) [] (by rw [LINE_eq]; decide) (fun _ => trivial) (fun x hx acc => by
        obtain ⟨k, hk, rfl⟩ := List.mem_map.mp hx
        exact ⟨[A, some (.int (i : Nat)), some (.ref (n + i)), some (.int (k : Nat))], rfl, rfl, by simp⟩)
      have hmap : ((List.range 6).map fun (k : Nat) => D.int (k : Int)).map (fun d => match d with | .int k => D.bl (decide ((i : Int) = k)) | _ => .non) = (fl6 c).map .bl := by
        rw [fl6_at hc, List.map_map, List.map_map]
        refine List.map_congr_left fun k _ => ?_
        have hik : decide ((i : Int) = (k : Int)) = decide (i = k) := decide_eq_decide.mpr ⟨fun h => by omega, fun h => by rw [h]⟩
        show D.bl (decide ((i : Int) = (k : Int))) = D.bl (decide (i = k))
        rw [hik]
      rw [hmap, List.nil_append, ← hT2] at hlc
      have hit : iR1 (eC (.int 6)) [A, some (.int (i : Nat)), some (.ref (n + i)), none] T1 = some (.ok ⟨(List.range 6).map fun (k : Nat) => D.int k, fun _ => True⟩ T1) := by
        have hr : r62 (6 : Int) := r62_of (by omega) (by omega)
        rw [x_r1]
        simp only [x_c, bd_ok]
        rw [if_pos hr]
        rfl
      have hle : eLc (iR1 (eC (.int 6))) (gName 3) (tYes) (e2 eqD (eVar 1) (eVar 3)) [3] [A, some (.int (i : Nat)), some (.ref (n + i)), none] T1 = some (.ok (.ref T1.length) T2) := by
        unfold eLc
        rw [hit, bd_ok, show wipe [A, some (.int (i : Nat)), some (.ref (n + i)), none] [3] = [A, some (.int (i : Nat)), some (.ref (n + i)), none] from rfl]
        exact hlc
      have hne := ne_bls06 (S := T2) (a := l) (b := T1.length) (bs := fl6 c) (by rw [hT2]; exact get_app gl1 _) (by rw [hT2]; simp)
      unfold lb_law_refusals_right_1
      have v2 : eVar 2 [A, some (.int (i : Nat)), some (.ref (n + i)), none] T = some (.ok (.ref (n + i)) T) := rfl
      have hx : e1 (isXF tblT) (eVar 2) [A, some (.int (i : Nat)), some (.ref (n + i)), none] T = some (.ok (.bl true) T) := by
        rw [x_1, v2, bd_ok, hT]
      have c1 : sIf (tOr (tNot (tVal (e1 (isXF tblT) (eVar 2)))) (tNot (tVal (e1 (isXF tblT) (eVar 2))))) (sRet (eC (.bl false))) (sNx) [A, some (.int (i : Nat)), some (.ref (n + i)), none] T = some (.nx [A, some (.int (i : Nat)), some (.ref (n + i)), none] T) := by
        generalize e1 (isXF tblT) (eVar 2) = X at hx ⊢
        simp [hx]
      have hk : eCall R_law_kinds [eVar 2] [A, some (.int (i : Nat)), some (.ref (n + i)), none] T = some (.ok (.ref l) T1) := by
        rw [x_call]
        simp only [x_cons, x_nil, v2, bd_ok]
        exact q1
      have c2 : tVal (e2 neD (eCall R_law_kinds [eVar 2]) (eLc (iR1 (eC (.int 6))) (gName 3) (tYes) (e2 eqD (eVar 1) (eVar 3)) [3])) [A, some (.int (i : Nat)), some (.ref (n + i)), none] T = some (.ok false T2) := by
        refine tv_t ?_
        rw [x_2, hk, bd_ok, hle, bd_ok, hne]
      rw [sq_nx c1, sif_t c2]
      rfl) [A, none, none, none] S1 ⟨none, none, rfl, .refl⟩
  -- the one above all
  obtain ⟨S3, hS3⟩ : ∃ S3, S3 = S2 ++ [MO.exn "ZipError"] := ⟨_, rfl⟩
  have g3 : S3[S2.length]? = some (.exn "ZipError") := by rw [hS3]; simp
  obtain ⟨l, S4, e4, gl4, k4⟩ := s_kinds06 g3 (.inr rfl)
  obtain ⟨S5, hS5⟩ : ∃ S5, S5 = S4 ++ [MO.lst [.bl false]] := ⟨_, rfl⟩
  obtain ⟨S6, hS6⟩ : ∃ S6, S6 = S5 ++ [MO.lst ((fl6 "ZipError").map .bl)] := ⟨_, rfl⟩
  have heq := eq_bls06 (S := S6) (a := l) (b := S5.length) (bs := fl6 "ZipError") (by rw [hS6, hS5]; exact get_app (get_app gl4 _) _) (by rw [hS6]; simp)
  refine ⟨S6, ?_, (k1.trans k2).trans ?_⟩
  rotate_left
  · rw [hS6, hS5]
    exact (Keep.trans (by rw [hS3]; exact .app) k4).trans (Keep.app.trans .app)
  have hf6 : (fl6 "ZipError").map D.bl = [.bl false, .bl false, .bl false, .bl false, .bl false, .bl false] := by simp [fl6, CL6]
  have hm : mulD (.ref S4.length) (.int 6) S5 = some (.ok (.ref S5.length) S6) := by
    have g5 : S5[S4.length]? = some (.lst [.bl false]) := by rw [hS5]; simp
    have hL : 6 ≤ LINE := by rw [LINE_eq]; decide
    rw [hS6, hf6]
    simp [mulD, g5, new1, hL]
  unfold R_law_refusals_right
  rw [run_eq (n := 1) _ _ rfl]
  unfold b_law_refusals_right
  rw [show (List.map some [D.str t] ++ List.replicate (4 - 1) none : Env) = [A, none, none, none] by rw [hA]; rfl]
  have st1 : sFor (iEnR (eLst [eMkX "NoName" (eVar 0), eMkX "NoRow" (eVar 0), eMkX "NoText" (eVar 0), eMkX "Told" (eVar 0), eMkX "TooBig" (eVar 0), eMkX "Waits" (eVar 0)])) (gTup [gName 1, gName 2]) (lb_law_refusals_right_1 R_law_kinds) [A, none, none, none] S = some (.nx [A, o1, o2, none] S2) := by
    have hall : Ls.all isRf = true := by rw [hLs]; rfl
    have hit : iEnR (eLst [eMkX "NoName" (eVar 0), eMkX "NoRow" (eVar 0), eMkX "NoText" (eVar 0), eMkX "Told" (eVar 0), eMkX "TooBig" (eVar 0), eMkX "Waits" (eVar 0)]) [A, none, none, none] S = some (.ok ⟨enumL 0 Ls, fun T => T[n + 6]? = some (.lst Ls)⟩ S1) := by
      rw [x_enR, t1, bd_ok]
      dsimp only
      rw [gl]
      dsimp only
      rw [if_pos hall]
    rw [x_for, hit, bo_ok]
    exact h2
  have st2 : sAsg (eMkX "ZipError" (eVar 0)) (gName 2) [A, o1, o2, none] S2 = some (.nx [A, o1, some (.ref S2.length), none] S3) := by
    rw [hA, hS3]
    simp
  rw [sq_nx st1, sq_nx st2]
  have v2 : ∀ T, eVar 2 [A, o1, some (.ref S2.length), none] T = some (.ok (.ref S2.length) T) := fun T => rfl
  have hx : e1 (isXF tblT) (eVar 2) [A, o1, some (.ref S2.length), none] S3 = some (.ok (.bl true) S3) := by
    rw [x_1, v2, bd_ok, isT06 g3 (.inr rfl)]
  have hk : eCall R_law_kinds [eVar 2] [A, o1, some (.ref S2.length), none] S3 = some (.ok (.ref l) S4) := by
    rw [x_call]
    simp only [x_cons, x_nil, v2, bd_ok]
    exact e4
  have hmm : e2 mulD (eLst [eC (.bl false)]) (eC (.int 6)) [A, o1, some (.ref S2.length), none] S4 = some (.ok (.ref S5.length) S6) := by
    rw [x_2, show eLst [eC (.bl false)] [A, o1, some (.ref S2.length), none] S4 = some (.ok (.ref S4.length) S5) by rw [hS5]; simp, bd_ok, x_c, bd_ok, hm]
  have hee : e2 eqD (eCall R_law_kinds [eVar 2]) (e2 mulD (eLst [eC (.bl false)]) (eC (.int 6))) [A, o1, some (.ref S2.length), none] S3 = some (.ok (.bl true) S6) := by
    rw [x_2, hk, bd_ok, hmm, bd_ok, heq]
  rw [x_ret, x_and, hx, bd_ok]
  dsimp only
  rw [hee]
  rfl
end Z
namespace Z
open Classical
abbrev e9v (o0 o1 o2 o3 o4 o5 o6 o7 o8 : Option D) : Env := [o0, o1, o2, o3, o4, o5, o6, o7, o8]
theorem book06 : R_law_is_book = R_law_due_v2 := rfl
theorem mach06 : R_law_is_machine = R_law_due_v5 := rfl
theorem repr_bls {S : Store} {a : Nat} {b1 b2 b3 b4 : Bool} (g : S[a]? = some (.lst [.bl b1, .bl b2, .bl b3, .bl b4])) : reprD [.ref a] S = some (.ok (.str (rtext (.lst [.bl b1, .bl b2, .bl b3, .bl b4]))) S) := by
  have h := dat_bls (bs := [b1, b2, b3, b4]) g
  exact o_reprD h.1 h.2 (.inl ⟨rfl, by simp [PD.wgt, wgtL]⟩)
theorem few06 {p c n : Nat} {S : Store} {d : D} (h : Tg p c n S d) : (fewB d && machB d) = machB d := by
  cases d with
  | tup xs =>
    have := h.tl xs rfl
    have : fewB (.tup xs) = true := by show decide (xs.length ≤ 500) = true; exact decide_eq_true (by omega)
    rw [this, Bool.true_and]
  | _ => rfl
/-- one turn -/
theorem turn06 {p c : Nat} {S : Store} (hs : Sp S p c) (o0 o2 o3 o4 o5 o6 o7 o8 : Option D) :
    ∃ p4 p5 p6 p7 S', lb_law_v6_1 (R_law_thing_v2 24) R_law_drop R_is_name R_is_term R_is_book R_is_machine R_law_is_name (R_law_size 24) R_law_is_book R_law_is_machine (e9v o0 (some (.ref p)) o2 o3 o4 o5 o6 o7 o8) S = some (.nx (e9v o0 (some (.ref p)) o2 o3 p4 p5 p6 p7 o8) S') ∧ Sp S' p c := by
  obtain ⟨k, S1, e1', hk, s1, _, f1⟩ := drop_nat hs 5 (by decide) (by decide)
  have e1a : R_law_drop [.ref p, .int 5] S = some (.ok (.int k) S1) := e1'
  obtain ⟨x, S2, e2', hx, s2, f2⟩ := s_thing06 (p := p) (c := c) 24 (1 + k) S1 (by omega) (by omega) s1
  have c1 : (1 : Int) + (k : Int) = ((1 + k : Nat) : Int) := by omega
  have t1 : sAsg (eCall (R_law_thing_v2 24) [eVar 1, e2 addD (eC (.int 1)) (eCall R_law_drop [eVar 1, eC (.int 5)])]) (gName 4) (e9v o0 (some (.ref p)) o2 o3 o4 o5 o6 o7 o8) S = some (.nx (e9v o0 (some (.ref p)) o2 o3 (some x) o5 o6 o7 o8) S2) := by
    rw [← c1] at e2'
    simp [e1a, e2']
  obtain ⟨u, S3, e3, hu, s3, _, f3⟩ := drop_nat s2 3 (by decide) (by decide)
  have e3a : R_law_drop [.ref p, .int 3] S2 = some (.ok (.int u) S3) := e3
  have tt : tVal (e2 eqD (eCall R_law_drop [eVar 1, eC (.int 3)]) (eC (.int 0))) (e9v o0 (some (.ref p)) o2 o3 (some x) o5 o6 o7 o8) S2 = some (.ok (decide ((u : Int) = 0)) S3) := by
    refine tv_t ?_
    simp [e3a]
  obtain ⟨d, T0, t2, hd, sT⟩ : ∃ d T0, sIf (tVal (e2 eqD (eCall R_law_drop [eVar 1, eC (.int 3)]) (eC (.int 0)))) (sAsg (eLst [eVar 4, eCall (R_law_thing_v2 24) [eVar 1, eC (.int 3)]]) (gName 4)) (sNx) (e9v o0 (some (.ref p)) o2 o3 (some x) o5 o6 o7 o8) S2 = some (.nx (e9v o0 (some (.ref p)) o2 o3 (some d) o5 o6 o7 o8) T0) ∧ Tg p c 7 T0 d ∧ Sp T0 p c := by
    by_cases cu : (u : Int) = 0
    · obtain ⟨y, S4, e4, hy, s4, f4⟩ := s_thing06 (p := p) (c := c) 24 3 S3 (by omega) (by omega) s3
      have e4a : R_law_thing_v2 24 [.ref p, .int 3] S3 = some (.ok y S4) := e4
      have hlt := s4.lt
      refine ⟨.ref S4.length, S4 ++ [.lst [x, y]], ?_, Tg.lst (n := 6) (ds := [x, y]) (by decide) (by simp) (by omega) (by omega) (fun z hz => ?_) (by simp), s4.app⟩
      · rw [sif_t tt, decide_eq_true cu, if_pos rfl]
        simp [e4a]
      · simp only [List.mem_cons, List.not_mem_nil, or_false] at hz
        rcases hz with rfl | rfl
        · exact ((hx.mono (f3.trans f4)).mono .app).le (by omega)
        · exact (hy.mono .app).le (by omega)
    · refine ⟨x, S3, ?_, (hx.mono f3).le (by omega), s3⟩
      rw [sif_t tt, decide_eq_false cu]
      rfl
  obtain ⟨t, ht⟩ := hd.repr (by decide)
  have dn := hd.dn
  have hL : ∀ ds, d = .tup ds → ds.length ≤ LINE := fun ds e => by have := hd.tl ds e; rw [LINE_eq]; omega
  have lq : ∀ T, LeL T0 T → LeL (mskS p c T0) T := fun T h => LeL.trans mq_le h
  have t3 : sAsg (eCall reprD [eVar 4]) (gName 5) (e9v o0 (some (.ref p)) o2 o3 (some d) o5 o6 o7 o8) T0 = some (.nx (e9v o0 (some (.ref p)) o2 o3 (some d) (some (.str t)) o6 o7 o8) T0) := by
    have := ht T0 (lq _ .refl)
    simp [this]
  -- what the program tells
  obtain ⟨G1, a1⟩ := s_is_name (dn)
  obtain ⟨T1, hT1⟩ : ∃ T, T = T0 ++ G1 := ⟨_, rfl⟩
  rw [← hT1] at a1
  have l1 : LeL T0 T1 := by rw [hT1]; exact .app
  obtain ⟨G2, a2⟩ := s_is_term ((dn.mono l1).le (show 7 ≤ 55 by decide))
  obtain ⟨T2, hT2⟩ : ∃ T, T = T1 ++ G2 := ⟨_, rfl⟩
  rw [← hT2] at a2
  have l2 : LeL T0 T2 := by rw [hT2]; exact l1.trans .app
  obtain ⟨G3, a3⟩ := s_is_book ((dn.mono l2).le (show 7 ≤ 57 by decide)) hL
  obtain ⟨T3, hT3⟩ : ∃ T, T = T2 ++ G3 := ⟨_, rfl⟩
  rw [← hT3] at a3
  have l3 : LeL T0 T3 := by rw [hT3]; exact l2.trans .app
  obtain ⟨G4, a4⟩ := s_is_machine (((dn.mono l3).dk).le (show 7 ≤ 60 by decide))
  obtain ⟨T4, hT4⟩ : ∃ T, T = T3 ++ G4 := ⟨_, rfl⟩
  rw [← hT4, few06 hd] at a4
  have l4 : LeL T0 T4 := by rw [hT4]; exact l3.trans .app
  obtain ⟨T5, hT5⟩ : ∃ T, T = T4 ++ [MO.lst [.bl (nameB d), .bl (decide (sz 10 d ≤ 20)), .bl (bookB d), .bl (machB d)]] := ⟨_, rfl⟩
  have l5 : LeL T0 T5 := by rw [hT5]; exact l4.trans .app
  have t4 : sAsg (eLst [eCall R_is_name [eVar 4], eCall R_is_term [eVar 4], eCall R_is_book [eVar 4], eCall R_is_machine [eVar 4]]) (gName 6) (e9v o0 (some (.ref p)) o2 o3 (some d) (some (.str t)) o6 o7 o8) T0 = some (.nx (e9v o0 (some (.ref p)) o2 o3 (some d) (some (.str t)) (some (.ref T4.length)) o7 o8) T5) := by
    rw [hT5]
    generalize nameB d = b1 at *
    generalize decide (sz 10 d ≤ 20) = b2 at *
    generalize bookB d = b3 at *
    generalize machB d = b4 at *
    simp [a1, a2, a3, a4]
  -- the own looks
  obtain ⟨H1, b1⟩ := s_law_is_name (dn.mono l5)
  obtain ⟨U1, hU1⟩ : ∃ T, T = T5 ++ H1 := ⟨_, rfl⟩
  rw [← hU1] at b1
  have m1 : LeL T0 U1 := by rw [hU1]; exact l5.trans .app
  obtain ⟨v, H2, b2, hv⟩ := s_law_size 10 24 1 d U1 (by decide) (by decide) ((dn.mono m1).le (show 7 ≤ 60 by decide))
  obtain ⟨U2, hU2⟩ : ∃ T, T = U1 ++ H2 := ⟨_, rfl⟩
  rw [← hU2] at b2
  have b2a : R_law_size 24 [d, .int 1] U1 = some (.ok (.int v) U2) := b2
  have m2 : LeL T0 U2 := by rw [hU2]; exact m1.trans .app
  obtain ⟨H3, b3⟩ := s_law_due_v2 ((dn.mono m2).le (show 7 ≤ 57 by decide)) hL
  obtain ⟨U3, hU3⟩ : ∃ T, T = U2 ++ H3 := ⟨_, rfl⟩
  rw [← hU3, ← book06] at b3
  have m3 : LeL T0 U3 := by rw [hU3]; exact m2.trans .app
  obtain ⟨H4, b4⟩ := s_law_due_v5 (((dn.mono m3).dk).le (show 7 ≤ 60 by decide)) hL
  obtain ⟨U4, hU4⟩ : ∃ T, T = U3 ++ H4 := ⟨_, rfl⟩
  rw [← hU4, ← mach06] at b4
  have m4 : LeL T0 U4 := by rw [hU4]; exact m3.trans .app
  obtain ⟨U5, hU5⟩ : ∃ T, T = U4 ++ [MO.lst [.bl (nameB d), .bl (decide (sz 10 d ≤ 20)), .bl (bookB d), .bl (machB d)]] := ⟨_, rfl⟩
  have m5 : LeL T0 U5 := by rw [hU5]; exact m4.trans .app
  have hv20 : decide ((v : Int) ≤ 20) = decide (sz 10 d ≤ 20) := decide_eq_decide.mpr (by omega)
  have t5 : sAsg (eLst [eCall R_law_is_name [eVar 4], e2 leD (eCall (R_law_size 24) [eVar 4, eC (.int 1)]) (eC (.int 20)), eCall R_law_is_book [eVar 4], eCall R_law_is_machine [eVar 4]]) (gName 7) (e9v o0 (some (.ref p)) o2 o3 (some d) (some (.str t)) (some (.ref T4.length)) o7 o8) T5 = some (.nx (e9v o0 (some (.ref p)) o2 o3 (some d) (some (.str t)) (some (.ref T4.length)) (some (.ref U4.length)) o8) U5) := by
    rw [hU5, ← hv20]
    generalize nameB d = b1 at *
    generalize bookB d = b3 at *
    generalize machB d = b4 at *
    simp [b1, b2a, b3, b4]
  have g6 : U5[T4.length]? = some (.lst [.bl (nameB d), .bl (decide (sz 10 d ≤ 20)), .bl (bookB d), .bl (machB d)]) := by
    have : LeL T5 U5 := by rw [hU5, hU4, hU3, hU2, hU1]; exact ((((LeL.app).trans .app).trans .app).trans .app).trans .app
    exact this _ _ (by rw [hT5]; simp)
  have g7 : U5[U4.length]? = some (.lst [.bl (nameB d), .bl (decide (sz 10 d ≤ 20)), .bl (bookB d), .bl (machB d)]) := by rw [hU5]; simp
  have r4 := ht U5 (lq _ m5)
  have r6 := repr_bls g6
  have r7 := repr_bls g7
  have sF : Sp U5 p c := by rw [hU5, hU4, hU3, hU2, hU1, hT5, hT4, hT3, hT2, hT1]; exact sT.app.app.app.app.app.app.app.app.app.app
  refine ⟨some d, some (.str t), some (.ref T4.length), some (.ref U4.length), U5, ?_, sF⟩
  unfold lb_law_v6_1
  rw [sq_nx t1, sq_nx t2, sq_nx t3, sq_nx t4, sq_nx t5]
  generalize rtext (.lst [.bl (nameB d), .bl (decide (sz 10 d ≤ 20)), .bl (bookB d), .bl (machB d)]) = tx at r6 r7
  have ne : ∀ s : List Nat, neD (.str s) (.str s) U5 = some (.ok (.bl false) U5) := fun s => by simp
  simp [r4, r6, r7, ne]
theorem s_law_v6 (ns : List Int) (hl : ns.length ≤ 63) : ∃ S', R_law_v6 [.fl (ns.map .int)] [] = some (.ok (.bl true) S') := by
  obtain ⟨S0, e0, hs0, _, _⟩ := s_law_spring ns []
  have sp0 : Sp S0 1 0 := ⟨_, hs0⟩
  obtain ⟨A, hA⟩ : ∃ A : Option D, A = some (.fl (ns.map .int)) := ⟨_, rfl⟩
  have st1 : sAsg (eCall R_law_spring [eVar 0]) (gName 1) (e9v A none none none none none none none none) [] = some (.nx (e9v A (some (.ref 1)) none none none none none none none) S0) := by
    have e0' : R_law_spring [.fl (ns.map .int)] [] = some (.ok (.ref 1) S0) := e0
    rw [hA]
    generalize ns.map D.int = Y at *
    simp [e0']
  -- the text
  obtain ⟨w, S1, e1', hw, s1, _, _⟩ := drop_nat sp0 11 (by decide) (by decide)
  have e1a : R_law_drop [.ref 1, .int 11] S0 = some (.ok (.int w) S1) := e1'
  obtain ⟨A9, hA9⟩ : ∃ A9 : List Nat, A9 = [97, 122, 48, 57, 32, 126, 61, 33, 45] := ⟨_, rfl⟩
  have hp := s1.lt
  obtain ⟨ys, S2, hlc, hys, s2, hyl, hyP⟩ := lcL_run (chk := fun _ => True) (g := gName 8) (t := tYes) (e := e2 ixD (eC (.str A9)) (eCall R_law_drop [eVar 1, eC (.int 9)])) (l := S1.length) (ρ := e9v A (some (.ref 1)) none none none none none none none)
    (fun S' => Sp S' 1 0) (fun y => ∃ n : Nat, y = .str [n]) (fun S' acc acc' j _ => j.set (by omega) (by omega))
    (fun S' j => trivial) ((List.range w).map fun (k : Nat) => D.int k) [] (S1 ++ [.lst []]) s1.app (by simp) (by rw [LINE_eq]; simp; omega)
    (by
      intro x hx S' acc j1 hl'
      obtain ⟨k, hk, rfl⟩ := List.mem_map.mp hx
      obtain ⟨v, S5, q1, q2, q3, q4, q5⟩ := drop_nat j1 9 (by decide) (by decide)
      have q1a : R_law_drop [.ref 1, .int 9] S' = some (.ok (.int v) S5) := q1
      have hlen : S1.length < S'.length := (List.getElem?_eq_some_iff.mp hl').1
      have hat : atI A9 (v : Int) = some (A9[v]'(by rw [hA9]; exact q2)) := atI_nat (List.getElem?_eq_getElem _)
      refine ⟨e9v A (some (.ref 1)) none none none none none none (some (.int (k : Nat))), .str [A9[v]'(by rw [hA9]; exact q2)], S5, rfl, rfl, ?_, ?_, q3, _, rfl⟩
      · have h9 : A9.length ≤ LINE := by rw [LINE_eq, hA9]; simp
        simp [q1a, hat, h9]
      · rw [q5.old _ hlen (by omega) (by omega)]; exact hl')
  rw [List.nil_append] at hys
  obtain ⟨ws, hws, hw1⟩ : ∃ ws : List (List Nat), ys = ws.map .str ∧ ∀ z ∈ ws, z.length = 1 := by
    clear hlc hys hyl
    induction ys with
    | nil => exact ⟨[], rfl, fun z h => nomatch h⟩
    | cons y ys ih =>
      obtain ⟨n, rfl⟩ := hyP y (by simp)
      obtain ⟨ws, rfl, h⟩ := ih fun z hz => hyP z (List.mem_cons_of_mem _ hz)
      exact ⟨[n] :: ws, rfl, fun z hz => by rcases List.mem_cons.mp hz with rfl | hz; rfl; exact h z hz⟩
  subst hws
  have hwl : ws.length ≤ 10 := by simp at hyl; omega
  have hsum : (ws.map List.length).sum ≤ 10 := by
    have : ∀ l : List (List Nat), (∀ z ∈ l, z.length = 1) → (l.map List.length).sum = l.length := fun l => by
      induction l with
      | nil => simp
      | cons z l ih => intro h; rw [List.map_cons, List.sum_cons, ih fun y hy => h y (List.mem_cons_of_mem _ hy), h z (by simp), List.length_cons]; omega
    rw [this ws hw1]; exact hwl
  obtain ⟨t, ht⟩ : ∃ t, t = joinS [] ws := ⟨_, rfl⟩
  have st2 : sAsg (eMt .str joinF (eC (.str [])) [eLc (iR1 (eCall R_law_drop [eVar 1, eC (.int 11)])) (gName 8) (tYes) (e2 ixD (eC (.str [97, 122, 48, 57, 32, 126, 61, 33, 45])) (eCall R_law_drop [eVar 1, eC (.int 9)])) [8]]) (gName 2) (e9v A (some (.ref 1)) none none none none none none none) S0 = some (.nx (e9v A (some (.ref 1)) (some (.str t)) none none none none none none) S2) := by
    rw [← hA9]
    have hr : r62 (w : Int) := r62_of (by omega) (by omega)
    have hit : iR1 (eCall R_law_drop [eVar 1, eC (.int 11)]) (e9v A (some (.ref 1)) none none none none none none none) S0 = some (.ok ⟨(List.range w).map fun (k : Nat) => D.int k, fun _ => True⟩ S1) := by
      simp [e1a, hr]
    have hle : eLc (iR1 (eCall R_law_drop [eVar 1, eC (.int 11)])) (gName 8) (tYes) (e2 ixD (eC (.str A9)) (eCall R_law_drop [eVar 1, eC (.int 9)])) [8] (e9v A (some (.ref 1)) none none none none none none none) S0 = some (.ok (.ref S1.length) S2) := by
      unfold eLc
      rw [hit, bd_ok, show wipe (e9v A (some (.ref 1)) none none none none none none none) [8] = e9v A (some (.ref 1)) none none none none none none none from rfl]
      exact hlc
    have hsl : strsL (ws.map .str) = some ws := strsL_map ws
    have hj : joinF [.str [], .ref S1.length] S2 = some (.ok (.str t) S2) := by
      rw [ht, o_join, hys]
      dsimp only
      rw [hsl]
      dsimp only
      rw [if_pos (by simp; omega)]
    generalize eLc (iR1 (eCall R_law_drop [eVar 1, eC (.int 11)])) (gName 8) (tYes) (e2 ixD (eC (.str A9)) (eCall R_law_drop [eVar 1, eC (.int 9)])) [8] = X at hle ⊢
    simp [hle, hj]
  obtain ⟨S3, e3, k3⟩ := s_refusals06 t S2
  have s3 : Sp S3 1 0 := by
    obtain ⟨s, h⟩ := s2
    obtain ⟨h1, h2⟩ := h.lt
    exact ⟨s, h.ne, by rw [k3.2 _ h1]; exact h.hp, by rw [k3.2 _ h2]; exact h.hc, h.ok⟩
  have st3 : sIf (tNot (tVal (eCall R_law_refusals_right [eVar 2]))) (sRet (eC (.bl false))) (sNx) (e9v A (some (.ref 1)) (some (.str t)) none none none none none none) S2 = some (.nx (e9v A (some (.ref 1)) (some (.str t)) none none none none none none) S3) := by
    simp [e3]
  obtain ⟨ρ', S4, h4, ⟨p3, p4, p5, p6, p7, rfl, s4⟩⟩ := forL_range (g := gName 3) (b := lb_law_v6_1 (R_law_thing_v2 24) R_law_drop R_is_name R_is_term R_is_book R_is_machine R_law_is_name (R_law_size 24) R_law_is_book R_law_is_machine) (n := 10)
    (fun i ρ T => ∃ o3 o4 o5 o6 o7, ρ = e9v A (some (.ref 1)) (some (.str t)) o3 o4 o5 o6 o7 none ∧ Sp T 1 0) (by
      rintro i hi ρ T ⟨o3, o4, o5, o6, o7, rfl, hT⟩
      obtain ⟨p4, p5, p6, p7, T', h, hT'⟩ := turn06 hT A (some (.str t)) (some (.int (i : Nat))) o4 o5 o6 o7 none
      exact ⟨_, T, rfl, _, T', .inl h, _, _, _, _, _, rfl, hT'⟩) (e9v A (some (.ref 1)) (some (.str t)) none none none none none none) S3 ⟨_, _, _, _, _, rfl, s3⟩
  refine ⟨S4, ?_⟩
  unfold R_law_v6
  rw [run_eq (n := 1) _ _ rfl]
  unfold b_law_v6
  rw [show (List.map some [D.fl (ns.map .int)] ++ List.replicate (9 - 1) none : Env) = e9v A none none none none none none none none by rw [hA]; rfl]
  rw [sq_nx st1, sq_nx st2, sq_nx st3]
  have st4 : sFor (iR1 (eC (.int 10))) (gName 3) (lb_law_v6_1 (R_law_thing_v2 24) R_law_drop R_is_name R_is_term R_is_book R_is_machine R_law_is_name (R_law_size 24) R_law_is_book R_law_is_machine) (e9v A (some (.ref 1)) (some (.str t)) none none none none none none) S3 = some (.nx (e9v A (some (.ref 1)) (some (.str t)) p3 p4 p5 p6 p7 none) S4) := by
    have hr : r62 (10 : Int) := r62_of (by omega) (by omega)
    have hit : iR1 (eC (.int 10)) (e9v A (some (.ref 1)) (some (.str t)) none none none none none none) S3 = some (.ok ⟨(List.range 10).map fun (k : Nat) => D.int k, fun _ => True⟩ S3) := by
      rw [x_r1]
      simp only [x_c, bd_ok]
      rw [if_pos hr]
      rfl
    rw [x_for, hit, bo_ok]
    exact h4
  rw [sq_nx st4]
  rfl
end Z
namespace Z
section
open PySem PySem.Spec PyProof.Rows L2
def top (i : Nat) : Stmt := PySem.Challenge.pw_zipspring_k06_refusals_and_things.main.body.getD i (.Pass ⟨0, 0, 0, 0⟩)
variable {P : Program} {w : World} {K : PySem.W.Frag} {mg : Mg} {base : Heap}
abbrev st_is_name : Stmt := top 4
theorem sc_is_name : FnScope ["thing", "sign"] ["thing"] (defScope st_is_name) := ⟨rfl, rfl, rfl, by decide +kernel, rfl, by decide +kernel, by decide +kernel⟩
theorem ok_is_name {f : Addr} {fd : FuncData} (Fu : Fun K "is_name" "is_name" st_is_name f fd) (m_isinstance : mg "isinstance" = none) (m_str : mg "str" = none) (m_len : mg "len" = none) (m_all : mg "all" = none) {t_LETTERS : Tok} (m_LETTERS : mg "LETTERS" = some (.str "abcdefghijklmnopqrstuvwxyz" t_LETTERS)) : FnG P w K mg base (L2.CX P w) 1 f fd ["thing"] (spF ⟨K, P, w⟩ mg R_is_name) :=
  fn_run Fu sc_is_name rfl fun cdv A outer s H E hr => gss_cons (gs_if (GW.gt (gw_or (gt_not (gt_val (ge_isi .str (ge_var 0) rfl m_isinstance (by decide +kernel) rfl m_str (by decide +kernel)))) (gw_or (gt_not (gt_chain no_le no_le zo_le zo_le (ge_int) (ge_callB no_len zc_len rfl m_len (by decide +kernel) (ga_cons (ge_var 0) (ga_nil))) (ge_int))) (gw_or (gt_cmp no_eq (zo_eq hr.units) (ge_var 0) (ge_str)) (gw_or1 (gt_cmp no_eq (zo_eq hr.units) (ge_var 0) (ge_str))))))) (gss_one (gs_ret (ge_bl))) (gss_nil)) (gss_one (gs_ret (ge_callB no_all (zc_all rfl) rfl m_all (by decide +kernel) (ga_cons (ge_lc [("sign", 1)] rfl sc_is_name.nd (gi_any (ge_var 0)) (blkOk_by rfl) (fun _ _ _ _ _ => gg_name 1 sc_is_name.nd) (fun _ _ _ _ _ => gts_nil) (fun _ _ _ _ _ => ge_cmp no_in (zo_in hr.u65) (ge_var 1) (ge_gs m_LETTERS (by decide +kernel) (by decide +kernel) rfl))) (ga_nil)))))
abbrev st_is_sign : Stmt := top 5
theorem sc_is_sign : FnScope ["thing"] ["thing"] (defScope st_is_sign) := ⟨rfl, rfl, rfl, by decide +kernel, rfl, by decide +kernel, by decide +kernel⟩
theorem ok_is_sign {f : Addr} {fd : FuncData} (Fu : Fun K "is_sign" "is_sign" st_is_sign f fd) (m_isinstance : mg "isinstance" = none) (m_int : mg "int" = none) (m_bool : mg "bool" = none) : FnG P w K mg base (L2.CX P w) 1 f fd ["thing"] (spF ⟨K, P, w⟩ mg R_is_sign) :=
  fn_run Fu sc_is_sign rfl fun cdv A outer s H E hr => gss_one (gs_ret (ge_and (ge_isi .int (ge_var 0) rfl m_isinstance (by decide +kernel) rfl m_int (by decide +kernel)) (ge_and (ge_not (ge_isi .bool (ge_var 0) rfl m_isinstance (by decide +kernel) rfl m_bool (by decide +kernel))) (ge_one (ge_chain no_le no_le zo_le zo_le (ge_int) (ge_var 0) (ge_int))))))
abbrev st_is_number : Stmt := top 23
theorem sc_is_number : FnScope ["thing", "many"] ["thing", "many"] (defScope st_is_number) := ⟨rfl, rfl, rfl, by decide +kernel, rfl, by decide +kernel, by decide +kernel⟩
theorem ok_is_number {f : Addr} {fd : FuncData} (Fu : Fun K "is_number" "is_number" st_is_number f fd) (m_isinstance : mg "isinstance" = none) (m_int : mg "int" = none) (m_bool : mg "bool" = none) : FnG P w K mg base (L2.CX P w) 1 f fd ["thing", "many"] (spF ⟨K, P, w⟩ mg R_is_number) :=
  fn_run Fu sc_is_number rfl fun cdv A outer s H E hr => gss_one (gs_ret (ge_and (ge_isi .int (ge_var 0) rfl m_isinstance (by decide +kernel) rfl m_int (by decide +kernel)) (ge_and (ge_not (ge_isi .bool (ge_var 0) rfl m_isinstance (by decide +kernel) rfl m_bool (by decide +kernel))) (ge_one (ge_chain no_le no_lt zo_le zo_lt (ge_int) (ge_var 0) (ge_var 1))))))
abbrev st_law_spring : Stmt := top 27
theorem sc_law_spring : FnScope ["script", "mixed", "cell"] ["script"] (defScope st_law_spring) := ⟨rfl, rfl, rfl, by decide +kernel, rfl, by decide +kernel, by decide +kernel⟩
theorem ok_law_spring {f : Addr} {fd : FuncData} (Fu : Fun K "_law_spring" "_law_spring" st_law_spring f fd) (m_list : mg "list" = none) : FnG P w K mg base (L2.CX P w) 1 f fd ["script"] (spF ⟨K, P, w⟩ mg R_law_spring) :=
  fn_run Fu sc_law_spring rfl fun cdv A outer s H E hr => gss_cons (gs_set 1 sc_law_spring.nd (ge_int)) (gss_cons (gs_for (passes_of rfl) rfl (gi_any (ge_var 0)) (gg_name 2 sc_law_spring.nd) (gss_one (gs_set 1 sc_law_spring.nd (ge_op no_mod zo_mod (ge_op no_add zo_add (ge_op no_mul zo_mul (ge_var 1) (ge_int)) (ge_var 2)) (ge_int))))) (gss_one (gs_ret (ge_lst (ga_cons (ge_callTy no_list zc_list rfl m_list (by decide +kernel) (ga_cons (ge_var 0) (ga_nil))) (ga_cons (ge_int) (ga_cons (ge_var 1) (ga_nil))))))))
abbrev st_law_drop : Stmt := top 28
theorem sc_law_drop : FnScope ["spring", "many", "cell", "drawn"] ["spring", "many"] (defScope st_law_drop) := ⟨rfl, rfl, rfl, by decide +kernel, rfl, by decide +kernel, by decide +kernel⟩
theorem ok_law_drop {f : Addr} {fd : FuncData} (Fu : Fun K "_law_drop" "_law_drop" st_law_drop f fd) (m_len : mg "len" = none) (m_abs : mg "abs" = none) : FnG P w K mg base (L2.CX P w) 1 f fd ["spring", "many"] (spF ⟨K, P, w⟩ mg R_law_drop) :=
  fn_run Fu sc_law_drop rfl fun cdv A outer s H E hr => gss_cons (gs_if (GW.gt (gw_and (gt_cmp no_eq (zo_eq hr.units) (ge_ix (ge_var 0) (ge_int)) (ge_int)) (gw_and1 (gt_cmp no_gt zo_gt (ge_callB no_len zc_len rfl m_len (by decide +kernel) (ga_cons (ge_ix (ge_var 0) (ge_int)) (ga_nil))) (ge_int))))) (gss_cons (gs_set 2 sc_law_drop.nd (ge_mt .list no_pop PySem.F.plainAttrs_list PySem.F.slot_list_pop PySem.F.type_list_pop zm_pop (ge_ix (ge_var 0) (ge_int)) (ga_cons (ge_int) (ga_nil)))) (gss_cons (gs_if (gt_cmp no_lt zo_lt (ge_callB no_abs zc_abs rfl m_abs (by decide +kernel) (ga_cons (ge_var 2) (ga_nil))) (ge_op no_pow zo_pow (ge_int) (ge_int))) (gss_one (gs_ret (ge_op no_mod zo_mod (ge_var 2) (ge_var 1)))) (gss_nil)) (gss_one (gs_asg (ge_callB no_abs zc_abs rfl m_abs (by decide +kernel) (ga_cons (ge_var 2) (ga_nil))) (gg_sub (W := W0) (ge_var 0) (ge_int)))))) (gss_nil)) (gss_cons (gs_if (gt_cmp no_gt zo_gt (ge_ix (ge_var 0) (ge_int)) (ge_int)) (gss_cons (gs_set 3 sc_law_drop.nd (ge_op no_mod zo_mod (ge_ix (ge_var 0) (ge_int)) (ge_var 1))) (gss_cons (gs_asg (ge_op no_fdiv zo_fdiv (ge_ix (ge_var 0) (ge_int)) (ge_var 1)) (gg_sub (W := W0) (ge_var 0) (ge_int))) (gss_one (gs_ret (ge_var 3))))) (gss_nil)) (gss_cons (gs_asg (ge_op no_mod zo_mod (ge_op no_add zo_add (ge_op no_mul zo_mul (ge_ix (ge_var 0) (ge_int)) (ge_ix (ge_var 0) (ge_int))) (ge_int)) (ge_int)) (gg_sub (W := W0) (ge_var 0) (ge_int))) (gss_one (gs_ret (ge_op no_mod zo_mod (ge_op no_fdiv zo_fdiv (ge_ix (ge_var 0) (ge_int)) (ge_int)) (ge_var 1))))))
abbrev st_law_kinds : Stmt := top 29
theorem sc_law_kinds : FnScope ["made", "some"] ["made"] (defScope st_law_kinds) := ⟨rfl, rfl, rfl, by decide +kernel, rfl, by decide +kernel, by decide +kernel⟩
theorem ok_law_kinds {f : Addr} {fd : FuncData} (Fu : Fun K "_law_kinds" "_law_kinds" st_law_kinds f fd) (m_isinstance : mg "isinstance" = none) {C_NoName : Addr} (u_NoName : mg "NoName" = some (.ref C_NoName)) {C_NoRow : Addr} (u_NoRow : mg "NoRow" = some (.ref C_NoRow)) {C_NoText : Addr} (u_NoText : mg "NoText" = some (.ref C_NoText)) {C_Told : Addr} (u_Told : mg "Told" = some (.ref C_Told)) {C_TooBig : Addr} (u_TooBig : mg "TooBig" = some (.ref C_TooBig)) {C_Waits : Addr} (u_Waits : mg "Waits" = some (.ref C_Waits)) {C_ZipError : Addr} (u_ZipError : mg "ZipError" = some (.ref C_ZipError)) (x_NoName : ExH K C_NoName C_ZipError) (x_NoRow : ExH K C_NoRow C_ZipError) (x_NoText : ExH K C_NoText C_ZipError) (x_Told : ExH K C_Told C_ZipError) (x_TooBig : ExH K C_TooBig C_ZipError) (x_Waits : ExH K C_Waits C_ZipError) (x_ZipError : ExH K C_ZipError C_ZipError) (en_NoName : PySem.W.nsIn K mainGlobals "NoName" = some (some (.ref C_NoName))) (en_NoRow : PySem.W.nsIn K mainGlobals "NoRow" = some (some (.ref C_NoRow))) (en_NoText : PySem.W.nsIn K mainGlobals "NoText" = some (some (.ref C_NoText))) (en_Told : PySem.W.nsIn K mainGlobals "Told" = some (some (.ref C_Told))) (en_TooBig : PySem.W.nsIn K mainGlobals "TooBig" = some (some (.ref C_TooBig))) (en_Waits : PySem.W.nsIn K mainGlobals "Waits" = some (some (.ref C_Waits))) (en_ZipError : PySem.W.nsIn K mainGlobals "ZipError" = some (some (.ref C_ZipError))) (k_NoName_NoName : PySem.W.kitOne K (.ref C_NoName) (.ref C_NoName) = some true) (k_NoRow_NoName : PySem.W.kitOne K (.ref C_NoRow) (.ref C_NoName) = some false) (k_NoText_NoName : PySem.W.kitOne K (.ref C_NoText) (.ref C_NoName) = some false) (k_Told_NoName : PySem.W.kitOne K (.ref C_Told) (.ref C_NoName) = some false) (k_TooBig_NoName : PySem.W.kitOne K (.ref C_TooBig) (.ref C_NoName) = some false) (k_Waits_NoName : PySem.W.kitOne K (.ref C_Waits) (.ref C_NoName) = some false) (k_ZipError_NoName : PySem.W.kitOne K (.ref C_ZipError) (.ref C_NoName) = some false) (k_NoName_NoRow : PySem.W.kitOne K (.ref C_NoName) (.ref C_NoRow) = some false) (k_NoRow_NoRow : PySem.W.kitOne K (.ref C_NoRow) (.ref C_NoRow) = some true) (k_NoText_NoRow : PySem.W.kitOne K (.ref C_NoText) (.ref C_NoRow) = some false) (k_Told_NoRow : PySem.W.kitOne K (.ref C_Told) (.ref C_NoRow) = some false) (k_TooBig_NoRow : PySem.W.kitOne K (.ref C_TooBig) (.ref C_NoRow) = some false) (k_Waits_NoRow : PySem.W.kitOne K (.ref C_Waits) (.ref C_NoRow) = some false) (k_ZipError_NoRow : PySem.W.kitOne K (.ref C_ZipError) (.ref C_NoRow) = some false) (k_NoName_NoText : PySem.W.kitOne K (.ref C_NoName) (.ref C_NoText) = some false) (k_NoRow_NoText : PySem.W.kitOne K (.ref C_NoRow) (.ref C_NoText) = some false) (k_NoText_NoText : PySem.W.kitOne K (.ref C_NoText) (.ref C_NoText) = some true) (k_Told_NoText : PySem.W.kitOne K (.ref C_Told) (.ref C_NoText) = some false) (k_TooBig_NoText : PySem.W.kitOne K (.ref C_TooBig) (.ref C_NoText) = some false) (k_Waits_NoText : PySem.W.kitOne K (.ref C_Waits) (.ref C_NoText) = some false) (k_ZipError_NoText : PySem.W.kitOne K (.ref C_ZipError) (.ref C_NoText) = some false) (k_NoName_Told : PySem.W.kitOne K (.ref C_NoName) (.ref C_Told) = some false) (k_NoRow_Told : PySem.W.kitOne K (.ref C_NoRow) (.ref C_Told) = some false) (k_NoText_Told : PySem.W.kitOne K (.ref C_NoText) (.ref C_Told) = some false) (k_Told_Told : PySem.W.kitOne K (.ref C_Told) (.ref C_Told) = some true) (k_TooBig_Told : PySem.W.kitOne K (.ref C_TooBig) (.ref C_Told) = some false) (k_Waits_Told : PySem.W.kitOne K (.ref C_Waits) (.ref C_Told) = some false) (k_ZipError_Told : PySem.W.kitOne K (.ref C_ZipError) (.ref C_Told) = some false) (k_NoName_TooBig : PySem.W.kitOne K (.ref C_NoName) (.ref C_TooBig) = some false) (k_NoRow_TooBig : PySem.W.kitOne K (.ref C_NoRow) (.ref C_TooBig) = some false) (k_NoText_TooBig : PySem.W.kitOne K (.ref C_NoText) (.ref C_TooBig) = some false) (k_Told_TooBig : PySem.W.kitOne K (.ref C_Told) (.ref C_TooBig) = some false) (k_TooBig_TooBig : PySem.W.kitOne K (.ref C_TooBig) (.ref C_TooBig) = some true) (k_Waits_TooBig : PySem.W.kitOne K (.ref C_Waits) (.ref C_TooBig) = some false) (k_ZipError_TooBig : PySem.W.kitOne K (.ref C_ZipError) (.ref C_TooBig) = some false) (k_NoName_Waits : PySem.W.kitOne K (.ref C_NoName) (.ref C_Waits) = some false) (k_NoRow_Waits : PySem.W.kitOne K (.ref C_NoRow) (.ref C_Waits) = some false) (k_NoText_Waits : PySem.W.kitOne K (.ref C_NoText) (.ref C_Waits) = some false) (k_Told_Waits : PySem.W.kitOne K (.ref C_Told) (.ref C_Waits) = some false) (k_TooBig_Waits : PySem.W.kitOne K (.ref C_TooBig) (.ref C_Waits) = some false) (k_Waits_Waits : PySem.W.kitOne K (.ref C_Waits) (.ref C_Waits) = some true) (k_ZipError_Waits : PySem.W.kitOne K (.ref C_ZipError) (.ref C_Waits) = some false) : FnG P w K mg base (L2.CX P w) 1 f fd ["made"] (spF ⟨K, P, w⟩ mg R_law_kinds) :=
  fn_run Fu sc_law_kinds rfl fun cdv A outer s H E hr => gss_cons (gs_set 1 sc_law_kinds.nd (ge_lst (ga_cons (ge_isX (tbl := [("NoName", true), ("NoRow", false), ("NoText", false), ("Told", false), ("TooBig", false), ("Waits", false), ("ZipError", false)]) (ge_var 0) (by exact (ClsN.own rfl u_NoName)) (hx_cons ⟨C_NoName, en_NoName, x_NoName.C, by exact k_NoName_NoName⟩ (hx_cons ⟨C_NoRow, en_NoRow, x_NoRow.C, by exact k_NoRow_NoName⟩ (hx_cons ⟨C_NoText, en_NoText, x_NoText.C, by exact k_NoText_NoName⟩ (hx_cons ⟨C_Told, en_Told, x_Told.C, by exact k_Told_NoName⟩ (hx_cons ⟨C_TooBig, en_TooBig, x_TooBig.C, by exact k_TooBig_NoName⟩ (hx_cons ⟨C_Waits, en_Waits, x_Waits.C, by exact k_Waits_NoName⟩ (hx_cons ⟨C_ZipError, en_ZipError, x_ZipError.C, by exact k_ZipError_NoName⟩ (hx_nil)))))))) rfl m_isinstance (by decide +kernel)) (ga_cons (ge_isX (tbl := [("NoName", false), ("NoRow", true), ("NoText", false), ("Told", false), ("TooBig", false), ("Waits", false), ("ZipError", false)]) (ge_var 0) (by exact (ClsN.own rfl u_NoRow)) (hx_cons ⟨C_NoName, en_NoName, x_NoName.C, by exact k_NoName_NoRow⟩ (hx_cons ⟨C_NoRow, en_NoRow, x_NoRow.C, by exact k_NoRow_NoRow⟩ (hx_cons ⟨C_NoText, en_NoText, x_NoText.C, by exact k_NoText_NoRow⟩ (hx_cons ⟨C_Told, en_Told, x_Told.C, by exact k_Told_NoRow⟩ (hx_cons ⟨C_TooBig, en_TooBig, x_TooBig.C, by exact k_TooBig_NoRow⟩ (hx_cons ⟨C_Waits, en_Waits, x_Waits.C, by exact k_Waits_NoRow⟩ (hx_cons ⟨C_ZipError, en_ZipError, x_ZipError.C, by exact k_ZipError_NoRow⟩ (hx_nil)))))))) rfl m_isinstance (by decide +kernel)) (ga_cons (ge_isX (tbl := [("NoName", false), ("NoRow", false), ("NoText", true), ("Told", false), ("TooBig", false), ("Waits", false), ("ZipError", false)]) (ge_var 0) (by exact (ClsN.own rfl u_NoText)) (hx_cons ⟨C_NoName, en_NoName, x_NoName.C, by exact k_NoName_NoText⟩ (hx_cons ⟨C_NoRow, en_NoRow, x_NoRow.C, by exact k_NoRow_NoText⟩ (hx_cons ⟨C_NoText, en_NoText, x_NoText.C, by exact k_NoText_NoText⟩ (hx_cons ⟨C_Told, en_Told, x_Told.C, by exact k_Told_NoText⟩ (hx_cons ⟨C_TooBig, en_TooBig, x_TooBig.C, by exact k_TooBig_NoText⟩ (hx_cons ⟨C_Waits, en_Waits, x_Waits.C, by exact k_Waits_NoText⟩ (hx_cons ⟨C_ZipError, en_ZipError, x_ZipError.C, by exact k_ZipError_NoText⟩ (hx_nil)))))))) rfl m_isinstance (by decide +kernel)) (ga_cons (ge_isX (tbl := [("NoName", false), ("NoRow", false), ("NoText", false), ("Told", true), ("TooBig", false), ("Waits", false), ("ZipError", false)]) (ge_var 0) (by exact (ClsN.own rfl u_Told)) (hx_cons ⟨C_NoName, en_NoName, x_NoName.C, by exact k_NoName_Told⟩ (hx_cons ⟨C_NoRow, en_NoRow, x_NoRow.C, by exact k_NoRow_Told⟩ (hx_cons ⟨C_NoText, en_NoText, x_NoText.C, by exact k_NoText_Told⟩ (hx_cons ⟨C_Told, en_Told, x_Told.C, by exact k_Told_Told⟩ (hx_cons ⟨C_TooBig, en_TooBig, x_TooBig.C, by exact k_TooBig_Told⟩ (hx_cons ⟨C_Waits, en_Waits, x_Waits.C, by exact k_Waits_Told⟩ (hx_cons ⟨C_ZipError, en_ZipError, x_ZipError.C, by exact k_ZipError_Told⟩ (hx_nil)))))))) rfl m_isinstance (by decide +kernel)) (ga_nil))))))) (gss_one (gs_ret (ge_op no_add zo_add (ge_var 1) (ge_lst (ga_cons (ge_isX (tbl := [("NoName", false), ("NoRow", false), ("NoText", false), ("Told", false), ("TooBig", true), ("Waits", false), ("ZipError", false)]) (ge_var 0) (by exact (ClsN.own rfl u_TooBig)) (hx_cons ⟨C_NoName, en_NoName, x_NoName.C, by exact k_NoName_TooBig⟩ (hx_cons ⟨C_NoRow, en_NoRow, x_NoRow.C, by exact k_NoRow_TooBig⟩ (hx_cons ⟨C_NoText, en_NoText, x_NoText.C, by exact k_NoText_TooBig⟩ (hx_cons ⟨C_Told, en_Told, x_Told.C, by exact k_Told_TooBig⟩ (hx_cons ⟨C_TooBig, en_TooBig, x_TooBig.C, by exact k_TooBig_TooBig⟩ (hx_cons ⟨C_Waits, en_Waits, x_Waits.C, by exact k_Waits_TooBig⟩ (hx_cons ⟨C_ZipError, en_ZipError, x_ZipError.C, by exact k_ZipError_TooBig⟩ (hx_nil)))))))) rfl m_isinstance (by decide +kernel)) (ga_cons (ge_isX (tbl := [("NoName", false), ("NoRow", false), ("NoText", false), ("Told", false), ("TooBig", false), ("Waits", true), ("ZipError", false)]) (ge_var 0) (by exact (ClsN.own rfl u_Waits)) (hx_cons ⟨C_NoName, en_NoName, x_NoName.C, by exact k_NoName_Waits⟩ (hx_cons ⟨C_NoRow, en_NoRow, x_NoRow.C, by exact k_NoRow_Waits⟩ (hx_cons ⟨C_NoText, en_NoText, x_NoText.C, by exact k_NoText_Waits⟩ (hx_cons ⟨C_Told, en_Told, x_Told.C, by exact k_Told_Waits⟩ (hx_cons ⟨C_TooBig, en_TooBig, x_TooBig.C, by exact k_TooBig_Waits⟩ (hx_cons ⟨C_Waits, en_Waits, x_Waits.C, by exact k_Waits_Waits⟩ (hx_cons ⟨C_ZipError, en_ZipError, x_ZipError.C, by exact k_ZipError_Waits⟩ (hx_nil)))))))) rfl m_isinstance (by decide +kernel)) (ga_nil)))))))
abbrev st_law_is_name : Stmt := top 32
theorem sc_law_is_name : FnScope ["thing", "sign"] ["thing"] (defScope st_law_is_name) := ⟨rfl, rfl, rfl, by decide +kernel, rfl, by decide +kernel, by decide +kernel⟩
theorem ok_law_is_name {f : Addr} {fd : FuncData} (Fu : Fun K "_law_is_name" "_law_is_name" st_law_is_name f fd) (m_isinstance : mg "isinstance" = none) (m_str : mg "str" = none) (m_len : mg "len" = none) : FnG P w K mg base (L2.CX P w) 1 f fd ["thing"] (spF ⟨K, P, w⟩ mg R_law_is_name) :=
  fn_run Fu sc_law_is_name rfl fun cdv A outer s H E hr => gss_cons (gs_if (GW.gt (gw_or (gt_not (gt_val (ge_isi .str (ge_var 0) rfl m_isinstance (by decide +kernel) rfl m_str (by decide +kernel)))) (gw_or (gt_cmp no_lt zo_lt (ge_callB no_len zc_len rfl m_len (by decide +kernel) (ga_cons (ge_var 0) (ga_nil))) (ge_int)) (gw_or (gt_cmp no_gt zo_gt (ge_callB no_len zc_len rfl m_len (by decide +kernel) (ga_cons (ge_var 0) (ga_nil))) (ge_int)) (gw_or1 (gt_cmp no_in (zo_in hr.u65) (ge_var 0) (ge_lst (ga_cons (ge_str) (ga_cons (ge_str) (ga_nil)))))))))) (gss_one (gs_ret (ge_bl))) (gss_nil)) (gss_one (gs_ret (ge_cmp no_eq (zo_eq hr.units) (ge_lc [("sign", 1)] rfl sc_law_is_name.nd (gi_any (ge_var 0)) (blkOk_by rfl) (fun _ _ _ _ _ => gg_name 1 sc_law_is_name.nd) (fun _ _ _ _ _ => gts_one (gt_cmp no_nin (zo_nin hr.u65) (ge_var 1) (ge_str))) (fun _ _ _ _ _ => ge_var 1)) (ge_lst (ga_nil)))))
abbrev st_law_number : Stmt := top 36
theorem sc_law_number : FnScope ["thing", "many"] ["thing", "many"] (defScope st_law_number) := ⟨rfl, rfl, rfl, by decide +kernel, rfl, by decide +kernel, by decide +kernel⟩
theorem ok_law_number {f : Addr} {fd : FuncData} (Fu : Fun K "_law_number" "_law_number" st_law_number f fd) (m_isinstance : mg "isinstance" = none) (m_int : mg "int" = none) (m_bool : mg "bool" = none) : FnG P w K mg base (L2.CX P w) 1 f fd ["thing", "many"] (spF ⟨K, P, w⟩ mg R_law_number) :=
  fn_run Fu sc_law_number rfl fun cdv A outer s H E hr => gss_one (gs_ret (ge_and (ge_isi .int (ge_var 0) rfl m_isinstance (by decide +kernel) rfl m_int (by decide +kernel)) (ge_and (ge_not (ge_isi .bool (ge_var 0) rfl m_isinstance (by decide +kernel) rfl m_bool (by decide +kernel))) (ge_one (ge_chain no_le no_lt zo_le zo_lt (ge_int) (ge_var 0) (ge_var 1))))))
abbrev st_within : Stmt := top 6
theorem sc_within : FnScope ["thing"] ["thing"] (defScope st_within) := ⟨rfl, rfl, rfl, by decide +kernel, rfl, by decide +kernel, by decide +kernel⟩
theorem ok_within {f : Addr} {fd : FuncData} (Fu : Fun K "within" "within" st_within f fd) (g_is_name : GF P w K mg base "is_name" 1 R_is_name) (g_is_sign : GF P w K mg base "is_sign" 1 R_is_sign) (m_isinstance : mg "isinstance" = none) (m_tuple : mg "tuple" = none) (m_len : mg "len" = none) (m_str : mg "str" = none) : FnG P w K mg base (L2.CX P w) 2 f fd ["thing"] (spF ⟨K, P, w⟩ mg R_within) :=
  fn_run Fu sc_within rfl fun cdv A outer s H E hr => gss_cons (gs_if (GW.gt (gw_or (gt_not (gt_val (ge_isi .tuple (ge_var 0) rfl m_isinstance (by decide +kernel) rfl m_tuple (by decide +kernel)))) (gw_or (gt_cmp no_lt zo_lt (ge_callB no_len zc_len rfl m_len (by decide +kernel) (ga_cons (ge_var 0) (ga_nil))) (ge_int)) (gw_or1 (gt_not (gt_val (ge_isi .str (ge_ix (ge_var 0) (ge_int)) rfl m_isinstance (by decide +kernel) rfl m_str (by decide +kernel)))))))) (gss_one (gs_ret (ge_non))) (gss_nil)) (gss_cons (gs_if (GW.gt (gw_and (gt_cmp no_eq (zo_eq hr.units) (ge_ix (ge_var 0) (ge_int)) (ge_str)) (gw_and (gt_cmp no_eq (zo_eq hr.units) (ge_callB no_len zc_len rfl m_len (by decide +kernel) (ga_cons (ge_var 0) (ga_nil))) (ge_int)) (gw_and1 (gt_val (ge_call g_is_name (hr.mono (by omega)) (takes_of rfl rfl rfl rfl) rfl (ga_cons (ge_ix (ge_var 0) (ge_int)) (ga_nil)))))))) (gss_one (gs_ret (ge_lst (ga_nil)))) (gss_nil)) (gss_cons (gs_if (GW.gt (gw_and (gt_cmp no_eq (zo_eq hr.units) (ge_ix (ge_var 0) (ge_int)) (ge_str)) (gw_and (gt_cmp no_eq (zo_eq hr.units) (ge_callB no_len zc_len rfl m_len (by decide +kernel) (ga_cons (ge_var 0) (ga_nil))) (ge_int)) (gw_and1 (gt_val (ge_call g_is_sign (hr.mono (by omega)) (takes_of rfl rfl rfl rfl) rfl (ga_cons (ge_ix (ge_var 0) (ge_int)) (ga_nil)))))))) (gss_one (gs_ret (ge_lst (ga_cons (ge_ix (ge_var 0) (ge_int)) (ga_nil))))) (gss_nil)) (gss_cons (gs_if (GW.gt (gw_and (gt_cmp no_eq (zo_eq hr.units) (ge_ix (ge_var 0) (ge_int)) (ge_str)) (gw_and1 (gt_cmp no_eq (zo_eq hr.units) (ge_callB no_len zc_len rfl m_len (by decide +kernel) (ga_cons (ge_var 0) (ga_nil))) (ge_int))))) (gss_one (gs_ret (ge_lst (ga_cons (ge_ix (ge_var 0) (ge_int)) (ga_nil))))) (gss_nil)) (gss_cons (gs_if (GW.gt (gw_and (gt_cmp no_eq (zo_eq hr.units) (ge_ix (ge_var 0) (ge_int)) (ge_str)) (gw_and1 (gt_cmp no_eq (zo_eq hr.units) (ge_callB no_len zc_len rfl m_len (by decide +kernel) (ga_cons (ge_var 0) (ga_nil))) (ge_int))))) (gss_one (gs_ret (ge_lst (ga_cons (ge_ix (ge_var 0) (ge_int)) (ga_cons (ge_ix (ge_var 0) (ge_int)) (ga_nil)))))) (gss_nil)) (gss_one (gs_ret (ge_non)))))))
abbrev st_is_state : Stmt := top 24
theorem sc_is_state : FnScope ["thing", "many"] ["thing", "many"] (defScope st_is_state) := ⟨rfl, rfl, rfl, by decide +kernel, rfl, by decide +kernel, by decide +kernel⟩
theorem ok_is_state {f : Addr} {fd : FuncData} (Fu : Fun K "is_state" "is_state" st_is_state f fd) (g_is_number : GF P w K mg base "is_number" 1 R_is_number) (m_isinstance : mg "isinstance" = none) (m_tuple : mg "tuple" = none) (m_len : mg "len" = none) : FnG P w K mg base (L2.CX P w) 2 f fd ["thing", "many"] (spF ⟨K, P, w⟩ mg R_is_state) :=
  fn_run Fu sc_is_state rfl fun cdv A outer s H E hr => gss_cons (gs_if (GW.gt (gw_or (gt_not (gt_val (ge_isi .tuple (ge_var 0) rfl m_isinstance (by decide +kernel) rfl m_tuple (by decide +kernel)))) (gw_or1 (gt_cmp no_ne (zo_ne hr.units) (ge_callB no_len zc_len rfl m_len (by decide +kernel) (ga_cons (ge_var 0) (ga_nil))) (ge_int))))) (gss_one (gs_ret (ge_bl))) (gss_nil)) (gss_one (gs_ret (ge_and (ge_call g_is_number (hr.mono (by omega)) (takes_of rfl rfl rfl rfl) rfl (ga_cons (ge_ix (ge_var 0) (ge_int)) (ga_cons (ge_int) (ga_nil)))) (ge_and (ge_call g_is_number (hr.mono (by omega)) (takes_of rfl rfl rfl rfl) rfl (ga_cons (ge_ix (ge_var 0) (ge_int)) (ga_cons (ge_var 1) (ga_nil)))) (ge_one (ge_call g_is_number (hr.mono (by omega)) (takes_of rfl rfl rfl rfl) rfl (ga_cons (ge_ix (ge_var 0) (ge_int)) (ga_cons (ge_var 1) (ga_nil)))))))))
abbrev st_law_refusals_right : Stmt := top 30
theorem sc_law_refusals_right : FnScope ["text", "at", "made", "k"] ["text"] (defScope st_law_refusals_right) := ⟨rfl, rfl, rfl, by decide +kernel, rfl, by decide +kernel, by decide +kernel⟩
theorem ok_law_refusals_right {f : Addr} {fd : FuncData} (Fu : Fun K "_law_refusals_right" "_law_refusals_right" st_law_refusals_right f fd) (g__law_kinds : GF P w K mg base "_law_kinds" 1 R_law_kinds) (m_enumerate : mg "enumerate" = none) (m_isinstance : mg "isinstance" = none) (m_ValueError : mg "ValueError" = none) (m_range : mg "range" = none) {C_NoName : Addr} (m_NoName : ExC K mg "NoName" C_NoName) {C_NoRow : Addr} (m_NoRow : ExC K mg "NoRow" C_NoRow) {C_NoText : Addr} (m_NoText : ExC K mg "NoText" C_NoText) {C_Told : Addr} (m_Told : ExC K mg "Told" C_Told) {C_TooBig : Addr} (m_TooBig : ExC K mg "TooBig" C_TooBig) {C_Waits : Addr} (m_Waits : ExC K mg "Waits" C_Waits) {C_ZipError : Addr} (m_ZipError : ExC K mg "ZipError" C_ZipError) (u_NoName : mg "NoName" = some (.ref C_NoName)) (u_NoRow : mg "NoRow" = some (.ref C_NoRow)) (u_NoText : mg "NoText" = some (.ref C_NoText)) (u_Told : mg "Told" = some (.ref C_Told)) (u_TooBig : mg "TooBig" = some (.ref C_TooBig)) (u_Waits : mg "Waits" = some (.ref C_Waits)) (u_ZipError : mg "ZipError" = some (.ref C_ZipError)) (x_NoName : ExH K C_NoName C_ZipError) (x_NoRow : ExH K C_NoRow C_ZipError) (x_NoText : ExH K C_NoText C_ZipError) (x_Told : ExH K C_Told C_ZipError) (x_TooBig : ExH K C_TooBig C_ZipError) (x_Waits : ExH K C_Waits C_ZipError) (x_ZipError : ExH K C_ZipError C_ZipError) (en_NoName : PySem.W.nsIn K mainGlobals "NoName" = some (some (.ref C_NoName))) (en_NoRow : PySem.W.nsIn K mainGlobals "NoRow" = some (some (.ref C_NoRow))) (en_NoText : PySem.W.nsIn K mainGlobals "NoText" = some (some (.ref C_NoText))) (en_Told : PySem.W.nsIn K mainGlobals "Told" = some (some (.ref C_Told))) (en_TooBig : PySem.W.nsIn K mainGlobals "TooBig" = some (some (.ref C_TooBig))) (en_Waits : PySem.W.nsIn K mainGlobals "Waits" = some (some (.ref C_Waits))) (en_ZipError : PySem.W.nsIn K mainGlobals "ZipError" = some (some (.ref C_ZipError))) (k_NoName_ZipError : PySem.W.kitOne K (.ref C_NoName) (.ref C_ZipError) = some true) (k_NoRow_ZipError : PySem.W.kitOne K (.ref C_NoRow) (.ref C_ZipError) = some true) (k_NoText_ZipError : PySem.W.kitOne K (.ref C_NoText) (.ref C_ZipError) = some true) (k_Told_ZipError : PySem.W.kitOne K (.ref C_Told) (.ref C_ZipError) = some true) (k_TooBig_ZipError : PySem.W.kitOne K (.ref C_TooBig) (.ref C_ZipError) = some true) (k_Waits_ZipError : PySem.W.kitOne K (.ref C_Waits) (.ref C_ZipError) = some true) (k_ZipError_ZipError : PySem.W.kitOne K (.ref C_ZipError) (.ref C_ZipError) = some true) (k_NoName_ValueError : PySem.W.kitOne K (.ref C_NoName) (.type "ValueError") = some true) (k_NoRow_ValueError : PySem.W.kitOne K (.ref C_NoRow) (.type "ValueError") = some true) (k_NoText_ValueError : PySem.W.kitOne K (.ref C_NoText) (.type "ValueError") = some true) (k_Told_ValueError : PySem.W.kitOne K (.ref C_Told) (.type "ValueError") = some true) (k_TooBig_ValueError : PySem.W.kitOne K (.ref C_TooBig) (.type "ValueError") = some true) (k_Waits_ValueError : PySem.W.kitOne K (.ref C_Waits) (.type "ValueError") = some true) (k_ZipError_ValueError : PySem.W.kitOne K (.ref C_ZipError) (.type "ValueError") = some true) : FnG P w K mg base (L2.CX P w) 2 f fd ["text"] (spF ⟨K, P, w⟩ mg R_law_refusals_right) :=
  fn_run Fu sc_law_refusals_right rfl fun cdv A outer s H E hr => gss_cons (gs_for (passes_of rfl) rfl (gi_enR rfl m_enumerate (ge_lst (ga_cons (ge_mkX m_NoName en_NoName rfl (ge_var 0)) (ga_cons (ge_mkX m_NoRow en_NoRow rfl (ge_var 0)) (ga_cons (ge_mkX m_NoText en_NoText rfl (ge_var 0)) (ga_cons (ge_mkX m_Told en_Told rfl (ge_var 0)) (ga_cons (ge_mkX m_TooBig en_TooBig rfl (ge_var 0)) (ga_cons (ge_mkX m_Waits en_Waits rfl (ge_var 0)) (ga_nil))))))))) (gg_tup rfl (ggs_cons (gg_name 1 sc_law_refusals_right.nd) (ggs_cons (gg_name 2 sc_law_refusals_right.nd) (ggs_nil)))) (gss_cons (gs_if (GW.gt (gw_or (gt_not (gt_val (ge_isX (tbl := [("NoName", true), ("NoRow", true), ("NoText", true), ("Told", true), ("TooBig", true), ("Waits", true), ("ZipError", true)]) (ge_var 2) (by exact (ClsN.own rfl u_ZipError)) (hx_cons ⟨C_NoName, en_NoName, x_NoName.C, by exact k_NoName_ZipError⟩ (hx_cons ⟨C_NoRow, en_NoRow, x_NoRow.C, by exact k_NoRow_ZipError⟩ (hx_cons ⟨C_NoText, en_NoText, x_NoText.C, by exact k_NoText_ZipError⟩ (hx_cons ⟨C_Told, en_Told, x_Told.C, by exact k_Told_ZipError⟩ (hx_cons ⟨C_TooBig, en_TooBig, x_TooBig.C, by exact k_TooBig_ZipError⟩ (hx_cons ⟨C_Waits, en_Waits, x_Waits.C, by exact k_Waits_ZipError⟩ (hx_cons ⟨C_ZipError, en_ZipError, x_ZipError.C, by exact k_ZipError_ZipError⟩ (hx_nil)))))))) rfl m_isinstance (by decide +kernel)))) (gw_or1 (gt_not (gt_val (ge_isX (tbl := [("NoName", true), ("NoRow", true), ("NoText", true), ("Told", true), ("TooBig", true), ("Waits", true), ("ZipError", true)]) (ge_var 2) (by exact (ClsN.blt (T := "ValueError") rfl m_ValueError (by decide +kernel))) (hx_cons ⟨C_NoName, en_NoName, x_NoName.C, by exact k_NoName_ValueError⟩ (hx_cons ⟨C_NoRow, en_NoRow, x_NoRow.C, by exact k_NoRow_ValueError⟩ (hx_cons ⟨C_NoText, en_NoText, x_NoText.C, by exact k_NoText_ValueError⟩ (hx_cons ⟨C_Told, en_Told, x_Told.C, by exact k_Told_ValueError⟩ (hx_cons ⟨C_TooBig, en_TooBig, x_TooBig.C, by exact k_TooBig_ValueError⟩ (hx_cons ⟨C_Waits, en_Waits, x_Waits.C, by exact k_Waits_ValueError⟩ (hx_cons ⟨C_ZipError, en_ZipError, x_ZipError.C, by exact k_ZipError_ValueError⟩ (hx_nil)))))))) rfl m_isinstance (by decide +kernel))))))) (gss_one (gs_ret (ge_bl))) (gss_nil)) (gss_one (gs_if (gt_cmp no_ne (zo_ne hr.units) (ge_call g__law_kinds (hr.mono (by omega)) (takes_of rfl rfl rfl rfl) rfl (ga_cons (ge_var 2) (ga_nil))) (ge_lc [("k", 3)] rfl sc_law_refusals_right.nd (gi_r1 (ge_int) rfl m_range) (blkOk_by rfl) (fun _ _ _ _ _ => gg_name 3 sc_law_refusals_right.nd) (fun _ _ _ _ _ => gts_nil) (fun _ _ _ _ _ => ge_cmp no_eq (zo_eq hr.units) (ge_var 1) (ge_var 3)))) (gss_one (gs_ret (ge_bl))) (gss_nil))))) (gss_cons (gs_set 2 sc_law_refusals_right.nd (ge_mkX m_ZipError en_ZipError rfl (ge_var 0))) (gss_one (gs_ret (ge_and (ge_isX (tbl := [("NoName", true), ("NoRow", true), ("NoText", true), ("Told", true), ("TooBig", true), ("Waits", true), ("ZipError", true)]) (ge_var 2) (by exact (ClsN.blt (T := "ValueError") rfl m_ValueError (by decide +kernel))) (hx_cons ⟨C_NoName, en_NoName, x_NoName.C, by exact k_NoName_ValueError⟩ (hx_cons ⟨C_NoRow, en_NoRow, x_NoRow.C, by exact k_NoRow_ValueError⟩ (hx_cons ⟨C_NoText, en_NoText, x_NoText.C, by exact k_NoText_ValueError⟩ (hx_cons ⟨C_Told, en_Told, x_Told.C, by exact k_Told_ValueError⟩ (hx_cons ⟨C_TooBig, en_TooBig, x_TooBig.C, by exact k_TooBig_ValueError⟩ (hx_cons ⟨C_Waits, en_Waits, x_Waits.C, by exact k_Waits_ValueError⟩ (hx_cons ⟨C_ZipError, en_ZipError, x_ZipError.C, by exact k_ZipError_ValueError⟩ (hx_nil)))))))) rfl m_isinstance (by decide +kernel)) (ge_one (ge_cmp no_eq (zo_eq hr.units) (ge_call g__law_kinds (hr.mono (by omega)) (takes_of rfl rfl rfl rfl) rfl (ga_cons (ge_var 2) (ga_nil))) (ge_op no_mul zo_mul (ge_lst (ga_cons (ge_bl) (ga_nil))) (ge_int))))))))
abbrev st_law_is_machine : Stmt := top 37
theorem sc_law_is_machine : FnScope ["thing", "state"] ["thing"] (defScope st_law_is_machine) := ⟨rfl, rfl, rfl, by decide +kernel, rfl, by decide +kernel, by decide +kernel⟩
theorem ok_law_is_machine {f : Addr} {fd : FuncData} (Fu : Fun K "_law_is_machine" "_law_is_machine" st_law_is_machine f fd) (g__law_number : GF P w K mg base "_law_number" 1 R_law_number) (m_isinstance : mg "isinstance" = none) (m_tuple : mg "tuple" = none) (m_len : mg "len" = none) : FnG P w K mg base (L2.CX P w) 2 f fd ["thing"] (spF ⟨K, P, w⟩ mg R_law_is_machine) :=
  fn_run Fu sc_law_is_machine rfl fun cdv A outer s H E hr => gss_cons (gs_if (GW.gt (gw_or (gt_not (gt_val (ge_isi .tuple (ge_var 0) rfl m_isinstance (by decide +kernel) rfl m_tuple (by decide +kernel)))) (gw_or1 (gt_cmp no_eq (zo_eq hr.units) (ge_var 0) (ge_tup (ga_nil)))))) (gss_one (gs_ret (ge_bl))) (gss_nil)) (gss_cons (gs_for (passes_of rfl) rfl (gi_any (ge_var 0)) (gg_name 1 sc_law_is_machine.nd) (gss_cons (gs_if (GW.gt (gw_or (gt_not (gt_val (ge_isi .tuple (ge_var 1) rfl m_isinstance (by decide +kernel) rfl m_tuple (by decide +kernel)))) (gw_or (gt_cmp no_ne (zo_ne hr.units) (ge_callB no_len zc_len rfl m_len (by decide +kernel) (ga_cons (ge_var 1) (ga_nil))) (ge_int)) (gw_or1 (gt_not (gt_val (ge_call g__law_number (hr.mono (by omega)) (takes_of rfl rfl rfl rfl) rfl (ga_cons (ge_ix (ge_var 1) (ge_int)) (ga_cons (ge_int) (ga_nil)))))))))) (gss_one (gs_ret (ge_bl))) (gss_nil)) (gss_one (gs_if (GW.gt (gw_or (gt_not (gt_val (ge_call g__law_number (hr.mono (by omega)) (takes_of rfl rfl rfl rfl) rfl (ga_cons (ge_ix (ge_var 1) (ge_int)) (ga_cons (ge_callB no_len zc_len rfl m_len (by decide +kernel) (ga_cons (ge_var 0) (ga_nil))) (ga_nil)))))) (gw_or1 (gt_not (gt_val (ge_call g__law_number (hr.mono (by omega)) (takes_of rfl rfl rfl rfl) rfl (ga_cons (ge_ix (ge_var 1) (ge_int)) (ga_cons (ge_callB no_len zc_len rfl m_len (by decide +kernel) (ga_cons (ge_var 0) (ga_nil))) (ga_nil))))))))) (gss_one (gs_ret (ge_bl))) (gss_nil))))) (gss_one (gs_ret (ge_cmp no_eq (zo_eq hr.units) (ge_lc [("state", 1)] rfl sc_law_is_machine.nd (gi_any (ge_var 0)) (blkOk_by rfl) (fun _ _ _ _ _ => gg_name 1 sc_law_is_machine.nd) (fun _ _ _ _ _ => gts_one (gt_cmp no_ne (zo_ne hr.units) (ge_ix (ge_ix (ge_var 0) (ge_ix (ge_var 1) (ge_int))) (ge_int)) (ge_ix (ge_var 1) (ge_int)))) (fun _ _ _ _ _ => ge_var 1)) (ge_lst (ga_nil))))))
abbrev st_is_term : Stmt := top 7
theorem sc_is_term : FnScope ["thing", "waiting", "many", "one", "deep", "some", "part"] ["thing"] (defScope st_is_term) := ⟨rfl, rfl, rfl, by decide +kernel, rfl, by decide +kernel, by decide +kernel⟩
theorem ok_is_term {f : Addr} {fd : FuncData} (Fu : Fun K "is_term" "is_term" st_is_term f fd) (g_within : GF P w K mg base "within" 2 R_within) {t_MOST_DEEP : Tok} (m_MOST_DEEP : mg "MOST_DEEP" = some (.int 10 t_MOST_DEEP)) {t_MOST_TERMS : Tok} (m_MOST_TERMS : mg "MOST_TERMS" = some (.int 20 t_MOST_TERMS)) : FnG P w K mg base (L2.CX P w) 3 f fd ["thing"] (spF ⟨K, P, w⟩ mg R_is_term) :=
  fn_run Fu sc_is_term rfl fun cdv A outer s H E hr => gss_cons (gs_set 1 sc_is_term.nd (ge_lst (ga_cons (ge_tup (ga_cons (ge_var 0) (ga_cons (ge_int) (ga_nil)))) (ga_nil)))) (gss_cons (gs_set 2 sc_is_term.nd (ge_int)) (gss_cons (gs_while (passes_of rfl) (gt_cmp no_ne (zo_ne hr.units) (ge_var 1) (ge_lst (ga_nil))) (gss_cons (gs_asg (ge_mt0 .list no_pop PySem.F.plainAttrs_list PySem.F.slot_list_pop PySem.F.type_list_pop zm_pop (ge_var 1)) (gg_tup rfl (ggs_cons (gg_name 3 sc_is_term.nd) (ggs_cons (gg_name 4 sc_is_term.nd) (ggs_nil))))) (gss_cons (gs_set 5 sc_is_term.nd (ge_call g_within (hr.mono (by omega)) (takes_of rfl rfl rfl rfl) rfl (ga_cons (ge_var 3) (ga_nil)))) (gss_cons (gs_aug 2 sc_is_term.nd no_iadd zi_add (ge_int)) (gss_cons (gs_if (GW.gt (gw_or (gt_cmp no_is zo_is (ge_var 5) (ge_non)) (gw_or (gt_cmp no_gt zo_gt (ge_var 4) (ge_gi m_MOST_DEEP rfl)) (gw_or1 (gt_cmp no_gt zo_gt (ge_var 2) (ge_gi m_MOST_TERMS rfl)))))) (gss_one (gs_ret (ge_bl))) (gss_nil)) (gss_one (gs_expr (ge_mt .list no_extend PySem.F.plainAttrs_list PySem.F.slot_list_extend PySem.F.type_list_extend zm_extend (ge_var 1) (ga_cons (ge_lc [("part", 6)] rfl sc_is_term.nd (gi_any (ge_var 5)) (blkOk_by rfl) (fun _ _ _ _ _ => gg_name 6 sc_is_term.nd) (fun _ _ _ _ _ => gts_nil) (fun _ _ _ _ _ => ge_tup (ga_cons (ge_var 6) (ga_cons (ge_op no_add zo_add (ge_var 4) (ge_int)) (ga_nil))))) (ga_nil)))))))))) (gss_one (gs_ret (ge_bl)))))
abbrev st_names_in : Stmt := top 8
theorem sc_names_in : FnScope ["term", "found", "waiting", "one"] ["term"] (defScope st_names_in) := ⟨rfl, rfl, rfl, by decide +kernel, rfl, by decide +kernel, by decide +kernel⟩
theorem ok_names_in {f : Addr} {fd : FuncData} (Fu : Fun K "names_in" "names_in" st_names_in f fd) (g_within : GF P w K mg base "within" 2 R_within) (m_sorted : mg "sorted" = none) (m_set : mg "set" = none) : FnG P w K mg base (L2.CX P w) 3 f fd ["term"] (spF ⟨K, P, w⟩ mg R_names_in) :=
  fn_run Fu sc_names_in rfl fun cdv A outer s H E hr => gss_cons (gs_set 1 sc_names_in.nd (ge_lst (ga_nil))) (gss_cons (gs_set 2 sc_names_in.nd (ge_lst (ga_cons (ge_var 0) (ga_nil)))) (gss_cons (gs_while (passes_of rfl) (gt_cmp no_ne (zo_ne hr.units) (ge_var 2) (ge_lst (ga_nil))) (gss_cons (gs_set 3 sc_names_in.nd (ge_mt0 .list no_pop PySem.F.plainAttrs_list PySem.F.slot_list_pop PySem.F.type_list_pop zm_pop (ge_var 2))) (gss_cons (gs_if (gt_cmp no_eq (zo_eq hr.units) (ge_ix (ge_var 3) (ge_int)) (ge_str)) (gss_one (gs_expr (ge_mt .list no_append PySem.F.plainAttrs_list PySem.F.slot_list_append PySem.F.type_list_append zm_append (ge_var 1) (ga_cons (ge_ix (ge_var 3) (ge_int)) (ga_nil))))) (gss_nil)) (gss_one (gs_expr (ge_mt .list no_extend PySem.F.plainAttrs_list PySem.F.slot_list_extend PySem.F.type_list_extend zm_extend (ge_var 2) (ga_cons (ge_call g_within (hr.mono (by omega)) (takes_of rfl rfl rfl rfl) rfl (ga_cons (ge_var 3) (ga_nil))) (ga_nil)))))))) (gss_one (gs_ret (ge_sset rfl rfl m_sorted rfl m_set (ge_var 1))))))
abbrev st_is_machine : Stmt := top 25
theorem sc_is_machine : FnScope ["thing", "state", "sign", "even", "odd"] ["thing"] (defScope st_is_machine) := ⟨rfl, rfl, rfl, by decide +kernel, rfl, by decide +kernel, by decide +kernel⟩
theorem ok_is_machine {f : Addr} {fd : FuncData} (Fu : Fun K "is_machine" "is_machine" st_is_machine f fd) (g_is_state : GF P w K mg base "is_state" 2 R_is_state) (m_isinstance : mg "isinstance" = none) (m_tuple : mg "tuple" = none) (m_len : mg "len" = none) (m_all : mg "all" = none) {t_MOST_STATES : Tok} (m_MOST_STATES : mg "MOST_STATES" = some (.int 500 t_MOST_STATES)) : FnG P w K mg base (L2.CX P w) 3 f fd ["thing"] (spF ⟨K, P, w⟩ mg R_is_machine) :=
  fn_run Fu sc_is_machine rfl fun cdv A outer s H E hr => gss_cons (gs_if (GW.gt (gw_or (gt_not (gt_val (ge_isi .tuple (ge_var 0) rfl m_isinstance (by decide +kernel) rfl m_tuple (by decide +kernel)))) (gw_or1 (gt_not (gt_chain no_lt no_le zo_lt zo_le (ge_int) (ge_callB no_len zc_len rfl m_len (by decide +kernel) (ga_cons (ge_var 0) (ga_nil))) (ge_gi m_MOST_STATES rfl)))))) (gss_one (gs_ret (ge_bl))) (gss_nil)) (gss_cons (gs_if (gt_not (gt_val (ge_callB no_all (zc_all rfl) rfl m_all (by decide +kernel) (ga_cons (ge_lc [("state", 1)] rfl sc_is_machine.nd (gi_any (ge_var 0)) (blkOk_by rfl) (fun _ _ _ _ _ => gg_name 1 sc_is_machine.nd) (fun _ _ _ _ _ => gts_nil) (fun _ _ _ _ _ => ge_call g_is_state (hr.mono (by omega)) takes0 rfl (ga_cons (ge_var 1) (ga_cons (ge_callB no_len zc_len rfl m_len (by decide +kernel) (ga_cons (ge_var 0) (ga_nil))) (ga_nil))))) (ga_nil))))) (gss_one (gs_ret (ge_bl))) (gss_nil)) (gss_one (gs_ret (ge_callB no_all (zc_all rfl) rfl m_all (by decide +kernel) (ga_cons (ge_lc [("sign", 2), ("even", 3), ("odd", 4)] rfl sc_is_machine.nd (gi_any (ge_var 0)) (blkOk_by rfl) (fun _ _ _ _ _ => gg_tup rfl (ggs_cons (gg_name 2 sc_is_machine.nd) (ggs_cons (gg_name 3 sc_is_machine.nd) (ggs_cons (gg_name 4 sc_is_machine.nd) (ggs_nil))))) (fun _ _ _ _ _ => gts_nil) (fun _ _ _ _ _ => ge_cmp no_eq (zo_eq hr.units) (ge_ix (ge_ix (ge_var 0) (ge_var 3)) (ge_int)) (ge_var 2))) (ga_nil))))))
abbrev st_is_equation : Stmt := top 11
theorem sc_is_equation : FnScope ["thing"] ["thing"] (defScope st_is_equation) := ⟨rfl, rfl, rfl, by decide +kernel, rfl, by decide +kernel, by decide +kernel⟩
theorem ok_is_equation {f : Addr} {fd : FuncData} (Fu : Fun K "is_equation" "is_equation" st_is_equation f fd) (g_is_name : GF P w K mg base "is_name" 1 R_is_name) (g_is_term : GF P w K mg base "is_term" 3 R_is_term) (m_isinstance : mg "isinstance" = none) (m_tuple : mg "tuple" = none) (m_len : mg "len" = none) : FnG P w K mg base (L2.CX P w) 4 f fd ["thing"] (spF ⟨K, P, w⟩ mg R_is_equation) :=
  fn_run Fu sc_is_equation rfl fun cdv A outer s H E hr => gss_one (gs_ret (ge_and (ge_isi .tuple (ge_var 0) rfl m_isinstance (by decide +kernel) rfl m_tuple (by decide +kernel)) (ge_and (ge_cmp no_eq (zo_eq hr.units) (ge_callB no_len zc_len rfl m_len (by decide +kernel) (ga_cons (ge_var 0) (ga_nil))) (ge_int)) (ge_and (ge_call g_is_name (hr.mono (by omega)) (takes_of rfl rfl rfl rfl) rfl (ga_cons (ge_ix (ge_var 0) (ge_int)) (ga_nil))) (ge_one (ge_call g_is_term (hr.mono (by omega)) (takes_of rfl rfl rfl rfl) rfl (ga_cons (ge_ix (ge_var 0) (ge_int)) (ga_nil))))))))
abbrev st_is_book : Stmt := top 12
theorem sc_is_book : FnScope ["thing", "names", "name", "term", "pair", "other"] ["thing"] (defScope st_is_book) := ⟨rfl, rfl, rfl, by decide +kernel, rfl, by decide +kernel, by decide +kernel⟩
theorem ok_is_book {f : Addr} {fd : FuncData} (Fu : Fun K "is_book" "is_book" st_is_book f fd) (g_is_equation : GF P w K mg base "is_equation" 4 R_is_equation) (g_names_in : GF P w K mg base "names_in" 3 R_names_in) (m_isinstance : mg "isinstance" = none) (m_tuple : mg "tuple" = none) (m_len : mg "len" = none) (m_all : mg "all" = none) (m_set : mg "set" = none) {t_MOST_EQUATIONS : Tok} (m_MOST_EQUATIONS : mg "MOST_EQUATIONS" = some (.int 8 t_MOST_EQUATIONS)) : FnG P w K mg base (L2.CX P w) 5 f fd ["thing"] (spF ⟨K, P, w⟩ mg R_is_book) :=
  fn_run Fu sc_is_book rfl fun cdv A outer s H E hr => gss_cons (gs_if (GW.gt (gw_or (gt_not (gt_val (ge_isi .tuple (ge_var 0) rfl m_isinstance (by decide +kernel) rfl m_tuple (by decide +kernel)))) (gw_or (gt_cmp no_gt zo_gt (ge_callB no_len zc_len rfl m_len (by decide +kernel) (ga_cons (ge_var 0) (ga_nil))) (ge_gi m_MOST_EQUATIONS rfl)) (gw_or1 (gt_not (gt_val (ge_callB no_all (zc_all rfl) rfl m_all (by decide +kernel) (ga_cons (ge_lc [("pair", 4)] rfl sc_is_book.nd (gi_any (ge_var 0)) (blkOk_by rfl) (fun _ _ _ _ _ => gg_name 4 sc_is_book.nd) (fun _ _ _ _ _ => gts_nil) (fun _ _ _ _ _ => ge_call g_is_equation (hr.mono (by omega)) takes0 rfl (ga_cons (ge_var 4) (ga_nil)))) (ga_nil))))))))) (gss_one (gs_ret (ge_bl))) (gss_nil)) (gss_cons (gs_set 1 sc_is_book.nd (ge_lc [("name", 2), ("term", 3)] rfl sc_is_book.nd (gi_any (ge_var 0)) (blkOk_by rfl) (fun _ _ _ _ _ => gg_tup rfl (ggs_cons (gg_name 2 sc_is_book.nd) (ggs_cons (gg_name 3 sc_is_book.nd) (ggs_nil)))) (fun _ _ _ _ _ => gts_nil) (fun _ _ _ _ _ => ge_var 2))) (gss_cons (gs_if (gt_cmp no_lt zo_lt (ge_lset rfl rfl m_len rfl m_set (ge_var 1)) (ge_callB no_len zc_len rfl m_len (by decide +kernel) (ga_cons (ge_var 1) (ga_nil)))) (gss_one (gs_ret (ge_bl))) (gss_nil)) (gss_cons (gs_for (passes_of rfl) rfl (gi_any (ge_var 0)) (gg_tup rfl (ggs_cons (gg_name 2 sc_is_book.nd) (ggs_cons (gg_name 3 sc_is_book.nd) (ggs_nil)))) (gss_one (gs_if (gt_not (gt_val (ge_callB no_all (zc_all rfl) rfl m_all (by decide +kernel) (ga_cons (ge_lc [("other", 5)] rfl sc_is_book.nd (gi_any (ge_call g_names_in (hr.mono (by omega)) (takes_of rfl rfl rfl rfl) rfl (ga_cons (ge_var 3) (ga_nil)))) (blkOk_by rfl) (fun _ _ _ _ _ => gg_name 5 sc_is_book.nd) (fun _ _ _ _ _ => gts_nil) (fun _ _ _ _ _ => ge_cmp no_in (zo_in hr.u65) (ge_var 5) (ge_var 1))) (ga_nil))))) (gss_one (gs_ret (ge_bl))) (gss_nil)))) (gss_one (gs_ret (ge_bl))))))
abbrev st_law_met : Stmt := top 34
theorem sc_law_met : FnScope ["term", "found", "part"] ["term"] (defScope st_law_met) := ⟨rfl, rfl, rfl, by decide +kernel, rfl, by decide +kernel, by decide +kernel⟩
theorem ok_law_met {f : Addr} {fd : FuncData} (Fu : Fun K "_law_met" "_law_met" st_law_met f fd) (hm : mg "_law_met" = some (.ref f)) (kp : PySem.W.keepIn K (.ref f) = true) (bi : Binds K fd ["term"] []) (m_isinstance : mg "isinstance" = none) (m_tuple : mg "tuple" = none) : ∀ d : Nat, FnG P w K mg base (L2.CX P w) (0 + d) f fd ["term"] (spF ⟨K, P, w⟩ mg (R_law_met d))
  | 0 => fnok_none
  | d + 1 => fn_run (k := 0 + d) Fu sc_law_met rfl fun cdv A outer s H E hr => by
    have g__law_met : GF P w K mg base "_law_met" (0 + d) (R_law_met d) := gf_of hm kp bi (ok_law_met Fu hm kp bi m_isinstance m_tuple d)
    exact gss_cons (gs_if (gt_cmp no_eq (zo_eq hr.units) (ge_ix (ge_var 0) (ge_int)) (ge_str)) (gss_one (gs_ret (ge_lst (ga_cons (ge_ix (ge_var 0) (ge_int)) (ga_nil))))) (gss_nil)) (gss_cons (gs_set 1 sc_law_met.nd (ge_lst (ga_nil))) (gss_cons (gs_for (passes_of rfl) rfl (gi_any (ge_sl (ge_var 0) (go_some (ge_int)) go_none)) (gg_name 2 sc_law_met.nd) (gss_one (gs_if (gt_val (ge_isi .tuple (ge_var 2) rfl m_isinstance (by decide +kernel) rfl m_tuple (by decide +kernel))) (gss_one (gs_set 1 sc_law_met.nd (ge_op no_add zo_add (ge_var 1) (ge_call g__law_met (hr.mono (by omega)) (takes_of rfl rfl rfl rfl) rfl (ga_cons (ge_var 2) (ga_nil)))))) (gss_nil)))) (gss_one (gs_ret (ge_var 1)))))
abbrev st_law_thing_v2 : Stmt := top 31
theorem sc_law_thing_v2 : FnScope ["spring", "deep", "way", "some", "one", "other", "parts", "found"] ["spring", "deep"] (defScope st_law_thing_v2) := ⟨rfl, rfl, rfl, by decide +kernel, rfl, by decide +kernel, by decide +kernel⟩
theorem ok_law_thing_v2 {f : Addr} {fd : FuncData} (Fu : Fun K "_law_thing" "_law_thing" st_law_thing_v2 f fd) (hm : mg "_law_thing" = some (.ref f)) (kp : PySem.W.keepIn K (.ref f) = true) (bi : Binds K fd ["spring", "deep"] []) (g__law_drop : GF P w K mg base "_law_drop" 1 R_law_drop) (m_int : mg "int" = none) (m_list : mg "list" = none) : ∀ d : Nat, FnG P w K mg base (L2.CX P w) (1 + d) f fd ["spring", "deep"] (spF ⟨K, P, w⟩ mg (R_law_thing_v2 d))
  | 0 => fnok_none
  | d + 1 => fn_run (k := 1 + d) Fu sc_law_thing_v2 rfl fun cdv A outer s H E hr => by
    have g__law_thing : GF P w K mg base "_law_thing" (1 + d) (R_law_thing_v2 d) := gf_of hm kp bi (ok_law_thing_v2 Fu hm kp bi g__law_drop m_int m_list d)
    exact gss_cons (gs_set 2 sc_law_thing_v2.nd (ge_op no_mul zo_mul (ge_call g__law_drop (hr.mono (by omega)) (takes_of rfl rfl rfl rfl) rfl (ga_cons (ge_var 0) (ga_cons (ge_int) (ga_nil)))) (ge_callTy no_int zc_int rfl m_int (by decide +kernel) (ga_cons (ge_cmp no_gt zo_gt (ge_var 1) (ge_int)) (ga_nil))))) (gss_cons (gs_if (gt_cmp no_lt zo_lt (ge_var 2) (ge_int)) (gss_cons (gs_set 3 sc_law_thing_v2.nd (ge_lst (ga_cons (ge_str) (ga_cons (ge_str) (ga_cons (ge_str) (ga_cons (ge_str) (ga_cons (ge_int) (ga_cons (ge_int) (ga_cons (ge_int) (ga_cons (ge_int) (ga_cons (ge_bl) (ga_cons (ge_bl) (ga_cons (ge_non) (ga_cons (ge_str) (ga_cons (ge_tup (ga_nil)) (ga_cons (ge_lst (ga_nil)) (ga_cons (ge_tup (ga_cons (ge_str) (ga_cons (ge_str) (ga_nil)))) (ga_cons (ge_lst (ga_cons (ge_str) (ga_cons (ge_str) (ga_nil)))) (ga_nil))))))))))))))))))) (gss_one (gs_ret (ge_ix (ge_var 3) (ge_call g__law_drop (hr.mono (by omega)) (takes_of rfl rfl rfl rfl) rfl (ga_cons (ge_var 0) (ga_cons (ge_int) (ga_nil)))))))) (gss_nil)) (gss_cons (gs_set 4 sc_law_thing_v2.nd (ge_call g__law_thing (hr.mono (by omega)) (takes_of rfl rfl rfl rfl) rfl (ga_cons (ge_var 0) (ga_cons (ge_op no_sub zo_sub (ge_var 1) (ge_int)) (ga_nil))))) (gss_cons (gs_set 5 sc_law_thing_v2.nd (ge_call g__law_thing (hr.mono (by omega)) (takes_of rfl rfl rfl rfl) rfl (ga_cons (ge_var 0) (ga_cons (ge_op no_sub zo_sub (ge_var 1) (ge_int)) (ga_nil))))) (gss_cons (gs_set 6 sc_law_thing_v2.nd (ge_lst (ga_cons (ge_tup (ga_cons (ge_str) (ga_cons (ge_var 4) (ga_nil)))) (ga_cons (ge_tup (ga_cons (ge_str) (ga_cons (ge_call g__law_drop (hr.mono (by omega)) (takes_of rfl rfl rfl rfl) rfl (ga_cons (ge_var 0) (ga_cons (ge_int) (ga_nil)))) (ga_cons (ge_var 4) (ga_nil))))) (ga_cons (ge_tup (ga_cons (ge_str) (ga_cons (ge_var 4) (ga_cons (ge_var 5) (ga_nil))))) (ga_cons (ge_tup (ga_cons (ge_str) (ga_cons (ge_var 4) (ga_nil)))) (ga_cons (ge_tup (ga_cons (ge_var 4) (ga_cons (ge_var 5) (ga_nil)))) (ga_nil)))))))) (gss_cons (gs_set 6 sc_law_thing_v2.nd (ge_op no_add zo_add (ge_var 6) (ge_lst (ga_cons (ge_tup (ga_cons (ge_var 4) (ga_nil))) (ga_cons (ge_tup (ga_cons (ge_int) (ga_cons (ge_int) (ga_cons (ge_call g__law_drop (hr.mono (by omega)) (takes_of rfl rfl rfl rfl) rfl (ga_cons (ge_var 0) (ga_cons (ge_int) (ga_nil)))) (ga_nil))))) (ga_nil)))))) (gss_cons (gs_set 7 sc_law_thing_v2.nd (ge_ix (ge_var 6) (ge_op no_sub zo_sub (ge_var 2) (ge_int)))) (gss_cons (gs_if (gt_cmp no_eq (zo_eq hr.units) (ge_call g__law_drop (hr.mono (by omega)) (takes_of rfl rfl rfl rfl) rfl (ga_cons (ge_var 0) (ga_cons (ge_int) (ga_nil)))) (ge_int)) (gss_one (gs_ret (ge_callTy no_list zc_list rfl m_list (by decide +kernel) (ga_cons (ge_var 7) (ga_nil))))) (gss_nil)) (gss_one (gs_ret (ge_var 7))))))))))
abbrev st_law_size : Stmt := top 33
theorem sc_law_size : FnScope ["thing", "deep"] ["thing", "deep"] (defScope st_law_size) := ⟨rfl, rfl, rfl, by decide +kernel, rfl, by decide +kernel, by decide +kernel⟩
theorem ok_law_size {f : Addr} {fd : FuncData} (Fu : Fun K "_law_size" "_law_size" st_law_size f fd) (hm : mg "_law_size" = some (.ref f)) (kp : PySem.W.keepIn K (.ref f) = true) (bi : Binds K fd ["thing", "deep"] []) (g__law_is_name : GF P w K mg base "_law_is_name" 1 R_law_is_name) (m_isinstance : mg "isinstance" = none) (m_tuple : mg "tuple" = none) (m_len : mg "len" = none) (m_range : mg "range" = none) (m_int : mg "int" = none) (m_bool : mg "bool" = none) : ∀ d : Nat, FnG P w K mg base (L2.CX P w) (1 + d) f fd ["thing", "deep"] (spF ⟨K, P, w⟩ mg (R_law_size d))
  | 0 => fnok_none
  | d + 1 => fn_run (k := 1 + d) Fu sc_law_size rfl fun cdv A outer s H E hr => by
    have g__law_size : GF P w K mg base "_law_size" (1 + d) (R_law_size d) := gf_of hm kp bi (ok_law_size Fu hm kp bi g__law_is_name m_isinstance m_tuple m_len m_range m_int m_bool d)
    exact gss_cons (gs_if (GW.gt (gw_or (gt_not (gt_val (ge_isi .tuple (ge_var 0) rfl m_isinstance (by decide +kernel) rfl m_tuple (by decide +kernel)))) (gw_or1 (gt_cmp no_gt zo_gt (ge_var 1) (ge_int))))) (gss_one (gs_ret (ge_int))) (gss_nil)) (gss_cons (gs_if (GW.gt (gw_and (gt_cmp no_eq (zo_eq hr.units) (ge_callB no_len zc_len rfl m_len (by decide +kernel) (ga_cons (ge_var 0) (ga_nil))) (ge_int)) (gw_and (gt_cmp no_eq (zo_eq hr.units) (ge_ix (ge_var 0) (ge_int)) (ge_str)) (gw_and1 (gt_val (ge_call g__law_is_name (hr.mono (by omega)) (takes_of rfl rfl rfl rfl) rfl (ga_cons (ge_ix (ge_var 0) (ge_int)) (ga_nil)))))))) (gss_one (gs_ret (ge_int))) (gss_nil)) (gss_cons (gs_if (GW.gt (gw_and (gt_cmp no_eq (zo_eq hr.units) (ge_callB no_len zc_len rfl m_len (by decide +kernel) (ga_cons (ge_var 0) (ga_nil))) (ge_int)) (gw_and1 (gt_cmp no_eq (zo_eq hr.units) (ge_ix (ge_var 0) (ge_int)) (ge_str))))) (gss_one (gs_ret (ge_op no_add zo_add (ge_int) (ge_call g__law_size (hr.mono (by omega)) (takes_of rfl rfl rfl rfl) rfl (ga_cons (ge_ix (ge_var 0) (ge_int)) (ga_cons (ge_op no_add zo_add (ge_var 1) (ge_int)) (ga_nil))))))) (gss_nil)) (gss_cons (gs_if (GW.gt (gw_and (gt_cmp no_eq (zo_eq hr.units) (ge_callB no_len zc_len rfl m_len (by decide +kernel) (ga_cons (ge_var 0) (ga_nil))) (ge_int)) (gw_and1 (gt_cmp no_eq (zo_eq hr.units) (ge_ix (ge_var 0) (ge_int)) (ge_str))))) (gss_one (gs_ret (ge_op no_add zo_add (ge_op no_add zo_add (ge_int) (ge_call g__law_size (hr.mono (by omega)) (takes_of rfl rfl rfl rfl) rfl (ga_cons (ge_ix (ge_var 0) (ge_int)) (ga_cons (ge_op no_add zo_add (ge_var 1) (ge_int)) (ga_nil))))) (ge_call g__law_size (hr.mono (by omega)) (takes_of rfl rfl rfl rfl) rfl (ga_cons (ge_ix (ge_var 0) (ge_int)) (ga_cons (ge_op no_add zo_add (ge_var 1) (ge_int)) (ga_nil))))))) (gss_nil)) (gss_cons (gs_if (GW.gt (gw_and (gt_cmp no_eq (zo_eq hr.units) (ge_callB no_len zc_len rfl m_len (by decide +kernel) (ga_cons (ge_var 0) (ga_nil))) (ge_int)) (gw_and (gt_cmp no_eq (zo_eq hr.units) (ge_ix (ge_var 0) (ge_int)) (ge_str)) (gw_and (gt_inr hr.u65 rfl m_range (by decide +kernel) (ge_ix (ge_var 0) (ge_int)) (ge_int)) (gw_and1 (gt_val (ge_isi .int (ge_ix (ge_var 0) (ge_int)) rfl m_isinstance (by decide +kernel) rfl m_int (by decide +kernel)))))))) (gss_one (gs_ret (ge_op no_add zo_add (ge_op no_add zo_add (ge_int) (ge_call g__law_size (hr.mono (by omega)) (takes_of rfl rfl rfl rfl) rfl (ga_cons (ge_ix (ge_var 0) (ge_int)) (ga_cons (ge_op no_add zo_add (ge_var 1) (ge_int)) (ga_nil))))) (ge_op no_mul zo_mul (ge_int) (ge_callTy no_int zc_int rfl m_int (by decide +kernel) (ga_cons (ge_isi .bool (ge_ix (ge_var 0) (ge_int)) rfl m_isinstance (by decide +kernel) rfl m_bool (by decide +kernel)) (ga_nil))))))) (gss_nil)) (gss_one (gs_ret (ge_int)))))))
abbrev st_law_is_book : Stmt := top 35
theorem sc_law_is_book : FnScope ["thing", "names", "pair", "name"] ["thing"] (defScope st_law_is_book) := ⟨rfl, rfl, rfl, by decide +kernel, rfl, by decide +kernel, by decide +kernel⟩
theorem ok_law_is_book {f : Addr} {fd : FuncData} (Fu : Fun K "_law_is_book" "_law_is_book" st_law_is_book f fd) (g__law_is_name : GF P w K mg base "_law_is_name" 1 R_law_is_name) (g__law_size : GF P w K mg base "_law_size" 25 (R_law_size 24)) (g__law_met : GF P w K mg base "_law_met" 24 (R_law_met 24)) (m_isinstance : mg "isinstance" = none) (m_tuple : mg "tuple" = none) (m_len : mg "len" = none) : FnG P w K mg base (L2.CX P w) 26 f fd ["thing"] (spF ⟨K, P, w⟩ mg R_law_is_book) :=
  fn_run Fu sc_law_is_book rfl fun cdv A outer s H E hr => gss_cons (gs_if (GW.gt (gw_or (gt_not (gt_val (ge_isi .tuple (ge_var 0) rfl m_isinstance (by decide +kernel) rfl m_tuple (by decide +kernel)))) (gw_or1 (gt_cmp no_gt zo_gt (ge_callB no_len zc_len rfl m_len (by decide +kernel) (ga_cons (ge_var 0) (ga_nil))) (ge_int))))) (gss_one (gs_ret (ge_bl))) (gss_nil)) (gss_cons (gs_set 1 sc_law_is_book.nd (ge_lst (ga_nil))) (gss_cons (gs_for (passes_of rfl) rfl (gi_any (ge_var 0)) (gg_name 2 sc_law_is_book.nd) (gss_cons (gs_if (GW.gt (gw_or (gt_not (gt_val (ge_isi .tuple (ge_var 2) rfl m_isinstance (by decide +kernel) rfl m_tuple (by decide +kernel)))) (gw_or (gt_cmp no_ne (zo_ne hr.units) (ge_callB no_len zc_len rfl m_len (by decide +kernel) (ga_cons (ge_var 2) (ga_nil))) (ge_int)) (gw_or (gt_not (gt_val (ge_call g__law_is_name (hr.mono (by omega)) (takes_of rfl rfl rfl rfl) rfl (ga_cons (ge_ix (ge_var 2) (ge_int)) (ga_nil))))) (gw_or1 (gt_cmp no_gt zo_gt (ge_call g__law_size (hr.mono (by omega)) (takes_of rfl rfl rfl rfl) rfl (ga_cons (ge_ix (ge_var 2) (ge_int)) (ga_cons (ge_int) (ga_nil)))) (ge_int))))))) (gss_one (gs_ret (ge_bl))) (gss_nil)) (gss_cons (gs_if (gt_cmp no_in (zo_in hr.u65) (ge_ix (ge_var 2) (ge_int)) (ge_var 1)) (gss_one (gs_ret (ge_bl))) (gss_nil)) (gss_one (gs_expr (ge_mt .list no_append PySem.F.plainAttrs_list PySem.F.slot_list_append PySem.F.type_list_append zm_append (ge_var 1) (ga_cons (ge_ix (ge_var 2) (ge_int)) (ga_nil)))))))) (gss_cons (gs_for (passes_of rfl) rfl (gi_any (ge_var 0)) (gg_name 2 sc_law_is_book.nd) (gss_one (gs_if (gt_cmp no_ne (zo_ne hr.units) (ge_lc [("name", 3)] rfl sc_law_is_book.nd (gi_any (ge_call g__law_met (hr.mono (by omega)) (takes_of rfl rfl rfl rfl) rfl (ga_cons (ge_ix (ge_var 2) (ge_int)) (ga_nil)))) (blkOk_by rfl) (fun _ _ _ _ _ => gg_name 3 sc_law_is_book.nd) (fun _ _ _ _ _ => gts_one (gt_cmp no_nin (zo_nin hr.u65) (ge_var 3) (ge_var 1))) (fun _ _ _ _ _ => ge_var 3)) (ge_lst (ga_nil))) (gss_one (gs_ret (ge_bl))) (gss_nil)))) (gss_one (gs_ret (ge_bl))))))
abbrev st_law_v6 : Stmt := top 38
theorem sc_law_v6 : FnScope ["script", "spring", "text", "turn", "thing", "seen", "told", "due", "k"] ["script"] (defScope st_law_v6) := ⟨rfl, rfl, rfl, by decide +kernel, rfl, by decide +kernel, by decide +kernel⟩
theorem ok_law_v6 {f : Addr} {fd : FuncData} (Fu : Fun K "law" "law" st_law_v6 f fd) (g__law_spring : GF P w K mg base "_law_spring" 1 R_law_spring) (g__law_drop : GF P w K mg base "_law_drop" 1 R_law_drop) (g__law_refusals_right : GF P w K mg base "_law_refusals_right" 2 R_law_refusals_right) (g__law_thing : GF P w K mg base "_law_thing" 25 (R_law_thing_v2 24)) (g_is_name : GF P w K mg base "is_name" 1 R_is_name) (g_is_term : GF P w K mg base "is_term" 3 R_is_term) (g_is_book : GF P w K mg base "is_book" 5 R_is_book) (g_is_machine : GF P w K mg base "is_machine" 3 R_is_machine) (g__law_is_name : GF P w K mg base "_law_is_name" 1 R_law_is_name) (g__law_size : GF P w K mg base "_law_size" 25 (R_law_size 24)) (g__law_is_book : GF P w K mg base "_law_is_book" 26 R_law_is_book) (g__law_is_machine : GF P w K mg base "_law_is_machine" 2 R_law_is_machine) (m_range : mg "range" = none) (m_repr : mg "repr" = none) : FnG P w K mg base (L2.CX P w) 27 f fd ["script"] (spF ⟨K, P, w⟩ mg R_law_v6) :=
  fn_run Fu sc_law_v6 rfl fun cdv A outer s H E hr => gss_cons (gs_set 1 sc_law_v6.nd (ge_call g__law_spring (hr.mono (by omega)) (takes_of rfl rfl rfl rfl) rfl (ga_cons (ge_var 0) (ga_nil)))) (gss_cons (gs_set 2 sc_law_v6.nd (ge_mt .str no_join PySem.F.plainAttrs_str PySem.F.slot_str_join PySem.F.type_str_join zm_join (ge_str) (ga_cons (ge_lc [("k", 8)] rfl sc_law_v6.nd (gi_r1 (ge_call g__law_drop (hr.mono (by omega)) (takes_of rfl rfl rfl rfl) rfl (ga_cons (ge_var 1) (ga_cons (ge_int) (ga_nil)))) rfl m_range) (blkOk_by rfl) (fun _ _ _ _ _ => gg_name 8 sc_law_v6.nd) (fun _ _ _ _ _ => gts_nil) (fun _ _ _ _ _ => ge_ix (ge_str) (ge_call g__law_drop (hr.mono (by omega)) takes0 rfl (ga_cons (ge_var 1) (ga_cons (ge_int) (ga_nil)))))) (ga_nil)))) (gss_cons (gs_if (gt_not (gt_val (ge_call g__law_refusals_right (hr.mono (by omega)) (takes_of rfl rfl rfl rfl) rfl (ga_cons (ge_var 2) (ga_nil))))) (gss_one (gs_ret (ge_bl))) (gss_nil)) (gss_cons (gs_for (passes_of rfl) rfl (gi_r1 (ge_int) rfl m_range) (gg_name 3 sc_law_v6.nd) (gss_cons (gs_set 4 sc_law_v6.nd (ge_call g__law_thing (hr.mono (by omega)) (takes_of rfl rfl rfl rfl) rfl (ga_cons (ge_var 1) (ga_cons (ge_op no_add zo_add (ge_int) (ge_call g__law_drop (hr.mono (by omega)) (takes_of rfl rfl rfl rfl) rfl (ga_cons (ge_var 1) (ga_cons (ge_int) (ga_nil))))) (ga_nil))))) (gss_cons (gs_if (gt_cmp no_eq (zo_eq hr.units) (ge_call g__law_drop (hr.mono (by omega)) (takes_of rfl rfl rfl rfl) rfl (ga_cons (ge_var 1) (ga_cons (ge_int) (ga_nil)))) (ge_int)) (gss_one (gs_set 4 sc_law_v6.nd (ge_lst (ga_cons (ge_var 4) (ga_cons (ge_call g__law_thing (hr.mono (by omega)) (takes_of rfl rfl rfl rfl) rfl (ga_cons (ge_var 1) (ga_cons (ge_int) (ga_nil)))) (ga_nil)))))) (gss_nil)) (gss_cons (gs_set 5 sc_law_v6.nd (ge_callB no_reprD (zc_reprD hr.g hr.u65) rfl m_repr (by decide +kernel) (ga_cons (ge_var 4) (ga_nil)))) (gss_cons (gs_set 6 sc_law_v6.nd (ge_lst (ga_cons (ge_call g_is_name (hr.mono (by omega)) (takes_of rfl rfl rfl rfl) rfl (ga_cons (ge_var 4) (ga_nil))) (ga_cons (ge_call g_is_term (hr.mono (by omega)) (takes_of rfl rfl rfl rfl) rfl (ga_cons (ge_var 4) (ga_nil))) (ga_cons (ge_call g_is_book (hr.mono (by omega)) (takes_of rfl rfl rfl rfl) rfl (ga_cons (ge_var 4) (ga_nil))) (ga_cons (ge_call g_is_machine (hr.mono (by omega)) (takes_of rfl rfl rfl rfl) rfl (ga_cons (ge_var 4) (ga_nil))) (ga_nil))))))) (gss_cons (gs_set 7 sc_law_v6.nd (ge_lst (ga_cons (ge_call g__law_is_name (hr.mono (by omega)) (takes_of rfl rfl rfl rfl) rfl (ga_cons (ge_var 4) (ga_nil))) (ga_cons (ge_cmp no_le zo_le (ge_call g__law_size (hr.mono (by omega)) (takes_of rfl rfl rfl rfl) rfl (ga_cons (ge_var 4) (ga_cons (ge_int) (ga_nil)))) (ge_int)) (ga_cons (ge_call g__law_is_book (hr.mono (by omega)) (takes_of rfl rfl rfl rfl) rfl (ga_cons (ge_var 4) (ga_nil))) (ga_cons (ge_call g__law_is_machine (hr.mono (by omega)) (takes_of rfl rfl rfl rfl) rfl (ga_cons (ge_var 4) (ga_nil))) (ga_nil))))))) (gss_one (gs_if (GW.gt (gw_or (gt_cmp no_ne (zo_ne hr.units) (ge_callB no_reprD (zc_reprD hr.g hr.u65) rfl m_repr (by decide +kernel) (ga_cons (ge_var 4) (ga_nil))) (ge_var 5)) (gw_or1 (gt_cmp no_ne (zo_ne hr.units) (ge_callB no_reprD (zc_reprD hr.g hr.u65) rfl m_repr (by decide +kernel) (ga_cons (ge_var 6) (ga_nil))) (ge_callB no_reprD (zc_reprD hr.g hr.u65) rfl m_repr (by decide +kernel) (ga_cons (ge_var 7) (ga_nil))))))) (gss_one (gs_ret (ge_bl))) (gss_nil))))))))) (gss_one (gs_ret (ge_bl))))))
set_option maxHeartbeats 0 in
theorem all_mk {P : Program} {w : World} {K : PySem.W.Frag} {h : Heap} {mg : Mg} {fa : Addr} (X : K.In h) (G : h.Ns mainGlobals mg) (hfa : mg "law" = some (.ref fa))
    {f0 : Addr} {od0 an0 : Option Addr} {sl0 : Array (Option Value)} {oc0 kV0 dc0 pm0 cd0 ct0 : Value}
    {f1 : Addr} {od1 an1 : Option Addr} {sl1 : Array (Option Value)} {oc1 kV1 dc1 pm1 cd1 ct1 : Value}
    {f2 : Addr} {od2 an2 : Option Addr} {sl2 : Array (Option Value)} {oc2 kV2 dc2 pm2 cd2 ct2 : Value}
    {f3 : Addr} {od3 an3 : Option Addr} {sl3 : Array (Option Value)} {oc3 kV3 dc3 pm3 cd3 ct3 : Value}
    {f4 : Addr} {od4 an4 : Option Addr} {sl4 : Array (Option Value)} {oc4 kV4 dc4 pm4 cd4 ct4 : Value}
    {f5 : Addr} {od5 an5 : Option Addr} {sl5 : Array (Option Value)} {oc5 kV5 dc5 pm5 cd5 ct5 : Value}
    {f6 : Addr} {od6 an6 : Option Addr} {sl6 : Array (Option Value)} {oc6 kV6 dc6 pm6 cd6 ct6 : Value}
    {f7 : Addr} {od7 an7 : Option Addr} {sl7 : Array (Option Value)} {oc7 kV7 dc7 pm7 cd7 ct7 : Value}
    {f8 : Addr} {od8 an8 : Option Addr} {sl8 : Array (Option Value)} {oc8 kV8 dc8 pm8 cd8 ct8 : Value}
    {f9 : Addr} {od9 an9 : Option Addr} {sl9 : Array (Option Value)} {oc9 kV9 dc9 pm9 cd9 ct9 : Value}
    {f10 : Addr} {od10 an10 : Option Addr} {sl10 : Array (Option Value)} {oc10 kV10 dc10 pm10 cd10 ct10 : Value}
    {f11 : Addr} {od11 an11 : Option Addr} {sl11 : Array (Option Value)} {oc11 kV11 dc11 pm11 cd11 ct11 : Value}
    {f12 : Addr} {od12 an12 : Option Addr} {sl12 : Array (Option Value)} {oc12 kV12 dc12 pm12 cd12 ct12 : Value}
    {f13 : Addr} {od13 an13 : Option Addr} {sl13 : Array (Option Value)} {oc13 kV13 dc13 pm13 cd13 ct13 : Value}
    {f14 : Addr} {od14 an14 : Option Addr} {sl14 : Array (Option Value)} {oc14 kV14 dc14 pm14 cd14 ct14 : Value}
    {f15 : Addr} {od15 an15 : Option Addr} {sl15 : Array (Option Value)} {oc15 kV15 dc15 pm15 cd15 ct15 : Value}
    {f16 : Addr} {od16 an16 : Option Addr} {sl16 : Array (Option Value)} {oc16 kV16 dc16 pm16 cd16 ct16 : Value}
    {f17 : Addr} {od17 an17 : Option Addr} {sl17 : Array (Option Value)} {oc17 kV17 dc17 pm17 cd17 ct17 : Value}
    {f18 : Addr} {od18 an18 : Option Addr} {sl18 : Array (Option Value)} {oc18 kV18 dc18 pm18 cd18 ct18 : Value}
    {f19 : Addr} {od19 an19 : Option Addr} {sl19 : Array (Option Value)} {oc19 kV19 dc19 pm19 cd19 ct19 : Value}
    {f20 : Addr} {od20 an20 : Option Addr} {sl20 : Array (Option Value)} {oc20 kV20 dc20 pm20 cd20 ct20 : Value}
    {f21 : Addr} {od21 an21 : Option Addr} {sl21 : Array (Option Value)} {oc21 kV21 dc21 pm21 cd21 ct21 : Value}
    {C_NoName : Addr}
    {C_NoRow : Addr}
    {C_NoText : Addr}
    {C_Told : Addr}
    {C_TooBig : Addr}
    {C_Waits : Addr}
    {C_ZipError : Addr}
    {t_LETTERS : Tok}
    {t_MOST_DEEP : Tok}
    {t_MOST_TERMS : Tok}
    {t_MOST_STATES : Tok}
    {t_MOST_EQUATIONS : Tok}
    (a0 : PySem.W.nsIn K mainGlobals "is_name" = some (some (.ref f0))) (l0 : K.lookup f0 = some ⟨oc0, od0, .func (PySem.W.fnOf "is_name" "is_name" (defArgs st_is_name) (defBody st_is_name) (defScope st_is_name) .none kV0 dc0 pm0 an0 cd0 ct0), sl0⟩) (c0 : PySem.W.codeIn K cd0 "is_name" = true) (k0 : PySem.W.keepIn K (.ref f0) = true)
    (a1 : PySem.W.nsIn K mainGlobals "is_sign" = some (some (.ref f1))) (l1 : K.lookup f1 = some ⟨oc1, od1, .func (PySem.W.fnOf "is_sign" "is_sign" (defArgs st_is_sign) (defBody st_is_sign) (defScope st_is_sign) .none kV1 dc1 pm1 an1 cd1 ct1), sl1⟩) (c1 : PySem.W.codeIn K cd1 "is_sign" = true) (k1 : PySem.W.keepIn K (.ref f1) = true)
    (a2 : PySem.W.nsIn K mainGlobals "is_number" = some (some (.ref f2))) (l2 : K.lookup f2 = some ⟨oc2, od2, .func (PySem.W.fnOf "is_number" "is_number" (defArgs st_is_number) (defBody st_is_number) (defScope st_is_number) .none kV2 dc2 pm2 an2 cd2 ct2), sl2⟩) (c2 : PySem.W.codeIn K cd2 "is_number" = true) (k2 : PySem.W.keepIn K (.ref f2) = true)
    (a3 : PySem.W.nsIn K mainGlobals "_law_spring" = some (some (.ref f3))) (l3 : K.lookup f3 = some ⟨oc3, od3, .func (PySem.W.fnOf "_law_spring" "_law_spring" (defArgs st_law_spring) (defBody st_law_spring) (defScope st_law_spring) .none kV3 dc3 pm3 an3 cd3 ct3), sl3⟩) (c3 : PySem.W.codeIn K cd3 "_law_spring" = true) (k3 : PySem.W.keepIn K (.ref f3) = true)
    (a4 : PySem.W.nsIn K mainGlobals "_law_drop" = some (some (.ref f4))) (l4 : K.lookup f4 = some ⟨oc4, od4, .func (PySem.W.fnOf "_law_drop" "_law_drop" (defArgs st_law_drop) (defBody st_law_drop) (defScope st_law_drop) .none kV4 dc4 pm4 an4 cd4 ct4), sl4⟩) (c4 : PySem.W.codeIn K cd4 "_law_drop" = true) (k4 : PySem.W.keepIn K (.ref f4) = true)
    (a5 : PySem.W.nsIn K mainGlobals "_law_kinds" = some (some (.ref f5))) (l5 : K.lookup f5 = some ⟨oc5, od5, .func (PySem.W.fnOf "_law_kinds" "_law_kinds" (defArgs st_law_kinds) (defBody st_law_kinds) (defScope st_law_kinds) .none kV5 dc5 pm5 an5 cd5 ct5), sl5⟩) (c5 : PySem.W.codeIn K cd5 "_law_kinds" = true) (k5 : PySem.W.keepIn K (.ref f5) = true)
    (a6 : PySem.W.nsIn K mainGlobals "_law_is_name" = some (some (.ref f6))) (l6 : K.lookup f6 = some ⟨oc6, od6, .func (PySem.W.fnOf "_law_is_name" "_law_is_name" (defArgs st_law_is_name) (defBody st_law_is_name) (defScope st_law_is_name) .none kV6 dc6 pm6 an6 cd6 ct6), sl6⟩) (c6 : PySem.W.codeIn K cd6 "_law_is_name" = true) (k6 : PySem.W.keepIn K (.ref f6) = true)
    (a7 : PySem.W.nsIn K mainGlobals "_law_number" = some (some (.ref f7))) (l7 : K.lookup f7 = some ⟨oc7, od7, .func (PySem.W.fnOf "_law_number" "_law_number" (defArgs st_law_number) (defBody st_law_number) (defScope st_law_number) .none kV7 dc7 pm7 an7 cd7 ct7), sl7⟩) (c7 : PySem.W.codeIn K cd7 "_law_number" = true) (k7 : PySem.W.keepIn K (.ref f7) = true)
    (a8 : PySem.W.nsIn K mainGlobals "within" = some (some (.ref f8))) (l8 : K.lookup f8 = some ⟨oc8, od8, .func (PySem.W.fnOf "within" "within" (defArgs st_within) (defBody st_within) (defScope st_within) .none kV8 dc8 pm8 an8 cd8 ct8), sl8⟩) (c8 : PySem.W.codeIn K cd8 "within" = true) (k8 : PySem.W.keepIn K (.ref f8) = true)
    (a9 : PySem.W.nsIn K mainGlobals "is_state" = some (some (.ref f9))) (l9 : K.lookup f9 = some ⟨oc9, od9, .func (PySem.W.fnOf "is_state" "is_state" (defArgs st_is_state) (defBody st_is_state) (defScope st_is_state) .none kV9 dc9 pm9 an9 cd9 ct9), sl9⟩) (c9 : PySem.W.codeIn K cd9 "is_state" = true) (k9 : PySem.W.keepIn K (.ref f9) = true)
    (a10 : PySem.W.nsIn K mainGlobals "_law_refusals_right" = some (some (.ref f10))) (l10 : K.lookup f10 = some ⟨oc10, od10, .func (PySem.W.fnOf "_law_refusals_right" "_law_refusals_right" (defArgs st_law_refusals_right) (defBody st_law_refusals_right) (defScope st_law_refusals_right) .none kV10 dc10 pm10 an10 cd10 ct10), sl10⟩) (c10 : PySem.W.codeIn K cd10 "_law_refusals_right" = true) (k10 : PySem.W.keepIn K (.ref f10) = true)
    (a11 : PySem.W.nsIn K mainGlobals "_law_is_machine" = some (some (.ref f11))) (l11 : K.lookup f11 = some ⟨oc11, od11, .func (PySem.W.fnOf "_law_is_machine" "_law_is_machine" (defArgs st_law_is_machine) (defBody st_law_is_machine) (defScope st_law_is_machine) .none kV11 dc11 pm11 an11 cd11 ct11), sl11⟩) (c11 : PySem.W.codeIn K cd11 "_law_is_machine" = true) (k11 : PySem.W.keepIn K (.ref f11) = true)
    (a12 : PySem.W.nsIn K mainGlobals "is_term" = some (some (.ref f12))) (l12 : K.lookup f12 = some ⟨oc12, od12, .func (PySem.W.fnOf "is_term" "is_term" (defArgs st_is_term) (defBody st_is_term) (defScope st_is_term) .none kV12 dc12 pm12 an12 cd12 ct12), sl12⟩) (c12 : PySem.W.codeIn K cd12 "is_term" = true) (k12 : PySem.W.keepIn K (.ref f12) = true)
    (a13 : PySem.W.nsIn K mainGlobals "names_in" = some (some (.ref f13))) (l13 : K.lookup f13 = some ⟨oc13, od13, .func (PySem.W.fnOf "names_in" "names_in" (defArgs st_names_in) (defBody st_names_in) (defScope st_names_in) .none kV13 dc13 pm13 an13 cd13 ct13), sl13⟩) (c13 : PySem.W.codeIn K cd13 "names_in" = true) (k13 : PySem.W.keepIn K (.ref f13) = true)
    (a14 : PySem.W.nsIn K mainGlobals "is_machine" = some (some (.ref f14))) (l14 : K.lookup f14 = some ⟨oc14, od14, .func (PySem.W.fnOf "is_machine" "is_machine" (defArgs st_is_machine) (defBody st_is_machine) (defScope st_is_machine) .none kV14 dc14 pm14 an14 cd14 ct14), sl14⟩) (c14 : PySem.W.codeIn K cd14 "is_machine" = true) (k14 : PySem.W.keepIn K (.ref f14) = true)
    (a15 : PySem.W.nsIn K mainGlobals "is_equation" = some (some (.ref f15))) (l15 : K.lookup f15 = some ⟨oc15, od15, .func (PySem.W.fnOf "is_equation" "is_equation" (defArgs st_is_equation) (defBody st_is_equation) (defScope st_is_equation) .none kV15 dc15 pm15 an15 cd15 ct15), sl15⟩) (c15 : PySem.W.codeIn K cd15 "is_equation" = true) (k15 : PySem.W.keepIn K (.ref f15) = true)
    (a16 : PySem.W.nsIn K mainGlobals "is_book" = some (some (.ref f16))) (l16 : K.lookup f16 = some ⟨oc16, od16, .func (PySem.W.fnOf "is_book" "is_book" (defArgs st_is_book) (defBody st_is_book) (defScope st_is_book) .none kV16 dc16 pm16 an16 cd16 ct16), sl16⟩) (c16 : PySem.W.codeIn K cd16 "is_book" = true) (k16 : PySem.W.keepIn K (.ref f16) = true)
    (a17 : PySem.W.nsIn K mainGlobals "_law_met" = some (some (.ref f17))) (l17 : K.lookup f17 = some ⟨oc17, od17, .func (PySem.W.fnOf "_law_met" "_law_met" (defArgs st_law_met) (defBody st_law_met) (defScope st_law_met) .none kV17 dc17 pm17 an17 cd17 ct17), sl17⟩) (c17 : PySem.W.codeIn K cd17 "_law_met" = true) (k17 : PySem.W.keepIn K (.ref f17) = true)
    (a18 : PySem.W.nsIn K mainGlobals "_law_thing" = some (some (.ref f18))) (l18 : K.lookup f18 = some ⟨oc18, od18, .func (PySem.W.fnOf "_law_thing" "_law_thing" (defArgs st_law_thing_v2) (defBody st_law_thing_v2) (defScope st_law_thing_v2) .none kV18 dc18 pm18 an18 cd18 ct18), sl18⟩) (c18 : PySem.W.codeIn K cd18 "_law_thing" = true) (k18 : PySem.W.keepIn K (.ref f18) = true)
    (a19 : PySem.W.nsIn K mainGlobals "_law_size" = some (some (.ref f19))) (l19 : K.lookup f19 = some ⟨oc19, od19, .func (PySem.W.fnOf "_law_size" "_law_size" (defArgs st_law_size) (defBody st_law_size) (defScope st_law_size) .none kV19 dc19 pm19 an19 cd19 ct19), sl19⟩) (c19 : PySem.W.codeIn K cd19 "_law_size" = true) (k19 : PySem.W.keepIn K (.ref f19) = true)
    (a20 : PySem.W.nsIn K mainGlobals "_law_is_book" = some (some (.ref f20))) (l20 : K.lookup f20 = some ⟨oc20, od20, .func (PySem.W.fnOf "_law_is_book" "_law_is_book" (defArgs st_law_is_book) (defBody st_law_is_book) (defScope st_law_is_book) .none kV20 dc20 pm20 an20 cd20 ct20), sl20⟩) (c20 : PySem.W.codeIn K cd20 "_law_is_book" = true) (k20 : PySem.W.keepIn K (.ref f20) = true)
    (a21 : PySem.W.nsIn K mainGlobals "law" = some (some (.ref f21))) (l21 : K.lookup f21 = some ⟨oc21, od21, .func (PySem.W.fnOf "law" "law" (defArgs st_law_v6) (defBody st_law_v6) (defScope st_law_v6) .none kV21 dc21 pm21 an21 cd21 ct21), sl21⟩) (c21 : PySem.W.codeIn K cd21 "law" = true) (k21 : PySem.W.keepIn K (.ref f21) = true)
    (en_NoName : PySem.W.nsIn K mainGlobals "NoName" = some (some (.ref C_NoName))) (ex_NoName : PySem.W.excIn K C_NoName [.type "ValueError", .type "Exception", .type "BaseException", .type "object"] "ValueError.__new__" = true) (ek_NoName : PySem.W.keepIn K (.ref C_NoName) = true) (eb_NoName : PySem.W.subIn K (.ref C_NoName) (.type "BaseException") = some true) (et_NoName : PySem.W.typeIn K (.ref C_NoName) = some (.type "type")) (ei_NoName : PySem.W.isClsIn K C_NoName = true) (es_NoName : PySem.W.subIn K (.ref C_NoName) (.ref C_NoName) = some true)
    (en_NoRow : PySem.W.nsIn K mainGlobals "NoRow" = some (some (.ref C_NoRow))) (ex_NoRow : PySem.W.excIn K C_NoRow [.type "ValueError", .type "Exception", .type "BaseException", .type "object"] "ValueError.__new__" = true) (ek_NoRow : PySem.W.keepIn K (.ref C_NoRow) = true) (eb_NoRow : PySem.W.subIn K (.ref C_NoRow) (.type "BaseException") = some true) (et_NoRow : PySem.W.typeIn K (.ref C_NoRow) = some (.type "type")) (ei_NoRow : PySem.W.isClsIn K C_NoRow = true) (es_NoRow : PySem.W.subIn K (.ref C_NoRow) (.ref C_NoRow) = some true)
    (en_NoText : PySem.W.nsIn K mainGlobals "NoText" = some (some (.ref C_NoText))) (ex_NoText : PySem.W.excIn K C_NoText [.type "ValueError", .type "Exception", .type "BaseException", .type "object"] "ValueError.__new__" = true) (ek_NoText : PySem.W.keepIn K (.ref C_NoText) = true) (eb_NoText : PySem.W.subIn K (.ref C_NoText) (.type "BaseException") = some true) (et_NoText : PySem.W.typeIn K (.ref C_NoText) = some (.type "type")) (ei_NoText : PySem.W.isClsIn K C_NoText = true) (es_NoText : PySem.W.subIn K (.ref C_NoText) (.ref C_NoText) = some true)
    (en_Told : PySem.W.nsIn K mainGlobals "Told" = some (some (.ref C_Told))) (ex_Told : PySem.W.excIn K C_Told [.type "ValueError", .type "Exception", .type "BaseException", .type "object"] "ValueError.__new__" = true) (ek_Told : PySem.W.keepIn K (.ref C_Told) = true) (eb_Told : PySem.W.subIn K (.ref C_Told) (.type "BaseException") = some true) (et_Told : PySem.W.typeIn K (.ref C_Told) = some (.type "type")) (ei_Told : PySem.W.isClsIn K C_Told = true) (es_Told : PySem.W.subIn K (.ref C_Told) (.ref C_Told) = some true)
    (en_TooBig : PySem.W.nsIn K mainGlobals "TooBig" = some (some (.ref C_TooBig))) (ex_TooBig : PySem.W.excIn K C_TooBig [.type "ValueError", .type "Exception", .type "BaseException", .type "object"] "ValueError.__new__" = true) (ek_TooBig : PySem.W.keepIn K (.ref C_TooBig) = true) (eb_TooBig : PySem.W.subIn K (.ref C_TooBig) (.type "BaseException") = some true) (et_TooBig : PySem.W.typeIn K (.ref C_TooBig) = some (.type "type")) (ei_TooBig : PySem.W.isClsIn K C_TooBig = true) (es_TooBig : PySem.W.subIn K (.ref C_TooBig) (.ref C_TooBig) = some true)
    (en_Waits : PySem.W.nsIn K mainGlobals "Waits" = some (some (.ref C_Waits))) (ex_Waits : PySem.W.excIn K C_Waits [.type "ValueError", .type "Exception", .type "BaseException", .type "object"] "ValueError.__new__" = true) (ek_Waits : PySem.W.keepIn K (.ref C_Waits) = true) (eb_Waits : PySem.W.subIn K (.ref C_Waits) (.type "BaseException") = some true) (et_Waits : PySem.W.typeIn K (.ref C_Waits) = some (.type "type")) (ei_Waits : PySem.W.isClsIn K C_Waits = true) (es_Waits : PySem.W.subIn K (.ref C_Waits) (.ref C_Waits) = some true)
    (en_ZipError : PySem.W.nsIn K mainGlobals "ZipError" = some (some (.ref C_ZipError))) (ex_ZipError : PySem.W.excIn K C_ZipError [.type "ValueError", .type "Exception", .type "BaseException", .type "object"] "ValueError.__new__" = true) (ek_ZipError : PySem.W.keepIn K (.ref C_ZipError) = true) (eb_ZipError : PySem.W.subIn K (.ref C_ZipError) (.type "BaseException") = some true) (et_ZipError : PySem.W.typeIn K (.ref C_ZipError) = some (.type "type")) (ei_ZipError : PySem.W.isClsIn K C_ZipError = true) (es_ZipError : PySem.W.subIn K (.ref C_ZipError) (.ref C_ZipError) = some true)
    (yh4_NoName : PySem.W.subIn K (.ref C_NoName) (.ref C_ZipError) = some true)
    (yh1_NoName : PySem.W.subIn K (.ref C_ZipError) (.type "BaseException") = some true)
    (yhd_NoName : PySem.W.hasDictIn K C_ZipError = true)
    (yht_NoName : PySem.W.typeIn K (.ref C_ZipError) = some (.type "type"))
    (yhg_NoName : PySem.W.findIn K (.ref C_NoName) "__getattribute__" = some (some (.builtin "BaseException.__getattribute__")))
    (yhk_NoName : PySem.W.findIn K (.ref C_NoName) "__getattr__" = some none)
    (yhs_NoName : PySem.W.subIn K (.ref C_NoName) (.type "BaseException") = some true)
    (yhdd_NoName : PySem.W.hasDictIn K C_NoName = true)
    (yha_NoName : PySem.W.findIn K (.ref C_NoName) "__class__" = some (some (.builtin "object.__class__")))
    (yhn_NoName : PySem.W.specialIn K (.builtin "object.__class__") "__get__" = some (some (.builtin "getset_descriptor.__get__")))
    (yhtk_NoName : PySem.W.takesIn K (.builtin "object.__class__") = some true)
    (yhm_NoName : PySem.W.mroIn K C_NoName (.type "object") = some true)
    (yh4_NoRow : PySem.W.subIn K (.ref C_NoRow) (.ref C_ZipError) = some true)
    (yh1_NoRow : PySem.W.subIn K (.ref C_ZipError) (.type "BaseException") = some true)
    (yhd_NoRow : PySem.W.hasDictIn K C_ZipError = true)
    (yht_NoRow : PySem.W.typeIn K (.ref C_ZipError) = some (.type "type"))
    (yhg_NoRow : PySem.W.findIn K (.ref C_NoRow) "__getattribute__" = some (some (.builtin "BaseException.__getattribute__")))
    (yhk_NoRow : PySem.W.findIn K (.ref C_NoRow) "__getattr__" = some none)
    (yhs_NoRow : PySem.W.subIn K (.ref C_NoRow) (.type "BaseException") = some true)
    (yhdd_NoRow : PySem.W.hasDictIn K C_NoRow = true)
    (yha_NoRow : PySem.W.findIn K (.ref C_NoRow) "__class__" = some (some (.builtin "object.__class__")))
    (yhn_NoRow : PySem.W.specialIn K (.builtin "object.__class__") "__get__" = some (some (.builtin "getset_descriptor.__get__")))
    (yhtk_NoRow : PySem.W.takesIn K (.builtin "object.__class__") = some true)
    (yhm_NoRow : PySem.W.mroIn K C_NoRow (.type "object") = some true)
    (yh4_NoText : PySem.W.subIn K (.ref C_NoText) (.ref C_ZipError) = some true)
    (yh1_NoText : PySem.W.subIn K (.ref C_ZipError) (.type "BaseException") = some true)
    (yhd_NoText : PySem.W.hasDictIn K C_ZipError = true)
    (yht_NoText : PySem.W.typeIn K (.ref C_ZipError) = some (.type "type"))
    (yhg_NoText : PySem.W.findIn K (.ref C_NoText) "__getattribute__" = some (some (.builtin "BaseException.__getattribute__")))
    (yhk_NoText : PySem.W.findIn K (.ref C_NoText) "__getattr__" = some none)
    (yhs_NoText : PySem.W.subIn K (.ref C_NoText) (.type "BaseException") = some true)
    (yhdd_NoText : PySem.W.hasDictIn K C_NoText = true)
    (yha_NoText : PySem.W.findIn K (.ref C_NoText) "__class__" = some (some (.builtin "object.__class__")))
    (yhn_NoText : PySem.W.specialIn K (.builtin "object.__class__") "__get__" = some (some (.builtin "getset_descriptor.__get__")))
    (yhtk_NoText : PySem.W.takesIn K (.builtin "object.__class__") = some true)
    (yhm_NoText : PySem.W.mroIn K C_NoText (.type "object") = some true)
    (yh4_Told : PySem.W.subIn K (.ref C_Told) (.ref C_ZipError) = some true)
    (yh1_Told : PySem.W.subIn K (.ref C_ZipError) (.type "BaseException") = some true)
    (yhd_Told : PySem.W.hasDictIn K C_ZipError = true)
    (yht_Told : PySem.W.typeIn K (.ref C_ZipError) = some (.type "type"))
    (yhg_Told : PySem.W.findIn K (.ref C_Told) "__getattribute__" = some (some (.builtin "BaseException.__getattribute__")))
    (yhk_Told : PySem.W.findIn K (.ref C_Told) "__getattr__" = some none)
    (yhs_Told : PySem.W.subIn K (.ref C_Told) (.type "BaseException") = some true)
    (yhdd_Told : PySem.W.hasDictIn K C_Told = true)
    (yha_Told : PySem.W.findIn K (.ref C_Told) "__class__" = some (some (.builtin "object.__class__")))
    (yhn_Told : PySem.W.specialIn K (.builtin "object.__class__") "__get__" = some (some (.builtin "getset_descriptor.__get__")))
    (yhtk_Told : PySem.W.takesIn K (.builtin "object.__class__") = some true)
    (yhm_Told : PySem.W.mroIn K C_Told (.type "object") = some true)
    (yh4_TooBig : PySem.W.subIn K (.ref C_TooBig) (.ref C_ZipError) = some true)
    (yh1_TooBig : PySem.W.subIn K (.ref C_ZipError) (.type "BaseException") = some true)
    (yhd_TooBig : PySem.W.hasDictIn K C_ZipError = true)
    (yht_TooBig : PySem.W.typeIn K (.ref C_ZipError) = some (.type "type"))
    (yhg_TooBig : PySem.W.findIn K (.ref C_TooBig) "__getattribute__" = some (some (.builtin "BaseException.__getattribute__")))
    (yhk_TooBig : PySem.W.findIn K (.ref C_TooBig) "__getattr__" = some none)
    (yhs_TooBig : PySem.W.subIn K (.ref C_TooBig) (.type "BaseException") = some true)
    (yhdd_TooBig : PySem.W.hasDictIn K C_TooBig = true)
    (yha_TooBig : PySem.W.findIn K (.ref C_TooBig) "__class__" = some (some (.builtin "object.__class__")))
    (yhn_TooBig : PySem.W.specialIn K (.builtin "object.__class__") "__get__" = some (some (.builtin "getset_descriptor.__get__")))
    (yhtk_TooBig : PySem.W.takesIn K (.builtin "object.__class__") = some true)
    (yhm_TooBig : PySem.W.mroIn K C_TooBig (.type "object") = some true)
    (yh4_Waits : PySem.W.subIn K (.ref C_Waits) (.ref C_ZipError) = some true)
    (yh1_Waits : PySem.W.subIn K (.ref C_ZipError) (.type "BaseException") = some true)
    (yhd_Waits : PySem.W.hasDictIn K C_ZipError = true)
    (yht_Waits : PySem.W.typeIn K (.ref C_ZipError) = some (.type "type"))
    (yhg_Waits : PySem.W.findIn K (.ref C_Waits) "__getattribute__" = some (some (.builtin "BaseException.__getattribute__")))
    (yhk_Waits : PySem.W.findIn K (.ref C_Waits) "__getattr__" = some none)
    (yhs_Waits : PySem.W.subIn K (.ref C_Waits) (.type "BaseException") = some true)
    (yhdd_Waits : PySem.W.hasDictIn K C_Waits = true)
    (yha_Waits : PySem.W.findIn K (.ref C_Waits) "__class__" = some (some (.builtin "object.__class__")))
    (yhn_Waits : PySem.W.specialIn K (.builtin "object.__class__") "__get__" = some (some (.builtin "getset_descriptor.__get__")))
    (yhtk_Waits : PySem.W.takesIn K (.builtin "object.__class__") = some true)
    (yhm_Waits : PySem.W.mroIn K C_Waits (.type "object") = some true)
    (yh4_ZipError : PySem.W.subIn K (.ref C_ZipError) (.ref C_ZipError) = some true)
    (yh1_ZipError : PySem.W.subIn K (.ref C_ZipError) (.type "BaseException") = some true)
    (yhd_ZipError : PySem.W.hasDictIn K C_ZipError = true)
    (yht_ZipError : PySem.W.typeIn K (.ref C_ZipError) = some (.type "type"))
    (yhg_ZipError : PySem.W.findIn K (.ref C_ZipError) "__getattribute__" = some (some (.builtin "BaseException.__getattribute__")))
    (yhk_ZipError : PySem.W.findIn K (.ref C_ZipError) "__getattr__" = some none)
    (yhs_ZipError : PySem.W.subIn K (.ref C_ZipError) (.type "BaseException") = some true)
    (yhdd_ZipError : PySem.W.hasDictIn K C_ZipError = true)
    (yha_ZipError : PySem.W.findIn K (.ref C_ZipError) "__class__" = some (some (.builtin "object.__class__")))
    (yhn_ZipError : PySem.W.specialIn K (.builtin "object.__class__") "__get__" = some (some (.builtin "getset_descriptor.__get__")))
    (yhtk_ZipError : PySem.W.takesIn K (.builtin "object.__class__") = some true)
    (yhm_ZipError : PySem.W.mroIn K C_ZipError (.type "object") = some true)
    (kself_NoName : PySem.W.subIn K (.ref C_NoName) (.ref C_NoName) = some true)
    (ksub_NoName_NoName : PySem.W.subIn K (.ref C_NoName) (.ref C_NoName) = some true)
    (kdic_NoName : PySem.W.hasDictIn K C_NoName = true)
    (ktyp_NoName : PySem.W.typeIn K (.ref C_NoName) = some (.type "type"))
    (kself_NoRow : PySem.W.subIn K (.ref C_NoRow) (.ref C_NoRow) = some true)
    (ksub_NoRow_NoName : PySem.W.subIn K (.ref C_NoRow) (.ref C_NoName) = some false)
    (kself_NoText : PySem.W.subIn K (.ref C_NoText) (.ref C_NoText) = some true)
    (ksub_NoText_NoName : PySem.W.subIn K (.ref C_NoText) (.ref C_NoName) = some false)
    (kself_Told : PySem.W.subIn K (.ref C_Told) (.ref C_Told) = some true)
    (ksub_Told_NoName : PySem.W.subIn K (.ref C_Told) (.ref C_NoName) = some false)
    (kself_TooBig : PySem.W.subIn K (.ref C_TooBig) (.ref C_TooBig) = some true)
    (ksub_TooBig_NoName : PySem.W.subIn K (.ref C_TooBig) (.ref C_NoName) = some false)
    (kself_Waits : PySem.W.subIn K (.ref C_Waits) (.ref C_Waits) = some true)
    (ksub_Waits_NoName : PySem.W.subIn K (.ref C_Waits) (.ref C_NoName) = some false)
    (kself_ZipError : PySem.W.subIn K (.ref C_ZipError) (.ref C_ZipError) = some true)
    (ksub_ZipError_NoName : PySem.W.subIn K (.ref C_ZipError) (.ref C_NoName) = some false)
    (ksub_NoName_NoRow : PySem.W.subIn K (.ref C_NoName) (.ref C_NoRow) = some false)
    (kdic_NoRow : PySem.W.hasDictIn K C_NoRow = true)
    (ktyp_NoRow : PySem.W.typeIn K (.ref C_NoRow) = some (.type "type"))
    (ksub_NoRow_NoRow : PySem.W.subIn K (.ref C_NoRow) (.ref C_NoRow) = some true)
    (ksub_NoText_NoRow : PySem.W.subIn K (.ref C_NoText) (.ref C_NoRow) = some false)
    (ksub_Told_NoRow : PySem.W.subIn K (.ref C_Told) (.ref C_NoRow) = some false)
    (ksub_TooBig_NoRow : PySem.W.subIn K (.ref C_TooBig) (.ref C_NoRow) = some false)
    (ksub_Waits_NoRow : PySem.W.subIn K (.ref C_Waits) (.ref C_NoRow) = some false)
    (ksub_ZipError_NoRow : PySem.W.subIn K (.ref C_ZipError) (.ref C_NoRow) = some false)
    (ksub_NoName_NoText : PySem.W.subIn K (.ref C_NoName) (.ref C_NoText) = some false)
    (kdic_NoText : PySem.W.hasDictIn K C_NoText = true)
    (ktyp_NoText : PySem.W.typeIn K (.ref C_NoText) = some (.type "type"))
    (ksub_NoRow_NoText : PySem.W.subIn K (.ref C_NoRow) (.ref C_NoText) = some false)
    (ksub_NoText_NoText : PySem.W.subIn K (.ref C_NoText) (.ref C_NoText) = some true)
    (ksub_Told_NoText : PySem.W.subIn K (.ref C_Told) (.ref C_NoText) = some false)
    (ksub_TooBig_NoText : PySem.W.subIn K (.ref C_TooBig) (.ref C_NoText) = some false)
    (ksub_Waits_NoText : PySem.W.subIn K (.ref C_Waits) (.ref C_NoText) = some false)
    (ksub_ZipError_NoText : PySem.W.subIn K (.ref C_ZipError) (.ref C_NoText) = some false)
    (ksub_NoName_Told : PySem.W.subIn K (.ref C_NoName) (.ref C_Told) = some false)
    (kdic_Told : PySem.W.hasDictIn K C_Told = true)
    (ktyp_Told : PySem.W.typeIn K (.ref C_Told) = some (.type "type"))
    (ksub_NoRow_Told : PySem.W.subIn K (.ref C_NoRow) (.ref C_Told) = some false)
    (ksub_NoText_Told : PySem.W.subIn K (.ref C_NoText) (.ref C_Told) = some false)
    (ksub_Told_Told : PySem.W.subIn K (.ref C_Told) (.ref C_Told) = some true)
    (ksub_TooBig_Told : PySem.W.subIn K (.ref C_TooBig) (.ref C_Told) = some false)
    (ksub_Waits_Told : PySem.W.subIn K (.ref C_Waits) (.ref C_Told) = some false)
    (ksub_ZipError_Told : PySem.W.subIn K (.ref C_ZipError) (.ref C_Told) = some false)
    (ksub_NoName_TooBig : PySem.W.subIn K (.ref C_NoName) (.ref C_TooBig) = some false)
    (kdic_TooBig : PySem.W.hasDictIn K C_TooBig = true)
    (ktyp_TooBig : PySem.W.typeIn K (.ref C_TooBig) = some (.type "type"))
    (ksub_NoRow_TooBig : PySem.W.subIn K (.ref C_NoRow) (.ref C_TooBig) = some false)
    (ksub_NoText_TooBig : PySem.W.subIn K (.ref C_NoText) (.ref C_TooBig) = some false)
    (ksub_Told_TooBig : PySem.W.subIn K (.ref C_Told) (.ref C_TooBig) = some false)
    (ksub_TooBig_TooBig : PySem.W.subIn K (.ref C_TooBig) (.ref C_TooBig) = some true)
    (ksub_Waits_TooBig : PySem.W.subIn K (.ref C_Waits) (.ref C_TooBig) = some false)
    (ksub_ZipError_TooBig : PySem.W.subIn K (.ref C_ZipError) (.ref C_TooBig) = some false)
    (ksub_NoName_Waits : PySem.W.subIn K (.ref C_NoName) (.ref C_Waits) = some false)
    (kdic_Waits : PySem.W.hasDictIn K C_Waits = true)
    (ktyp_Waits : PySem.W.typeIn K (.ref C_Waits) = some (.type "type"))
    (ksub_NoRow_Waits : PySem.W.subIn K (.ref C_NoRow) (.ref C_Waits) = some false)
    (ksub_NoText_Waits : PySem.W.subIn K (.ref C_NoText) (.ref C_Waits) = some false)
    (ksub_Told_Waits : PySem.W.subIn K (.ref C_Told) (.ref C_Waits) = some false)
    (ksub_TooBig_Waits : PySem.W.subIn K (.ref C_TooBig) (.ref C_Waits) = some false)
    (ksub_Waits_Waits : PySem.W.subIn K (.ref C_Waits) (.ref C_Waits) = some true)
    (ksub_ZipError_Waits : PySem.W.subIn K (.ref C_ZipError) (.ref C_Waits) = some false)
    (ksub_NoName_ZipError : PySem.W.subIn K (.ref C_NoName) (.ref C_ZipError) = some true)
    (kdic_ZipError : PySem.W.hasDictIn K C_ZipError = true)
    (ktyp_ZipError : PySem.W.typeIn K (.ref C_ZipError) = some (.type "type"))
    (ksub_NoRow_ZipError : PySem.W.subIn K (.ref C_NoRow) (.ref C_ZipError) = some true)
    (ksub_NoText_ZipError : PySem.W.subIn K (.ref C_NoText) (.ref C_ZipError) = some true)
    (ksub_Told_ZipError : PySem.W.subIn K (.ref C_Told) (.ref C_ZipError) = some true)
    (ksub_TooBig_ZipError : PySem.W.subIn K (.ref C_TooBig) (.ref C_ZipError) = some true)
    (ksub_Waits_ZipError : PySem.W.subIn K (.ref C_Waits) (.ref C_ZipError) = some true)
    (ksub_ZipError_ZipError : PySem.W.subIn K (.ref C_ZipError) (.ref C_ZipError) = some true)
    (ksub_NoName_ValueError : PySem.W.subIn K (.ref C_NoName) (.type "ValueError") = some true)
    (ksub_NoRow_ValueError : PySem.W.subIn K (.ref C_NoRow) (.type "ValueError") = some true)
    (ksub_NoText_ValueError : PySem.W.subIn K (.ref C_NoText) (.type "ValueError") = some true)
    (ksub_Told_ValueError : PySem.W.subIn K (.ref C_Told) (.type "ValueError") = some true)
    (ksub_TooBig_ValueError : PySem.W.subIn K (.ref C_TooBig) (.type "ValueError") = some true)
    (ksub_Waits_ValueError : PySem.W.subIn K (.ref C_Waits) (.type "ValueError") = some true)
    (ksub_ZipError_ValueError : PySem.W.subIn K (.ref C_ZipError) (.type "ValueError") = some true)
    (z_isinstance : PySem.W.nsIn K mainGlobals "isinstance" = some none)
    (z_str : PySem.W.nsIn K mainGlobals "str" = some none)
    (z_len : PySem.W.nsIn K mainGlobals "len" = some none)
    (z_all : PySem.W.nsIn K mainGlobals "all" = some none)
    (z_int : PySem.W.nsIn K mainGlobals "int" = some none)
    (z_bool : PySem.W.nsIn K mainGlobals "bool" = some none)
    (z_list : PySem.W.nsIn K mainGlobals "list" = some none)
    (z_abs : PySem.W.nsIn K mainGlobals "abs" = some none)
    (z_tuple : PySem.W.nsIn K mainGlobals "tuple" = some none)
    (z_enumerate : PySem.W.nsIn K mainGlobals "enumerate" = some none)
    (z_ValueError : PySem.W.nsIn K mainGlobals "ValueError" = some none)
    (z_range : PySem.W.nsIn K mainGlobals "range" = some none)
    (z_sorted : PySem.W.nsIn K mainGlobals "sorted" = some none)
    (z_set : PySem.W.nsIn K mainGlobals "set" = some none)
    (z_repr : PySem.W.nsIn K mainGlobals "repr" = some none)
    (q_LETTERS : PySem.W.nsIn K mainGlobals "LETTERS" = some (some (.str "abcdefghijklmnopqrstuvwxyz" t_LETTERS)))
    (q_MOST_DEEP : PySem.W.nsIn K mainGlobals "MOST_DEEP" = some (some (.int 10 t_MOST_DEEP)))
    (q_MOST_TERMS : PySem.W.nsIn K mainGlobals "MOST_TERMS" = some (some (.int 20 t_MOST_TERMS)))
    (q_MOST_STATES : PySem.W.nsIn K mainGlobals "MOST_STATES" = some (some (.int 500 t_MOST_STATES)))
    (q_MOST_EQUATIONS : PySem.W.nsIn K mainGlobals "MOST_EQUATIONS" = some (some (.int 8 t_MOST_EQUATIONS)))
    : ∃ fd : FuncData, (∀ (s : Shared) (v : Value), BindsTo s fd ⟨[v], []⟩ [("script", v)]) ∧ ∀ base : Heap, K.In base → base.Ns mainGlobals mg → FnG P w K mg base (L2.CX P w) 27 fa fd ["script"] (spF ⟨K, P, w⟩ mg R_law_v6) := by
  have e := hfa.symm.trans (PySem.W.mg_of X G a21)
  cases e
  have m_isinstance := PySem.W.mg_none_of X G z_isinstance
  have m_str := PySem.W.mg_none_of X G z_str
  have m_len := PySem.W.mg_none_of X G z_len
  have m_all := PySem.W.mg_none_of X G z_all
  have m_int := PySem.W.mg_none_of X G z_int
  have m_bool := PySem.W.mg_none_of X G z_bool
  have m_list := PySem.W.mg_none_of X G z_list
  have m_abs := PySem.W.mg_none_of X G z_abs
  have m_tuple := PySem.W.mg_none_of X G z_tuple
  have m_enumerate := PySem.W.mg_none_of X G z_enumerate
  have m_ValueError := PySem.W.mg_none_of X G z_ValueError
  have m_range := PySem.W.mg_none_of X G z_range
  have m_sorted := PySem.W.mg_none_of X G z_sorted
  have m_set := PySem.W.mg_none_of X G z_set
  have m_repr := PySem.W.mg_none_of X G z_repr
  have m_LETTERS := PySem.W.mg_of X G q_LETTERS
  have m_MOST_DEEP := PySem.W.mg_of X G q_MOST_DEEP
  have m_MOST_TERMS := PySem.W.mg_of X G q_MOST_TERMS
  have m_MOST_STATES := PySem.W.mg_of X G q_MOST_STATES
  have m_MOST_EQUATIONS := PySem.W.mg_of X G q_MOST_EQUATIONS
  have m_NoName : ExC K mg "NoName" C_NoName := ⟨PySem.W.mg_of X G en_NoName, ex_NoName, ek_NoName, eb_NoName, et_NoName, exm_self eb_NoName ei_NoName et_NoName es_NoName⟩
  have m_NoRow : ExC K mg "NoRow" C_NoRow := ⟨PySem.W.mg_of X G en_NoRow, ex_NoRow, ek_NoRow, eb_NoRow, et_NoRow, exm_self eb_NoRow ei_NoRow et_NoRow es_NoRow⟩
  have m_NoText : ExC K mg "NoText" C_NoText := ⟨PySem.W.mg_of X G en_NoText, ex_NoText, ek_NoText, eb_NoText, et_NoText, exm_self eb_NoText ei_NoText et_NoText es_NoText⟩
  have m_Told : ExC K mg "Told" C_Told := ⟨PySem.W.mg_of X G en_Told, ex_Told, ek_Told, eb_Told, et_Told, exm_self eb_Told ei_Told et_Told es_Told⟩
  have m_TooBig : ExC K mg "TooBig" C_TooBig := ⟨PySem.W.mg_of X G en_TooBig, ex_TooBig, ek_TooBig, eb_TooBig, et_TooBig, exm_self eb_TooBig ei_TooBig et_TooBig es_TooBig⟩
  have m_Waits : ExC K mg "Waits" C_Waits := ⟨PySem.W.mg_of X G en_Waits, ex_Waits, ek_Waits, eb_Waits, et_Waits, exm_self eb_Waits ei_Waits et_Waits es_Waits⟩
  have m_ZipError : ExC K mg "ZipError" C_ZipError := ⟨PySem.W.mg_of X G en_ZipError, ex_ZipError, ek_ZipError, eb_ZipError, et_ZipError, exm_self eb_ZipError ei_ZipError et_ZipError es_ZipError⟩
  have k_NoName_NoName := kit_own kself_NoName kdic_NoName ktyp_NoName ksub_NoName_NoName
  have k_NoRow_NoName := kit_own kself_NoRow kdic_NoName ktyp_NoName ksub_NoRow_NoName
  have k_NoText_NoName := kit_own kself_NoText kdic_NoName ktyp_NoName ksub_NoText_NoName
  have k_Told_NoName := kit_own kself_Told kdic_NoName ktyp_NoName ksub_Told_NoName
  have k_TooBig_NoName := kit_own kself_TooBig kdic_NoName ktyp_NoName ksub_TooBig_NoName
  have k_Waits_NoName := kit_own kself_Waits kdic_NoName ktyp_NoName ksub_Waits_NoName
  have k_ZipError_NoName := kit_own kself_ZipError kdic_NoName ktyp_NoName ksub_ZipError_NoName
  have k_NoName_NoRow := kit_own kself_NoName kdic_NoRow ktyp_NoRow ksub_NoName_NoRow
  have k_NoRow_NoRow := kit_own kself_NoRow kdic_NoRow ktyp_NoRow ksub_NoRow_NoRow
  have k_NoText_NoRow := kit_own kself_NoText kdic_NoRow ktyp_NoRow ksub_NoText_NoRow
  have k_Told_NoRow := kit_own kself_Told kdic_NoRow ktyp_NoRow ksub_Told_NoRow
  have k_TooBig_NoRow := kit_own kself_TooBig kdic_NoRow ktyp_NoRow ksub_TooBig_NoRow
  have k_Waits_NoRow := kit_own kself_Waits kdic_NoRow ktyp_NoRow ksub_Waits_NoRow
  have k_ZipError_NoRow := kit_own kself_ZipError kdic_NoRow ktyp_NoRow ksub_ZipError_NoRow
  have k_NoName_NoText := kit_own kself_NoName kdic_NoText ktyp_NoText ksub_NoName_NoText
  have k_NoRow_NoText := kit_own kself_NoRow kdic_NoText ktyp_NoText ksub_NoRow_NoText
  have k_NoText_NoText := kit_own kself_NoText kdic_NoText ktyp_NoText ksub_NoText_NoText
  have k_Told_NoText := kit_own kself_Told kdic_NoText ktyp_NoText ksub_Told_NoText
  have k_TooBig_NoText := kit_own kself_TooBig kdic_NoText ktyp_NoText ksub_TooBig_NoText
  have k_Waits_NoText := kit_own kself_Waits kdic_NoText ktyp_NoText ksub_Waits_NoText
  have k_ZipError_NoText := kit_own kself_ZipError kdic_NoText ktyp_NoText ksub_ZipError_NoText
  have k_NoName_Told := kit_own kself_NoName kdic_Told ktyp_Told ksub_NoName_Told
  have k_NoRow_Told := kit_own kself_NoRow kdic_Told ktyp_Told ksub_NoRow_Told
  have k_NoText_Told := kit_own kself_NoText kdic_Told ktyp_Told ksub_NoText_Told
  have k_Told_Told := kit_own kself_Told kdic_Told ktyp_Told ksub_Told_Told
  have k_TooBig_Told := kit_own kself_TooBig kdic_Told ktyp_Told ksub_TooBig_Told
  have k_Waits_Told := kit_own kself_Waits kdic_Told ktyp_Told ksub_Waits_Told
  have k_ZipError_Told := kit_own kself_ZipError kdic_Told ktyp_Told ksub_ZipError_Told
  have k_NoName_TooBig := kit_own kself_NoName kdic_TooBig ktyp_TooBig ksub_NoName_TooBig
  have k_NoRow_TooBig := kit_own kself_NoRow kdic_TooBig ktyp_TooBig ksub_NoRow_TooBig
  have k_NoText_TooBig := kit_own kself_NoText kdic_TooBig ktyp_TooBig ksub_NoText_TooBig
  have k_Told_TooBig := kit_own kself_Told kdic_TooBig ktyp_TooBig ksub_Told_TooBig
  have k_TooBig_TooBig := kit_own kself_TooBig kdic_TooBig ktyp_TooBig ksub_TooBig_TooBig
  have k_Waits_TooBig := kit_own kself_Waits kdic_TooBig ktyp_TooBig ksub_Waits_TooBig
  have k_ZipError_TooBig := kit_own kself_ZipError kdic_TooBig ktyp_TooBig ksub_ZipError_TooBig
  have k_NoName_Waits := kit_own kself_NoName kdic_Waits ktyp_Waits ksub_NoName_Waits
  have k_NoRow_Waits := kit_own kself_NoRow kdic_Waits ktyp_Waits ksub_NoRow_Waits
  have k_NoText_Waits := kit_own kself_NoText kdic_Waits ktyp_Waits ksub_NoText_Waits
  have k_Told_Waits := kit_own kself_Told kdic_Waits ktyp_Waits ksub_Told_Waits
  have k_TooBig_Waits := kit_own kself_TooBig kdic_Waits ktyp_Waits ksub_TooBig_Waits
  have k_Waits_Waits := kit_own kself_Waits kdic_Waits ktyp_Waits ksub_Waits_Waits
  have k_ZipError_Waits := kit_own kself_ZipError kdic_Waits ktyp_Waits ksub_ZipError_Waits
  have k_NoName_ZipError := kit_own kself_NoName kdic_ZipError ktyp_ZipError ksub_NoName_ZipError
  have k_NoRow_ZipError := kit_own kself_NoRow kdic_ZipError ktyp_ZipError ksub_NoRow_ZipError
  have k_NoText_ZipError := kit_own kself_NoText kdic_ZipError ktyp_ZipError ksub_NoText_ZipError
  have k_Told_ZipError := kit_own kself_Told kdic_ZipError ktyp_ZipError ksub_Told_ZipError
  have k_TooBig_ZipError := kit_own kself_TooBig kdic_ZipError ktyp_ZipError ksub_TooBig_ZipError
  have k_Waits_ZipError := kit_own kself_Waits kdic_ZipError ktyp_ZipError ksub_Waits_ZipError
  have k_ZipError_ZipError := kit_own kself_ZipError kdic_ZipError ktyp_ZipError ksub_ZipError_ZipError
  have k_NoName_ValueError := kit_blt (by decide +kernel) ksub_NoName_ValueError
  have k_NoRow_ValueError := kit_blt (by decide +kernel) ksub_NoRow_ValueError
  have k_NoText_ValueError := kit_blt (by decide +kernel) ksub_NoText_ValueError
  have k_Told_ValueError := kit_blt (by decide +kernel) ksub_Told_ValueError
  have k_TooBig_ValueError := kit_blt (by decide +kernel) ksub_TooBig_ValueError
  have k_Waits_ValueError := kit_blt (by decide +kernel) ksub_Waits_ValueError
  have k_ZipError_ValueError := kit_blt (by decide +kernel) ksub_ZipError_ValueError
  have u_NoName := PySem.W.mg_of X G en_NoName
  have u_NoRow := PySem.W.mg_of X G en_NoRow
  have u_NoText := PySem.W.mg_of X G en_NoText
  have u_Told := PySem.W.mg_of X G en_Told
  have u_TooBig := PySem.W.mg_of X G en_TooBig
  have u_Waits := PySem.W.mg_of X G en_Waits
  have u_ZipError := PySem.W.mg_of X G en_ZipError
  have x_NoName : ExH K C_NoName C_ZipError := ⟨PySem.W.exm_ref yh1_NoName yhd_NoName yht_NoName yh4_NoName, ⟨yhg_NoName, yhk_NoName, yhs_NoName, yhdd_NoName, yha_NoName, yhn_NoName, yhtk_NoName, yhm_NoName⟩⟩
  have x_NoRow : ExH K C_NoRow C_ZipError := ⟨PySem.W.exm_ref yh1_NoRow yhd_NoRow yht_NoRow yh4_NoRow, ⟨yhg_NoRow, yhk_NoRow, yhs_NoRow, yhdd_NoRow, yha_NoRow, yhn_NoRow, yhtk_NoRow, yhm_NoRow⟩⟩
  have x_NoText : ExH K C_NoText C_ZipError := ⟨PySem.W.exm_ref yh1_NoText yhd_NoText yht_NoText yh4_NoText, ⟨yhg_NoText, yhk_NoText, yhs_NoText, yhdd_NoText, yha_NoText, yhn_NoText, yhtk_NoText, yhm_NoText⟩⟩
  have x_Told : ExH K C_Told C_ZipError := ⟨PySem.W.exm_ref yh1_Told yhd_Told yht_Told yh4_Told, ⟨yhg_Told, yhk_Told, yhs_Told, yhdd_Told, yha_Told, yhn_Told, yhtk_Told, yhm_Told⟩⟩
  have x_TooBig : ExH K C_TooBig C_ZipError := ⟨PySem.W.exm_ref yh1_TooBig yhd_TooBig yht_TooBig yh4_TooBig, ⟨yhg_TooBig, yhk_TooBig, yhs_TooBig, yhdd_TooBig, yha_TooBig, yhn_TooBig, yhtk_TooBig, yhm_TooBig⟩⟩
  have x_Waits : ExH K C_Waits C_ZipError := ⟨PySem.W.exm_ref yh1_Waits yhd_Waits yht_Waits yh4_Waits, ⟨yhg_Waits, yhk_Waits, yhs_Waits, yhdd_Waits, yha_Waits, yhn_Waits, yhtk_Waits, yhm_Waits⟩⟩
  have x_ZipError : ExH K C_ZipError C_ZipError := ⟨PySem.W.exm_ref yh1_ZipError yhd_ZipError yht_ZipError yh4_ZipError, ⟨yhg_ZipError, yhk_ZipError, yhs_ZipError, yhdd_ZipError, yha_ZipError, yhn_ZipError, yhtk_ZipError, yhm_ZipError⟩⟩
  have F0 := fun_mk (st := st_is_name) l0 c0 k0
  have B0 := F0.binds (ps := ["thing"]) fun _ _ _ _ _ _ us hl => match us, hl with | [_], _ => rfl
  have F1 := fun_mk (st := st_is_sign) l1 c1 k1
  have B1 := F1.binds (ps := ["thing"]) fun _ _ _ _ _ _ us hl => match us, hl with | [_], _ => rfl
  have F2 := fun_mk (st := st_is_number) l2 c2 k2
  have B2 := F2.binds (ps := ["thing", "many"]) fun _ _ _ _ _ _ us hl => match us, hl with | [_, _], _ => rfl
  have F3 := fun_mk (st := st_law_spring) l3 c3 k3
  have B3 := F3.binds (ps := ["script"]) fun _ _ _ _ _ _ us hl => match us, hl with | [_], _ => rfl
  have F4 := fun_mk (st := st_law_drop) l4 c4 k4
  have B4 := F4.binds (ps := ["spring", "many"]) fun _ _ _ _ _ _ us hl => match us, hl with | [_, _], _ => rfl
  have F5 := fun_mk (st := st_law_kinds) l5 c5 k5
  have B5 := F5.binds (ps := ["made"]) fun _ _ _ _ _ _ us hl => match us, hl with | [_], _ => rfl
  have F6 := fun_mk (st := st_law_is_name) l6 c6 k6
  have B6 := F6.binds (ps := ["thing"]) fun _ _ _ _ _ _ us hl => match us, hl with | [_], _ => rfl
  have F7 := fun_mk (st := st_law_number) l7 c7 k7
  have B7 := F7.binds (ps := ["thing", "many"]) fun _ _ _ _ _ _ us hl => match us, hl with | [_, _], _ => rfl
  have F8 := fun_mk (st := st_within) l8 c8 k8
  have B8 := F8.binds (ps := ["thing"]) fun _ _ _ _ _ _ us hl => match us, hl with | [_], _ => rfl
  have F9 := fun_mk (st := st_is_state) l9 c9 k9
  have B9 := F9.binds (ps := ["thing", "many"]) fun _ _ _ _ _ _ us hl => match us, hl with | [_, _], _ => rfl
  have F10 := fun_mk (st := st_law_refusals_right) l10 c10 k10
  have B10 := F10.binds (ps := ["text"]) fun _ _ _ _ _ _ us hl => match us, hl with | [_], _ => rfl
  have F11 := fun_mk (st := st_law_is_machine) l11 c11 k11
  have B11 := F11.binds (ps := ["thing"]) fun _ _ _ _ _ _ us hl => match us, hl with | [_], _ => rfl
  have F12 := fun_mk (st := st_is_term) l12 c12 k12
  have B12 := F12.binds (ps := ["thing"]) fun _ _ _ _ _ _ us hl => match us, hl with | [_], _ => rfl
  have F13 := fun_mk (st := st_names_in) l13 c13 k13
  have B13 := F13.binds (ps := ["term"]) fun _ _ _ _ _ _ us hl => match us, hl with | [_], _ => rfl
  have F14 := fun_mk (st := st_is_machine) l14 c14 k14
  have B14 := F14.binds (ps := ["thing"]) fun _ _ _ _ _ _ us hl => match us, hl with | [_], _ => rfl
  have F15 := fun_mk (st := st_is_equation) l15 c15 k15
  have B15 := F15.binds (ps := ["thing"]) fun _ _ _ _ _ _ us hl => match us, hl with | [_], _ => rfl
  have F16 := fun_mk (st := st_is_book) l16 c16 k16
  have B16 := F16.binds (ps := ["thing"]) fun _ _ _ _ _ _ us hl => match us, hl with | [_], _ => rfl
  have F17 := fun_mk (st := st_law_met) l17 c17 k17
  have B17 := F17.binds (ps := ["term"]) fun _ _ _ _ _ _ us hl => match us, hl with | [_], _ => rfl
  have F18 := fun_mk (st := st_law_thing_v2) l18 c18 k18
  have B18 := F18.binds (ps := ["spring", "deep"]) fun _ _ _ _ _ _ us hl => match us, hl with | [_, _], _ => rfl
  have F19 := fun_mk (st := st_law_size) l19 c19 k19
  have B19 := F19.binds (ps := ["thing", "deep"]) fun _ _ _ _ _ _ us hl => match us, hl with | [_, _], _ => rfl
  have F20 := fun_mk (st := st_law_is_book) l20 c20 k20
  have B20 := F20.binds (ps := ["thing"]) fun _ _ _ _ _ _ us hl => match us, hl with | [_], _ => rfl
  have F21 := fun_mk (st := st_law_v6) l21 c21 k21
  refine ⟨PySem.W.fnOf "law" "law" (defArgs st_law_v6) (defBody st_law_v6) (defScope st_law_v6) .none kV21 dc21 pm21 an21 cd21 ct21, fun s v => .of_eq rfl, fun base _ _ => ?_⟩
  have g_is_name : GF P w K mg base "is_name" 1 R_is_name := gf_of (PySem.W.mg_of X G a0) k0 B0 (ok_is_name F0 m_isinstance m_str m_len m_all m_LETTERS)
  have g_is_sign : GF P w K mg base "is_sign" 1 R_is_sign := gf_of (PySem.W.mg_of X G a1) k1 B1 (ok_is_sign F1 m_isinstance m_int m_bool)
  have g_is_number : GF P w K mg base "is_number" 1 R_is_number := gf_of (PySem.W.mg_of X G a2) k2 B2 (ok_is_number F2 m_isinstance m_int m_bool)
  have g__law_spring : GF P w K mg base "_law_spring" 1 R_law_spring := gf_of (PySem.W.mg_of X G a3) k3 B3 (ok_law_spring F3 m_list)
  have g__law_drop : GF P w K mg base "_law_drop" 1 R_law_drop := gf_of (PySem.W.mg_of X G a4) k4 B4 (ok_law_drop F4 m_len m_abs)
  have g__law_kinds : GF P w K mg base "_law_kinds" 1 R_law_kinds := gf_of (PySem.W.mg_of X G a5) k5 B5 (ok_law_kinds F5 m_isinstance u_NoName u_NoRow u_NoText u_Told u_TooBig u_Waits u_ZipError x_NoName x_NoRow x_NoText x_Told x_TooBig x_Waits x_ZipError en_NoName en_NoRow en_NoText en_Told en_TooBig en_Waits en_ZipError k_NoName_NoName k_NoRow_NoName k_NoText_NoName k_Told_NoName k_TooBig_NoName k_Waits_NoName k_ZipError_NoName k_NoName_NoRow k_NoRow_NoRow k_NoText_NoRow k_Told_NoRow k_TooBig_NoRow k_Waits_NoRow k_ZipError_NoRow k_NoName_NoText k_NoRow_NoText k_NoText_NoText k_Told_NoText k_TooBig_NoText k_Waits_NoText k_ZipError_NoText k_NoName_Told k_NoRow_Told k_NoText_Told k_Told_Told k_TooBig_Told k_Waits_Told k_ZipError_Told k_NoName_TooBig k_NoRow_TooBig k_NoText_TooBig k_Told_TooBig k_TooBig_TooBig k_Waits_TooBig k_ZipError_TooBig k_NoName_Waits k_NoRow_Waits k_NoText_Waits k_Told_Waits k_TooBig_Waits k_Waits_Waits k_ZipError_Waits)
  have g__law_is_name : GF P w K mg base "_law_is_name" 1 R_law_is_name := gf_of (PySem.W.mg_of X G a6) k6 B6 (ok_law_is_name F6 m_isinstance m_str m_len)
  have g__law_number : GF P w K mg base "_law_number" 1 R_law_number := gf_of (PySem.W.mg_of X G a7) k7 B7 (ok_law_number F7 m_isinstance m_int m_bool)
  have g_within : GF P w K mg base "within" 2 R_within := gf_of (PySem.W.mg_of X G a8) k8 B8 (ok_within F8 g_is_name g_is_sign m_isinstance m_tuple m_len m_str)
  have g_is_state : GF P w K mg base "is_state" 2 R_is_state := gf_of (PySem.W.mg_of X G a9) k9 B9 (ok_is_state F9 g_is_number m_isinstance m_tuple m_len)
  have g__law_refusals_right : GF P w K mg base "_law_refusals_right" 2 R_law_refusals_right := gf_of (PySem.W.mg_of X G a10) k10 B10 (ok_law_refusals_right F10 g__law_kinds m_enumerate m_isinstance m_ValueError m_range m_NoName m_NoRow m_NoText m_Told m_TooBig m_Waits m_ZipError u_NoName u_NoRow u_NoText u_Told u_TooBig u_Waits u_ZipError x_NoName x_NoRow x_NoText x_Told x_TooBig x_Waits x_ZipError en_NoName en_NoRow en_NoText en_Told en_TooBig en_Waits en_ZipError k_NoName_ZipError k_NoRow_ZipError k_NoText_ZipError k_Told_ZipError k_TooBig_ZipError k_Waits_ZipError k_ZipError_ZipError k_NoName_ValueError k_NoRow_ValueError k_NoText_ValueError k_Told_ValueError k_TooBig_ValueError k_Waits_ValueError k_ZipError_ValueError)
  have g__law_is_machine : GF P w K mg base "_law_is_machine" 2 R_law_is_machine := gf_of (PySem.W.mg_of X G a11) k11 B11 (ok_law_is_machine F11 g__law_number m_isinstance m_tuple m_len)
  have g_is_term : GF P w K mg base "is_term" 3 R_is_term := gf_of (PySem.W.mg_of X G a12) k12 B12 (ok_is_term F12 g_within m_MOST_DEEP m_MOST_TERMS)
  have g_names_in : GF P w K mg base "names_in" 3 R_names_in := gf_of (PySem.W.mg_of X G a13) k13 B13 (ok_names_in F13 g_within m_sorted m_set)
  have g_is_machine : GF P w K mg base "is_machine" 3 R_is_machine := gf_of (PySem.W.mg_of X G a14) k14 B14 (ok_is_machine F14 g_is_state m_isinstance m_tuple m_len m_all m_MOST_STATES)
  have g_is_equation : GF P w K mg base "is_equation" 4 R_is_equation := gf_of (PySem.W.mg_of X G a15) k15 B15 (ok_is_equation F15 g_is_name g_is_term m_isinstance m_tuple m_len)
  have g_is_book : GF P w K mg base "is_book" 5 R_is_book := gf_of (PySem.W.mg_of X G a16) k16 B16 (ok_is_book F16 g_is_equation g_names_in m_isinstance m_tuple m_len m_all m_set m_MOST_EQUATIONS)
  have g__law_met : GF P w K mg base "_law_met" 24 (R_law_met 24) := gf_of (PySem.W.mg_of X G a17) k17 B17 (ok_law_met F17 (PySem.W.mg_of X G a17) k17 B17 m_isinstance m_tuple 24)
  have g__law_thing : GF P w K mg base "_law_thing" 25 (R_law_thing_v2 24) := gf_of (PySem.W.mg_of X G a18) k18 B18 (ok_law_thing_v2 F18 (PySem.W.mg_of X G a18) k18 B18 g__law_drop m_int m_list 24)
  have g__law_size : GF P w K mg base "_law_size" 25 (R_law_size 24) := gf_of (PySem.W.mg_of X G a19) k19 B19 (ok_law_size F19 (PySem.W.mg_of X G a19) k19 B19 g__law_is_name m_isinstance m_tuple m_len m_range m_int m_bool 24)
  have g__law_is_book : GF P w K mg base "_law_is_book" 26 R_law_is_book := gf_of (PySem.W.mg_of X G a20) k20 B20 (ok_law_is_book F20 g__law_is_name g__law_size g__law_met m_isinstance m_tuple m_len)
  exact ok_law_v6 F21 g__law_spring g__law_drop g__law_refusals_right g__law_thing g_is_name g_is_term g_is_book g_is_machine g__law_is_name g__law_size g__law_is_book g__law_is_machine m_range m_repr
end
end Z
open PySem PySem.W PyProof.Rows in
set_option maxRecDepth 100000 in
set_option maxHeartbeats 0 in
theorem PySem.Challenge.cw_zipspring_k06_refusals_and_things_holds : PySem.Challenge.rw_zipspring_k06_refusals_and_things.Holds := by
  w_on; o_law; k_head; (case hw => w_witness2)
  k_fill
  refine Z.walkZ (l := PySem.Challenge.rw_zipspring_k06_refusals_and_things) (k := 27) (R := Z.R_law_v6) rfl (by decide) ⟨⟨rfl, by decide, by decide⟩, rfl⟩ rfl (fun w h Y => PySem.W.kIn_of Y) (fun ns hl _ => Z.s_law_v6 ns hl) ?F
  case F =>
    intro w mg fa h KX G hmg
    refine' Z.all_mk KX G hmg ?a0 ?l0 ?c0 ?k0 ?a1 ?l1 ?c1 ?k1 ?a2 ?l2 ?c2 ?k2 ?a3 ?l3 ?c3 ?k3 ?a4 ?l4 ?c4 ?k4 ?a5 ?l5 ?c5 ?k5 ?a6 ?l6 ?c6 ?k6 ?a7 ?l7 ?c7 ?k7 ?a8 ?l8 ?c8 ?k8 ?a9 ?l9 ?c9 ?k9 ?a10 ?l10 ?c10 ?k10 ?a11 ?l11 ?c11 ?k11 ?a12 ?l12 ?c12 ?k12 ?a13 ?l13 ?c13 ?k13 ?a14 ?l14 ?c14 ?k14 ?a15 ?l15 ?c15 ?k15 ?a16 ?l16 ?c16 ?k16 ?a17 ?l17 ?c17 ?k17 ?a18 ?l18 ?c18 ?k18 ?a19 ?l19 ?c19 ?k19 ?a20 ?l20 ?c20 ?k20 ?a21 ?l21 ?c21 ?k21 ?en_NoName ?ex_NoName ?ek_NoName ?eb_NoName ?et_NoName ?ei_NoName ?es_NoName ?en_NoRow ?ex_NoRow ?ek_NoRow ?eb_NoRow ?et_NoRow ?ei_NoRow ?es_NoRow ?en_NoText ?ex_NoText ?ek_NoText ?eb_NoText ?et_NoText ?ei_NoText ?es_NoText ?en_Told ?ex_Told ?ek_Told ?eb_Told ?et_Told ?ei_Told ?es_Told ?en_TooBig ?ex_TooBig ?ek_TooBig ?eb_TooBig ?et_TooBig ?ei_TooBig ?es_TooBig ?en_Waits ?ex_Waits ?ek_Waits ?eb_Waits ?et_Waits ?ei_Waits ?es_Waits ?en_ZipError ?ex_ZipError ?ek_ZipError ?eb_ZipError ?et_ZipError ?ei_ZipError ?es_ZipError ?yh4_NoName ?yh1_NoName ?yhd_NoName ?yht_NoName ?yhg_NoName ?yhk_NoName ?yhs_NoName ?yhdd_NoName ?yha_NoName ?yhn_NoName ?yhtk_NoName ?yhm_NoName ?yh4_NoRow ?yh1_NoRow ?yhd_NoRow ?yht_NoRow ?yhg_NoRow ?yhk_NoRow ?yhs_NoRow ?yhdd_NoRow ?yha_NoRow ?yhn_NoRow ?yhtk_NoRow ?yhm_NoRow ?yh4_NoText ?yh1_NoText ?yhd_NoText ?yht_NoText ?yhg_NoText ?yhk_NoText ?yhs_NoText ?yhdd_NoText ?yha_NoText ?yhn_NoText ?yhtk_NoText ?yhm_NoText ?yh4_Told ?yh1_Told ?yhd_Told ?yht_Told ?yhg_Told ?yhk_Told ?yhs_Told ?yhdd_Told ?yha_Told ?yhn_Told ?yhtk_Told ?yhm_Told ?yh4_TooBig ?yh1_TooBig ?yhd_TooBig ?yht_TooBig ?yhg_TooBig ?yhk_TooBig ?yhs_TooBig ?yhdd_TooBig ?yha_TooBig ?yhn_TooBig ?yhtk_TooBig ?yhm_TooBig ?yh4_Waits ?yh1_Waits ?yhd_Waits ?yht_Waits ?yhg_Waits ?yhk_Waits ?yhs_Waits ?yhdd_Waits ?yha_Waits ?yhn_Waits ?yhtk_Waits ?yhm_Waits ?yh4_ZipError ?yh1_ZipError ?yhd_ZipError ?yht_ZipError ?yhg_ZipError ?yhk_ZipError ?yhs_ZipError ?yhdd_ZipError ?yha_ZipError ?yhn_ZipError ?yhtk_ZipError ?yhm_ZipError ?kself_NoName ?ksub_NoName_NoName ?kdic_NoName ?ktyp_NoName ?kself_NoRow ?ksub_NoRow_NoName ?kself_NoText ?ksub_NoText_NoName ?kself_Told ?ksub_Told_NoName ?kself_TooBig ?ksub_TooBig_NoName ?kself_Waits ?ksub_Waits_NoName ?kself_ZipError ?ksub_ZipError_NoName ?ksub_NoName_NoRow ?kdic_NoRow ?ktyp_NoRow ?ksub_NoRow_NoRow ?ksub_NoText_NoRow ?ksub_Told_NoRow ?ksub_TooBig_NoRow ?ksub_Waits_NoRow ?ksub_ZipError_NoRow ?ksub_NoName_NoText ?kdic_NoText ?ktyp_NoText ?ksub_NoRow_NoText ?ksub_NoText_NoText ?ksub_Told_NoText ?ksub_TooBig_NoText ?ksub_Waits_NoText ?ksub_ZipError_NoText ?ksub_NoName_Told ?kdic_Told ?ktyp_Told ?ksub_NoRow_Told ?ksub_NoText_Told ?ksub_Told_Told ?ksub_TooBig_Told ?ksub_Waits_Told ?ksub_ZipError_Told ?ksub_NoName_TooBig ?kdic_TooBig ?ktyp_TooBig ?ksub_NoRow_TooBig ?ksub_NoText_TooBig ?ksub_Told_TooBig ?ksub_TooBig_TooBig ?ksub_Waits_TooBig ?ksub_ZipError_TooBig ?ksub_NoName_Waits ?kdic_Waits ?ktyp_Waits ?ksub_NoRow_Waits ?ksub_NoText_Waits ?ksub_Told_Waits ?ksub_TooBig_Waits ?ksub_Waits_Waits ?ksub_ZipError_Waits ?ksub_NoName_ZipError ?kdic_ZipError ?ktyp_ZipError ?ksub_NoRow_ZipError ?ksub_NoText_ZipError ?ksub_Told_ZipError ?ksub_TooBig_ZipError ?ksub_Waits_ZipError ?ksub_ZipError_ZipError ?ksub_NoName_ValueError ?ksub_NoRow_ValueError ?ksub_NoText_ValueError ?ksub_Told_ValueError ?ksub_TooBig_ValueError ?ksub_Waits_ValueError ?ksub_ZipError_ValueError ?z_isinstance ?z_str ?z_len ?z_all ?z_int ?z_bool ?z_list ?z_abs ?z_tuple ?z_enumerate ?z_ValueError ?z_range ?z_sorted ?z_set ?z_repr ?q_LETTERS ?q_MOST_DEEP ?q_MOST_TERMS ?q_MOST_STATES ?q_MOST_EQUATIONS
    (case a0 => k_is)
    (case l0 => k_is)
    (case c0 => k_is)
    (case k0 => k_is)
    (case a1 => k_is)
    (case l1 => k_is)
    (case c1 => k_is)
    (case k1 => k_is)
    (case a2 => k_is)
    (case l2 => k_is)
    (case c2 => k_is)
    (case k2 => k_is)
    (case a3 => k_is)
    (case l3 => k_is)
    (case c3 => k_is)
    (case k3 => k_is)
    (case a4 => k_is)
    (case l4 => k_is)
    (case c4 => k_is)
    (case k4 => k_is)
    (case a5 => k_is)
    (case l5 => k_is)
    (case c5 => k_is)
    (case k5 => k_is)
    (case a6 => k_is)
    (case l6 => k_is)
    (case c6 => k_is)
    (case k6 => k_is)
    (case a7 => k_is)
    (case l7 => k_is)
    (case c7 => k_is)
    (case k7 => k_is)
    (case a8 => k_is)
    (case l8 => k_is)
    (case c8 => k_is)
    (case k8 => k_is)
    (case a9 => k_is)
    (case l9 => k_is)
    (case c9 => k_is)
    (case k9 => k_is)
    (case a10 => k_is)
    (case l10 => k_is)
    (case c10 => k_is)
    (case k10 => k_is)
    (case a11 => k_is)
    (case l11 => k_is)
    (case c11 => k_is)
    (case k11 => k_is)
    (case a12 => k_is)
    (case l12 => k_is)
    (case c12 => k_is)
    (case k12 => k_is)
    (case a13 => k_is)
    (case l13 => k_is)
    (case c13 => k_is)
    (case k13 => k_is)
    (case a14 => k_is)
    (case l14 => k_is)
    (case c14 => k_is)
    (case k14 => k_is)
    (case a15 => k_is)
    (case l15 => k_is)
    (case c15 => k_is)
    (case k15 => k_is)
    (case a16 => k_is)
    (case l16 => k_is)
    (case c16 => k_is)
    (case k16 => k_is)
    (case a17 => k_is)
    (case l17 => k_is)
    (case c17 => k_is)
    (case k17 => k_is)
    (case a18 => k_is)
    (case l18 => k_is)
    (case c18 => k_is)
    (case k18 => k_is)
    (case a19 => k_is)
    (case l19 => k_is)
    (case c19 => k_is)
    (case k19 => k_is)
    (case a20 => k_is)
    (case l20 => k_is)
    (case c20 => k_is)
    (case k20 => k_is)
    (case a21 => k_is)
    (case l21 => k_is)
    (case c21 => k_is)
    (case k21 => k_is)
    (case en_NoName => k_is)
    (case ex_NoName => k_exc)
    (case ek_NoName => k_is)
    (case eb_NoName => k_is)
    (case et_NoName => k_is)
    (case ei_NoName => k_is)
    (case es_NoName => first | rfl | k_is)
    (case en_NoRow => k_is)
    (case ex_NoRow => k_exc)
    (case ek_NoRow => k_is)
    (case eb_NoRow => k_is)
    (case et_NoRow => k_is)
    (case ei_NoRow => k_is)
    (case es_NoRow => first | rfl | k_is)
    (case en_NoText => k_is)
    (case ex_NoText => k_exc)
    (case ek_NoText => k_is)
    (case eb_NoText => k_is)
    (case et_NoText => k_is)
    (case ei_NoText => k_is)
    (case es_NoText => first | rfl | k_is)
    (case en_Told => k_is)
    (case ex_Told => k_exc)
    (case ek_Told => k_is)
    (case eb_Told => k_is)
    (case et_Told => k_is)
    (case ei_Told => k_is)
    (case es_Told => first | rfl | k_is)
    (case en_TooBig => k_is)
    (case ex_TooBig => k_exc)
    (case ek_TooBig => k_is)
    (case eb_TooBig => k_is)
    (case et_TooBig => k_is)
    (case ei_TooBig => k_is)
    (case es_TooBig => first | rfl | k_is)
    (case en_Waits => k_is)
    (case ex_Waits => k_exc)
    (case ek_Waits => k_is)
    (case eb_Waits => k_is)
    (case et_Waits => k_is)
    (case ei_Waits => k_is)
    (case es_Waits => first | rfl | k_is)
    (case en_ZipError => k_is)
    (case ex_ZipError => k_exc)
    (case ek_ZipError => k_is)
    (case eb_ZipError => k_is)
    (case et_ZipError => k_is)
    (case ei_ZipError => k_is)
    (case es_ZipError => first | rfl | k_is)
    (case yh4_NoName => k_is)
    (case yh1_NoName => k_is)
    (case yhd_NoName => k_is)
    (case yht_NoName => k_is)
    (case yhg_NoName => k_is)
    (case yhk_NoName => k_is)
    (case yhs_NoName => k_is)
    (case yhdd_NoName => k_is)
    (case yha_NoName => k_is)
    (case yhn_NoName => k_is)
    (case yhtk_NoName => k_is)
    (case yhm_NoName => k_is)
    (case yh4_NoRow => k_is)
    (case yh1_NoRow => k_is)
    (case yhd_NoRow => k_is)
    (case yht_NoRow => k_is)
    (case yhg_NoRow => k_is)
    (case yhk_NoRow => k_is)
    (case yhs_NoRow => k_is)
    (case yhdd_NoRow => k_is)
    (case yha_NoRow => k_is)
    (case yhn_NoRow => k_is)
    (case yhtk_NoRow => k_is)
    (case yhm_NoRow => k_is)
    (case yh4_NoText => k_is)
    (case yh1_NoText => k_is)
    (case yhd_NoText => k_is)
    (case yht_NoText => k_is)
    (case yhg_NoText => k_is)
    (case yhk_NoText => k_is)
    (case yhs_NoText => k_is)
    (case yhdd_NoText => k_is)
    (case yha_NoText => k_is)
    (case yhn_NoText => k_is)
    (case yhtk_NoText => k_is)
    (case yhm_NoText => k_is)
    (case yh4_Told => k_is)
    (case yh1_Told => k_is)
    (case yhd_Told => k_is)
    (case yht_Told => k_is)
    (case yhg_Told => k_is)
    (case yhk_Told => k_is)
    (case yhs_Told => k_is)
    (case yhdd_Told => k_is)
    (case yha_Told => k_is)
    (case yhn_Told => k_is)
    (case yhtk_Told => k_is)
    (case yhm_Told => k_is)
    (case yh4_TooBig => k_is)
    (case yh1_TooBig => k_is)
    (case yhd_TooBig => k_is)
    (case yht_TooBig => k_is)
    (case yhg_TooBig => k_is)
    (case yhk_TooBig => k_is)
    (case yhs_TooBig => k_is)
    (case yhdd_TooBig => k_is)
    (case yha_TooBig => k_is)
    (case yhn_TooBig => k_is)
    (case yhtk_TooBig => k_is)
    (case yhm_TooBig => k_is)
    (case yh4_Waits => k_is)
    (case yh1_Waits => k_is)
    (case yhd_Waits => k_is)
    (case yht_Waits => k_is)
    (case yhg_Waits => k_is)
    (case yhk_Waits => k_is)
    (case yhs_Waits => k_is)
    (case yhdd_Waits => k_is)
    (case yha_Waits => k_is)
    (case yhn_Waits => k_is)
    (case yhtk_Waits => k_is)
    (case yhm_Waits => k_is)
    (case yh4_ZipError => k_is)
    (case yh1_ZipError => k_is)
    (case yhd_ZipError => k_is)
    (case yht_ZipError => k_is)
    (case yhg_ZipError => k_is)
    (case yhk_ZipError => k_is)
    (case yhs_ZipError => k_is)
    (case yhdd_ZipError => k_is)
    (case yha_ZipError => k_is)
    (case yhn_ZipError => k_is)
    (case yhtk_ZipError => k_is)
    (case yhm_ZipError => k_is)
    (case kself_NoName => k_is)
    (case ksub_NoName_NoName => k_is)
    (case kdic_NoName => k_is)
    (case ktyp_NoName => k_is)
    (case kself_NoRow => k_is)
    (case ksub_NoRow_NoName => k_is)
    (case kself_NoText => k_is)
    (case ksub_NoText_NoName => k_is)
    (case kself_Told => k_is)
    (case ksub_Told_NoName => k_is)
    (case kself_TooBig => k_is)
    (case ksub_TooBig_NoName => k_is)
    (case kself_Waits => k_is)
    (case ksub_Waits_NoName => k_is)
    (case kself_ZipError => k_is)
    (case ksub_ZipError_NoName => k_is)
    (case ksub_NoName_NoRow => k_is)
    (case kdic_NoRow => k_is)
    (case ktyp_NoRow => k_is)
    (case ksub_NoRow_NoRow => k_is)
    (case ksub_NoText_NoRow => k_is)
    (case ksub_Told_NoRow => k_is)
    (case ksub_TooBig_NoRow => k_is)
    (case ksub_Waits_NoRow => k_is)
    (case ksub_ZipError_NoRow => k_is)
    (case ksub_NoName_NoText => k_is)
    (case kdic_NoText => k_is)
    (case ktyp_NoText => k_is)
    (case ksub_NoRow_NoText => k_is)
    (case ksub_NoText_NoText => k_is)
    (case ksub_Told_NoText => k_is)
    (case ksub_TooBig_NoText => k_is)
    (case ksub_Waits_NoText => k_is)
    (case ksub_ZipError_NoText => k_is)
    (case ksub_NoName_Told => k_is)
    (case kdic_Told => k_is)
    (case ktyp_Told => k_is)
    (case ksub_NoRow_Told => k_is)
    (case ksub_NoText_Told => k_is)
    (case ksub_Told_Told => k_is)
    (case ksub_TooBig_Told => k_is)
    (case ksub_Waits_Told => k_is)
    (case ksub_ZipError_Told => k_is)
    (case ksub_NoName_TooBig => k_is)
    (case kdic_TooBig => k_is)
    (case ktyp_TooBig => k_is)
    (case ksub_NoRow_TooBig => k_is)
    (case ksub_NoText_TooBig => k_is)
    (case ksub_Told_TooBig => k_is)
    (case ksub_TooBig_TooBig => k_is)
    (case ksub_Waits_TooBig => k_is)
    (case ksub_ZipError_TooBig => k_is)
    (case ksub_NoName_Waits => k_is)
    (case kdic_Waits => k_is)
    (case ktyp_Waits => k_is)
    (case ksub_NoRow_Waits => k_is)
    (case ksub_NoText_Waits => k_is)
    (case ksub_Told_Waits => k_is)
    (case ksub_TooBig_Waits => k_is)
    (case ksub_Waits_Waits => k_is)
    (case ksub_ZipError_Waits => k_is)
    (case ksub_NoName_ZipError => k_is)
    (case kdic_ZipError => k_is)
    (case ktyp_ZipError => k_is)
    (case ksub_NoRow_ZipError => k_is)
    (case ksub_NoText_ZipError => k_is)
    (case ksub_Told_ZipError => k_is)
    (case ksub_TooBig_ZipError => k_is)
    (case ksub_Waits_ZipError => k_is)
    (case ksub_ZipError_ZipError => k_is)
    (case ksub_NoName_ValueError => k_is)
    (case ksub_NoRow_ValueError => k_is)
    (case ksub_NoText_ValueError => k_is)
    (case ksub_Told_ValueError => k_is)
    (case ksub_TooBig_ValueError => k_is)
    (case ksub_Waits_ValueError => k_is)
    (case ksub_ZipError_ValueError => k_is)
    (case z_isinstance => k_is)
    (case z_str => k_is)
    (case z_len => k_is)
    (case z_all => k_is)
    (case z_int => k_is)
    (case z_bool => k_is)
    (case z_list => k_is)
    (case z_abs => k_is)
    (case z_tuple => k_is)
    (case z_enumerate => k_is)
    (case z_ValueError => k_is)
    (case z_range => k_is)
    (case z_sorted => k_is)
    (case z_set => k_is)
    (case z_repr => k_is)
    (case q_LETTERS => k_is)
    (case q_MOST_DEEP => k_is)
    (case q_MOST_TERMS => k_is)
    (case q_MOST_STATES => k_is)
    (case q_MOST_EQUATIONS => k_is)
