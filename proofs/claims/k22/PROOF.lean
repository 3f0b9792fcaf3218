import PyProof.Rows.All
import KE.OsRunLaw
import OpenK.AllK
import HandS.TupAny
import HandS.TupMul
import HandS.CallSlots
import HandS.Style
import KE.KRevSl
import HandS.WordsExc
import HandS.EndBits
import Wide.All
import Wide.FinOn
import HandS.ForSpec
import HandS.ForMost
import HandS.Wide
import KE.KDictKeyed
import KE.KDictDisplayH
import KE.KeyNested
import HandS.Lambda
import KE.KNest
import HandS.Deep
import HandS.IsInst
import HandS.Iter
import HandS.Conv
import HandS.Text
import HandS.RaiseMore
import HandS.Exc
import HandS.TryOnly
import PyProof.StrLawsChain
import HandS.Dict
import KE.KDictPairs
import HandS.SetFor
import HandS.Strs
import PyProof.Rows.SortStr
import HandS.TupLen
import HandS.WordsDict
import KE.GoesEnum
import PyProof.ReprRoads
import PyProof.CallFns
import PyProof.ReprLen
import HandS.ExcIs
import PyProof.StrBlock2
import HandS.Zip
import HandS.More
import KE.GoesZip
import KE.GoesMore
import KE.KIntText
import PyProof.Rows.SetFrom
import HandS.TupSets
import KE.KDictZip
import HandS.SetKeys
import PySem.Challenge.RW_zipspring_k22_whole_signs_keep_equations
set_option Elab.async false
set_option linter.all false
set_option maxRecDepth 100000
set_option autoImplicit false
namespace Z
open PySem PySem.W PySem.Calls PyProof.Rows HeadRun
/-- the run's end, in four runs: less of the kernel's memory for each -/
theorem run_parts {p q : Program} {loose : List PySem.Str} {Xt : Shared → Bool} {M : Nat} {W : World} {os : OsState} {as : List Addr} {vK : List (Option Obj)}
    (r1 : (endF (stepQ (denQ tabQ) p W) M p W os).map (fun s => (looksF p (boot_heap W.params) s.abs, as.map (getT s), (seenQ q loose (importedModules p.main.body) Xt s.abs).1, (seenQ q loose (importedModules p.main.body) Xt s.abs).2.1, (seenQ q loose (importedModules p.main.body) Xt s.abs).2.2.2.2.1, (seenQ q loose (importedModules p.main.body) Xt s.abs).2.2.2.2.2.2.1, (seenQ q loose (importedModules p.main.body) Xt s.abs).2.2.2.2.2.2.2.2)) = some (true, vK, expectedOf q, bltViewBooted, pinGoodD (drecsOf q), plainGoodD q loose, clsGoodW q loose))
    (r2 : (endF (stepQ (denQ tabQ) p W) M p W os).map (fun s => ((seenQ q loose (importedModules p.main.body) Xt s.abs).2.2.1, (seenQ q loose (importedModules p.main.body) Xt s.abs).2.2.2.1)) = some (true, true))
    (r3 : (endF (stepQ (denQ tabQ) p W) M p W os).map (fun s => (seenQ q loose (importedModules p.main.body) Xt s.abs).2.2.2.2.2.1) = some (plainGoodE q (looseW q loose)))
    (r4 : (endF (stepQ (denQ tabQ) p W) M p W os).map (fun s => (seenQ q loose (importedModules p.main.body) Xt s.abs).2.2.2.2.2.2.2.1) = some (wideGood q)) :
    (endF (stepQ (denQ tabQ) p W) M p W os).map (fun s => (looksF p (boot_heap W.params) s.abs, (seenQ q loose (importedModules p.main.body) Xt s.abs), as.map (getT s))) = some (true, openGood q loose, vK) := by
  obtain ⟨s, hs, e1⟩ := Option.map_eq_some_iff.mp r1
  rw [hs] at r2 r3 r4 ⊢
  obtain ⟨a1, a2, a3, a4, a5, a6, a7⟩ : _ ∧ _ ∧ _ ∧ _ ∧ _ ∧ _ ∧ _ := by simpa only [Prod.mk.injEq] using e1
  obtain ⟨b1, b2⟩ : _ ∧ _ := by simpa only [Option.map_some, Option.some.injEq, Prod.mk.injEq] using r2
  have c1 := Option.some.inj r3
  have c2 := Option.some.inj r4
  have e : (seenQ q loose (importedModules p.main.body) Xt s.abs) = openGood q loose := Prod.ext a3 (Prod.ext a4 (Prod.ext b1 (Prod.ext b2 (Prod.ext a5 (Prod.ext c1 (Prod.ext a6 (Prod.ext c2 a7)))))))
  show some (looksF p (boot_heap W.params) s.abs, (seenQ q loose (importedModules p.main.body) Xt s.abs), as.map (getT s)) = _
  rw [a1, e, a2]
end Z
namespace Z
section
open PySem PySem.Spec PyProof.Rows L2
def top (i : Nat) : Stmt := PySem.Challenge.pw_zipspring_k22_whole_signs_keep_equations.main.body.getD i (.Pass ⟨0, 0, 0, 0⟩)
abbrev st_term_of : Stmt := top 1
abbrev st_followed : Stmt := top 3
abbrev st_law_cell : Stmt := top 7
abbrev st_law_term_v2 : Stmt := top 8
abbrev st_hangs : Stmt := top 4
abbrev st_walk : Stmt := top 5
abbrev st_law_book_v2 : Stmt := top 9
abbrev st_law_v14 : Stmt := top 10
def AMK (C : Program → World → PySem.W.Frag → (Str → Option Value) → Addr → Prop) : Prop := ∀ {P : Program} {w : World} {K : PySem.W.Frag} {h : Heap} {mg : Str → Option Value} {fa : Addr} (_ : K.In h) (_ : h.Ns mainGlobals mg) (_ : mg "law" = some (.ref fa))
    {f0 : Addr} {od0 an0 : Option Addr} {sl0 : Array (Option Value)} {oc0 kV0 dc0 pm0 cd0 ct0 : Value}
    {f1 : Addr} {od1 an1 : Option Addr} {sl1 : Array (Option Value)} {oc1 kV1 dc1 pm1 cd1 ct1 : Value}
    {f2 : Addr} {od2 an2 : Option Addr} {sl2 : Array (Option Value)} {oc2 kV2 dc2 pm2 cd2 ct2 : Value}
    {f3 : Addr} {od3 an3 : Option Addr} {sl3 : Array (Option Value)} {oc3 kV3 dc3 pm3 cd3 ct3 : Value}
    {f4 : Addr} {od4 an4 : Option Addr} {sl4 : Array (Option Value)} {oc4 kV4 dc4 pm4 cd4 ct4 : Value}
    {f5 : Addr} {od5 an5 : Option Addr} {sl5 : Array (Option Value)} {oc5 kV5 dc5 pm5 cd5 ct5 : Value}
    {f6 : Addr} {od6 an6 : Option Addr} {sl6 : Array (Option Value)} {oc6 kV6 dc6 pm6 cd6 ct6 : Value}
    {f7 : Addr} {od7 an7 : Option Addr} {sl7 : Array (Option Value)} {oc7 kV7 dc7 pm7 cd7 ct7 : Value}
    (a0 : PySem.W.nsIn K mainGlobals "term_of" = some (some (.ref f0))) (l0 : K.lookup f0 = some ⟨oc0, od0, .func (PySem.W.fnOf "term_of" "term_of" (defArgs st_term_of) (defBody st_term_of) (defScope st_term_of) .none kV0 dc0 pm0 an0 cd0 ct0), sl0⟩) (c0 : PySem.W.codeIn K cd0 "term_of" = true) (k0 : PySem.W.keepIn K (.ref f0) = true)
    (a1 : PySem.W.nsIn K mainGlobals "followed" = some (some (.ref f1))) (l1 : K.lookup f1 = some ⟨oc1, od1, .func (PySem.W.fnOf "followed" "followed" (defArgs st_followed) (defBody st_followed) (defScope st_followed) .none kV1 dc1 pm1 an1 cd1 ct1), sl1⟩) (c1 : PySem.W.codeIn K cd1 "followed" = true) (k1 : PySem.W.keepIn K (.ref f1) = true)
    (a2 : PySem.W.nsIn K mainGlobals "_law_cell" = some (some (.ref f2))) (l2 : K.lookup f2 = some ⟨oc2, od2, .func (PySem.W.fnOf "_law_cell" "_law_cell" (defArgs st_law_cell) (defBody st_law_cell) (defScope st_law_cell) .none kV2 dc2 pm2 an2 cd2 ct2), sl2⟩) (c2 : PySem.W.codeIn K cd2 "_law_cell" = true) (k2 : PySem.W.keepIn K (.ref f2) = true)
    (a3 : PySem.W.nsIn K mainGlobals "_law_term" = some (some (.ref f3))) (l3 : K.lookup f3 = some ⟨oc3, od3, .func (PySem.W.fnOf "_law_term" "_law_term" (defArgs st_law_term_v2) (defBody st_law_term_v2) (defScope st_law_term_v2) .none kV3 dc3 pm3 an3 cd3 ct3), sl3⟩) (c3 : PySem.W.codeIn K cd3 "_law_term" = true) (k3 : PySem.W.keepIn K (.ref f3) = true)
    (a4 : PySem.W.nsIn K mainGlobals "hangs" = some (some (.ref f4))) (l4 : K.lookup f4 = some ⟨oc4, od4, .func (PySem.W.fnOf "hangs" "hangs" (defArgs st_hangs) (defBody st_hangs) (defScope st_hangs) .none kV4 dc4 pm4 an4 cd4 ct4), sl4⟩) (c4 : PySem.W.codeIn K cd4 "hangs" = true) (k4 : PySem.W.keepIn K (.ref f4) = true)
    (a5 : PySem.W.nsIn K mainGlobals "walk" = some (some (.ref f5))) (l5 : K.lookup f5 = some ⟨oc5, od5, .func (PySem.W.fnOf "walk" "walk" (defArgs st_walk) (defBody st_walk) (defScope st_walk) .none kV5 dc5 pm5 an5 cd5 ct5), sl5⟩) (c5 : PySem.W.codeIn K cd5 "walk" = true) (k5 : PySem.W.keepIn K (.ref f5) = true)
    (a6 : PySem.W.nsIn K mainGlobals "_law_book" = some (some (.ref f6))) (l6 : K.lookup f6 = some ⟨oc6, od6, .func (PySem.W.fnOf "_law_book" "_law_book" (defArgs st_law_book_v2) (defBody st_law_book_v2) (defScope st_law_book_v2) .none kV6 dc6 pm6 an6 cd6 ct6), sl6⟩) (c6 : PySem.W.codeIn K cd6 "_law_book" = true) (k6 : PySem.W.keepIn K (.ref f6) = true)
    (a7 : PySem.W.nsIn K mainGlobals "law" = some (some (.ref f7))) (l7 : K.lookup f7 = some ⟨oc7, od7, .func (PySem.W.fnOf "law" "law" (defArgs st_law_v14) (defBody st_law_v14) (defScope st_law_v14) .none kV7 dc7 pm7 an7 cd7 ct7), sl7⟩) (c7 : PySem.W.codeIn K cd7 "law" = true) (k7 : PySem.W.keepIn K (.ref f7) = true)
    (z_dict : PySem.W.nsIn K mainGlobals "dict" = some none)
    (z_len : PySem.W.nsIn K mainGlobals "len" = some none)
    (z_range : PySem.W.nsIn K mainGlobals "range" = some none)
    (z_tuple : PySem.W.nsIn K mainGlobals "tuple" = some none)
    (z_list : PySem.W.nsIn K mainGlobals "list" = some none)
    (z_set : PySem.W.nsIn K mainGlobals "set" = some none)
    , C P w K mg fa
end
end Z
namespace Z
open PySem PySem.W PySem.Calls PyProof.Rows
abbrev hR : OpenRow := OpenLaw.row PySem.Challenge.rw_zipspring_k22_whole_signs_keep_equations
abbrev hq : Program := view hR.prog [1, 3, 4, 5, 7, 8, 9, 10]
def hls : List PySem.Str := []
abbrev hX (s : Shared) : Bool := xlAt hq [] s && recOk (RowW.records (OpenRow.toRowW hR)) s
end Z
section
open PySem PySem.W PySem.Calls PyProof.Rows
local macro_rules
  | `(tactic| o_headL $H) => do
    let hh := Lean.mkIdent `hh
    `(tactic| (exact $hh $H))
open PySem PySem.W PyProof.Rows in
set_option maxRecDepth 100000 in
set_option maxHeartbeats 0 in
theorem Z.frT (hh : Hook → Z.hR.Holds) : Z.hR.Holds := by
  w_on
  k_headL
end
namespace Z
open PySem PySem.W PySem.Calls PyProof.Rows HeadRun
def kas : List Addr := [2, 3, 6, 15, 17, 18, 20, 21, 22, 24, 25, 27, 28, 29, 31, 32, 34, 35, 36, 38, 39, 41, 42, 43, 45, 46, 48, 49, 50, 52, 53, 55, 56, 57, 59, 60, 62, 63, 64, 67, 68]
theorem kae : ∀ P, kas = (frT.heap_1 P).map (·.1) := fun P => by kernel_rfl
theorem g1O (w : World) (os : OsState) : (endF (stepQ (denQ tabQ) hR.prog w) 23000 hR.prog w os).map (fun s => (looksF hR.prog (boot_heap w.params) s.abs, kas.map (getT s), (seenQ hq hls (importedModules hR.prog.main.body) hX s.abs).1, (seenQ hq hls (importedModules hR.prog.main.body) hX s.abs).2.1, (seenQ hq hls (importedModules hR.prog.main.body) hX s.abs).2.2.2.2.1, (seenQ hq hls (importedModules hR.prog.main.body) hX s.abs).2.2.2.2.2.2.1, (seenQ hq hls (importedModules hR.prog.main.body) hX s.abs).2.2.2.2.2.2.2.2)) = some (true, (frT.heap_1 w.params).map fun x => some x.2, expectedOf hq, bltViewBooted, pinGoodD (drecsOf hq), plainGoodD hq hls, clsGoodW hq hls) := by kernel_rfl
theorem g2O (w : World) (os : OsState) : (endF (stepQ (denQ tabQ) hR.prog w) 23000 hR.prog w os).map (fun s => ((seenQ hq hls (importedModules hR.prog.main.body) hX s.abs).2.2.1, (seenQ hq hls (importedModules hR.prog.main.body) hX s.abs).2.2.2.1)) = some (true, true) := by kernel_rfl
theorem g3O (w : World) (os : OsState) : (endF (stepQ (denQ tabQ) hR.prog w) 23000 hR.prog w os).map (fun s => (seenQ hq hls (importedModules hR.prog.main.body) hX s.abs).2.2.2.2.2.1) = some (plainGoodE hq (looseW hq hls)) := by kernel_rfl
theorem g4O (w : World) (os : OsState) : (endF (stepQ (denQ tabQ) hR.prog w) 23000 hR.prog w os).map (fun s => (seenQ hq hls (importedModules hR.prog.main.body) hX s.abs).2.2.2.2.2.2.2.1) = some (wideGood hq) := by kernel_rfl
theorem hleft : LeftO hR.prog hq hls hX (Hook.obs (kHook frT.heap_1 kas kae)) (Hook.val (kHook frT.heap_1 kas kae)) 24000 true := left_oneK (M := 23000) (by kernel_rfl) (by rfl) (fun s => by kernel_rfl) (by rfl) (fun w os => run_parts (g1O w os) (g2O w os) (g3O w os) (g4O w os))
end Z
open PySem PySem.W PyProof.Rows in
set_option maxRecDepth 100000 in
set_option maxHeartbeats 0 in
theorem Z.hfact (C : Program → World → Frag → (PySem.Str → Option Value) → Addr → Prop) (A : Z.AMK C) (w : World) (mg : PySem.Str → Option Value) (fa : Addr) (h : Heap) (KX : (Z.frT.heap_1 w.params).In h) (G : h.Ns mainGlobals mg) (hmg : mg "law" = some (.ref fa)) : C (PySem.Challenge.rw_zipspring_k22_whole_signs_keep_equations).prog w (Z.frT.heap_1 w.params) mg fa := by
  k_fill
  refine' A KX G hmg ?a0 ?l0 ?c0 ?k0 ?a1 ?l1 ?c1 ?k1 ?a2 ?l2 ?c2 ?k2 ?a3 ?l3 ?c3 ?k3 ?a4 ?l4 ?c4 ?k4 ?a5 ?l5 ?c5 ?k5 ?a6 ?l6 ?c6 ?k6 ?a7 ?l7 ?c7 ?k7 ?z_dict ?z_len ?z_range ?z_tuple ?z_list ?z_set
  (case a0 => k_is)
  (case l0 => k_is)
  (case c0 => k_is)
  (case k0 => k_is)
  (case a1 => k_is)
  (case l1 => k_is)
  (case c1 => k_is)
  (case k1 => k_is)
  (case a2 => k_is)
  (case l2 => k_is)
  (case c2 => k_is)
  (case k2 => k_is)
  (case a3 => k_is)
  (case l3 => k_is)
  (case c3 => k_is)
  (case k3 => k_is)
  (case a4 => k_is)
  (case l4 => k_is)
  (case c4 => k_is)
  (case k4 => k_is)
  (case a5 => k_is)
  (case l5 => k_is)
  (case c5 => k_is)
  (case k5 => k_is)
  (case a6 => k_is)
  (case l6 => k_is)
  (case c6 => k_is)
  (case k6 => k_is)
  (case a7 => k_is)
  (case l7 => k_is)
  (case c7 => k_is)
  (case k7 => k_is)
  (case z_dict => k_is)
  (case z_len => k_is)
  (case z_range => k_is)
  (case z_tuple => k_is)
  (case z_list => k_is)
  (case z_set => k_is)
open PySem PySem.W PyProof.Rows in
set_option maxRecDepth 100000 in
set_option maxHeartbeats 0 in
theorem Z.pre (C : Program → World → Frag → (PySem.Str → Option Value) → Addr → Prop) (A : Z.AMK C) (hc : ∀ (K : Params → Frag) (d : DefRec), d.name = "law" → d.params.defaults = [] → (∀ (w : World) (mg : PySem.Str → Option Value) (fa : Addr) (h : Heap), (K w.params).In h → h.Ns mainGlobals mg → mg "law" = some (.ref fa) → C (PySem.Challenge.rw_zipspring_k22_whole_signs_keep_equations).prog w (K w.params) mg fa) →
    WalkO Z.hq Z.hls (XL Z.hq []) (fun w h => (K w.params).In h) Z.hR.toRowW d [] (fun f vs => PySem.call f vs)) : PySem.Challenge.rw_zipspring_k22_whole_signs_keep_equations.Holds := by
  w_on; o_law; rename_i said
  refine holds_open (q := Z.hq) (loose := Z.hls) (Xt := Z.hX) (XP := XL Z.hq []) (YP := fun w h => (Z.frT.heap_1 w.params).In h) (N := 24000) Z.hleft (Hook.of (kHook Z.frT.heap_1 Z.kas Z.kae)) (Hook.keeps (kHook Z.frT.heap_1 Z.kas Z.kae)) (fun s e => xl_of s (Bool.and_eq_true_iff.mp e).1) XL.keeps (by rfl) (by rfl) (by rfl) (fun s e => recFacts_of (Bool.and_eq_true_iff.mp e).2) (by rfl) said (by decide +kernel) ⟨rfl, rfl, rfl, rfl, rfl, by decide +kernel⟩ ?hw (hc Z.frT.heap_1 _ rfl rfl fun w mg fa h KX G hmg => Z.hfact C A w mg fa h KX G hmg)
  case hw => w_witness2
namespace L2
open PySem PySem.Spec PyProof.Rows
def NewT (H : Hp) (p : Addr) (xs : List V) (Q : VK) : Prop := Q (.ref p) (upd H p (.tup xs)) ∨ ∀ o : Obj, o.dict = none → Q (.ref p) (upd H p (.frz o (.tup xs)))
section
variable {X : Cx} {pins : List (Addr × Obj)} {σ : St} {H : Hp} {s : Shared}
theorem Inv.newT {xs : List V} {its : List Value} {Q : VK} {t' : Tok} (I : Inv X pins σ H s) (r : Vals xs its) (z : xs.length ≤ sizeLine) (q : NewT H s.heap.objs.size xs Q) :
    EP X pins σ Q (.ref s.heap.objs.size) { s with heap := s.heap.push { cls := .type "tuple", data := .seq its.toArray }, toks := t' } := by
  rcases q with q | q
  · exact ⟨.ref s.heap.objs.size, _, I.laid (t' := t') (o := .tup xs) (fun b ob q => Heap.get?_push_of_some _ q) (Nat.le_refl _) ⟨z, _, r, IsTup.new _ _⟩, rfl, q⟩
  · exact ⟨.ref s.heap.objs.size, _, I.laid (t' := t') (o := .frz { cls := .type "tuple", data := .seq its.toArray } (.tup xs)) (fun b ob q => Heap.get?_push_of_some _ q) (Nat.le_refl _) ⟨Heap.get?_push_size _ rfl, z, _, r, IsTup.new _ _⟩, rfl, q _ rfl⟩
end
section
variable {X : Cx} {es : List Expr} {t : TA} {pos : Pos}
def tTup2 (t : TA) : TE := fun σ H Q => t σ H fun xs H1 => xs.length ≤ sizeLine ∧ ∀ p, H1 p = none → NewT H1 p xs Q
theorem pe_tup2 {x1} (h : PA X es t) : PE X (.Tuple es x1 pos) (tTup2 t) := by
  refine ⟨fun pins s σ H Q I hq => ?_⟩
  refine wpAny_Tuple_spliced (thn (h.run pos pins s σ H _ I hq) fun us s1 ⟨xs, H1, I1, r, z, q⟩ => ⟨by rw [← r.length]; exact z, ?_⟩)
  exact I1.newT (t' := s1.toks) r z (q _ (I1.hok.fresh (Nat.le_refl _)))
/-- t + u -/
def rCat2 (K : PySem.W.Frag) : R2 := fun x y H Q => ∃ a b xs ys, x = .ref a ∧ y = .ref b ∧ SqT K H a xs ∧ SqT K H b ys ∧ xs.length + ys.length ≤ sizeLine ∧
  (xs = [] → Q (.ref b) H) ∧ (xs ≠ [] → ys = [] → Q (.ref a) H) ∧ (xs ≠ [] → ys ≠ [] → ∀ p, H p = none → NewT H p (xs ++ ys) Q)
theorem op_cat2 : OpR X (binaryOp .Add) (rCat2 X.K) := by
  intro pins s σ H x y v u Q I rx ry h
  obtain ⟨a, b, xs, ys, rfl, rfl, ha, hb, hz, q0, q1, q2⟩ := h
  cases rx
  cases ry
  obtain ⟨its, r1, p1, _⟩ := I.tuple ha
  obtain ⟨its2, r2, p2, _⟩ := I.tuple hb
  by_cases hx : xs = []
  · subst hx
    cases r1
    exact cat_tup0 p1 p2 ⟨.ref b, H, I, rfl, q0 rfl⟩
  · refine HT.cat_tup p1 p2 (fun z => hx (r1.nil_iff.mp z)) (fun z => ⟨.ref a, H, I, rfl, q1 hx (r2.nil_iff.mp z)⟩) (fun z => ?_) (by rw [← r1.length, ← r2.length]; exact hz)
    exact I.newT (t' := s.toks) (r1.append r2) (by rw [List.length_append]; exact hz) (q2 hx (fun w => z (r2.nil_iff.mpr w)) _ (I.hok.fresh (Nat.le_refl _)))
/-- t[lo:hi]: the whole of it is t itself -/
def rSl2 (K : PySem.W.Frag) : V → Option Int → Option Int → Hp → VK → Prop := fun x lo hi H Q => ∃ a xs, x = .ref a ∧ SqT K H a xs ∧
  (HT.sIx xs.length 0 lo = 0 ∧ HT.sIx xs.length xs.length hi = xs.length → Q (.ref a) H) ∧ (¬ (HT.sIx xs.length 0 lo = 0 ∧ HT.sIx xs.length xs.length hi = xs.length) → ∀ p, H p = none → NewT H p (cutV xs lo hi) Q)
theorem sl_tup2 : SlR X (rSl2 X.K) := by
  intro pins s σ H x v vl vu lo hi sl Q I rx hs pl pu h
  obtain ⟨a, xs, rfl, hx, q1, q2⟩ := h
  cases rx
  obtain ⟨its, r, ht, hz⟩ := I.tuple hx
  have hlen : its.toArray.size = xs.length := by rw [List.size_toArray]; exact r.length.symm
  refine ⟨"tuple", _, PyProof.Rows.slot_tuple_getitem.lookup, ht.typeIs, ?_⟩
  by_cases hw : HT.sIx xs.length 0 lo = 0 ∧ HT.sIx xs.length xs.length hi = xs.length
  · exact getItem_tuple_whole ht hs pl pu (by rw [hlen]; exact hw) ⟨.ref a, H, I, rfl, q1 hw⟩
  · refine HT.getItem_tuple_cut ht hs pl pu (by rw [hlen]; exact hw) ?_ (by rw [hlen]; exact hz)
    rw [hlen]
    exact I.newT (t' := s.toks) ((r.drop (HT.sIx xs.length 0 lo)).take (HT.sIx xs.length xs.length hi - HT.sIx xs.length 0 lo)) (Nat.le_trans (cutV_length xs lo hi) hz) (q2 hw _ (I.hok.fresh (Nat.le_refl _)))
/-- tuple(x) -/
theorem call_tuple2 : CallR X (.type "tuple") (fun xs H Q => ∃ p ys, xs = [.ref p] ∧ ((SqL X.K H p ys ∧ ∀ l, H l = none → NewT H l ys Q) ∨ (SqT X.K H p ys ∧ Q (.ref p) H))) := by
  intro pins s σ H xs us Q I r h
  obtain ⟨p, ys, rfl, h⟩ := h
  obtain ⟨u, rfl, rx⟩ := vals1 r
  cases rx
  rcases h with ⟨hq, q⟩ | ⟨hq, q⟩
  · obtain ⟨its, r', pl, hz⟩ := I.list hq
    have hlen := r'.length
    refine call_tuple_list pl.isList (fun h' kp => ?_) (by simp only [List.size_toArray] <;> omega)
    have I1 : Inv X pins σ H { s with heap := h' } := I.kept (t' := s.toks) kp
    exact I1.newT (t' := s.toks) r' hz (q _ (I1.hok.fresh (Nat.le_refl _)))
  · obtain ⟨its, r', pl, hz⟩ := I.tuple hq
    exact call_tuple_same pl ⟨.ref p, H, I, rfl, q⟩
/-- t * k -/
def rRep2 (K : PySem.W.Frag) : R2 := fun x y H Q => ∃ l k xs, x = .ref l ∧ y = .int k ∧ SqT K H l xs ∧ xs ≠ [] ∧ 2 ≤ k ∧ k ≤ 1000 ∧ xs.length ≤ 1000 ∧ ∀ p, H p = none → NewT H p (List.replicate k.toNat xs).flatten Q
theorem op_rep2 : OpR X (binaryOp .Mult) (rRep2 X.K) := by
  intro pins s σ H x y v u Q I rx ry h
  obtain ⟨l, k, xs, rfl, rfl, hT, hne, h1, h2, hz, q⟩ := h
  cases rx
  obtain ⟨t, rfl⟩ := ry
  obtain ⟨its, r, ⟨⟨cls, dd, data, sl⟩, ho, hc, n, hd⟩, hs⟩ := I.tuple hT
  simp only at hc hd
  subst hc hd
  have hle : its.length = xs.length := r.length.symm
  have hn : its ≠ [] := fun e => hne (by
    rw [e] at hle
    exact List.eq_nil_of_length_eq_zero hle.symm)
  have hi : its.toArray.isEmpty = false := by
    cases its with
    | nil => exact absurd rfl hn
    | cons a b => rfl
  have hsz0 : its.toArray.size = xs.length := by rw [List.size_toArray, hle]
  have hm : ((its.toArray.size : Nat) : Int) * k ≤ 1000000 := by
    rw [hsz0]
    have a1 : ((xs.length : Nat) : Int) * k ≤ 1000 * k := Int.mul_le_mul_of_nonneg_right (by omega) (by omega)
    omega
  have flen : (List.replicate k.toNat its).flatten.length ≤ sizeLine := by
    rw [PyProof.Rows.lm_len_rep_flat, hle, sizeLine_eq]
    have a1 : k.toNat * xs.length ≤ 1000 * 1000 := Nat.mul_le_mul (by omega) hz
    omega
  have c0 : (decide (k < -(2 ^ 63)) || decide (k ≥ 2 ^ 63)) = false := by
    rw [decide_eq_false (by omega), decide_eq_false (by omega)] <;> rfl
  have c1 : (its.toArray.isEmpty || k == 1) = false := by
    rw [hi, Bool.false_or]
    exact beq_eq_false_iff_ne.mpr (by omega)
  have c2 : (decide (k ≤ 0) || its.toArray.isEmpty) = false := by
    rw [hi, Bool.or_false]
    exact decide_eq_false (by omega)
  have c4 : Builtin.Tuple.tupleTooMany (((its.toArray.size : Nat) : Int) * k) = false := by
    unfold Builtin.Tuple.tupleTooMany
    rw [sizeLine_eq]
    exact decide_eq_false (by omega)
  refine wpAny_binaryOp_repeat_ref (T := "tuple") (U := "int") (by decide) ⟨_, ho, rfl⟩ (fun s' => typeIs_int s' k t) noFill_tuple_mul F.fills_int_mul F.slot_int_rmul repeat_tuple F.slot_int_index.lookup
    (call_meets F.slot_int_rmul (typeIs_int s k t) F.entry_int_rmul (F.args_int_rmul_2 _ _) (int_rmul_tuple k t l its.toArray n dd sl)
      ⟨ho, rfl, ⟨_, ho, rfl⟩, call_meets F.slot_tuple_mul ⟨_, ho, rfl⟩ F.entry_tuple_mul (F.args_tuple_mul_2 _ _) (tuple_mulW l its.toArray n dd sl k t c0 c1 c2 (by omega) c4 (by rw [size_rep, List.size_toArray]; exact flen)) ⟨ho, ?_⟩⟩)
  rw [size_rep]
  exact I.newT (t' := s.toks) (r.rep k.toNat) (by rw [PyProof.Rows.lm_len_rep_flat, sizeLine_eq]; have a1 : k.toNat * xs.length ≤ 1000 * 1000 := Nat.mul_le_mul (by omega) hz; omega) (q _ (I.hok.fresh (Nat.le_refl _)))
end
end L2
namespace L2
open PySem PySem.Spec PyProof.Rows
/-- room, and no guard around -/
structure RoomG (k : Nat) (A : Around) : Prop where
  r : Room k A
  g : A.guards = some []
theorem RoomG.mono {j k : Nat} {A : Around} (h : RoomG k A) (l : j ≤ k) : RoomG j A := ⟨h.r.mono l, h.g⟩
theorem RoomG.deeper {k : Nat} {A : Around} (h : RoomG (k + 1) A) (env : Env) : RoomG k (A.deeper env) := ⟨h.r.deeper env, h.g⟩
/-- as FnOk, asked only there -/
structure FnG (P : Program) (w : World) (K : PySem.W.Frag) (mg : Str → Option Value) (base : Heap) (CX : CXT) (k : Nat) (f : Addr) (fd : FuncData) (ps : List Str) (sp : Sp) : Prop where
  len : ∀ vs H Q E, sp vs H Q E → vs.length = ps.length
  run : ∀ (A : Around) (outer : List Env) (s : Shared) (H : Hp) (args : Args) (us : List Value) (vs : List V) (Q : VK) (E : XK), RoomG k A → Env0 P w K mg base A outer s H → BindsTo s fd args (ps.zip us) → Vals vs us → sp vs H Q E →
    codeAny (model P w) A (.call (.ref f) args) (CR CX outer P w H s Q E) s
theorem FnG.imp {P : Program} {w : World} {K : PySem.W.Frag} {mg : Str → Option Value} {base : Heap} {CX : CXT} {k : Nat} {f : Addr} {fd : FuncData} {ps : List Str} {sp sp' : Sp} (F : FnG P w K mg base CX k f fd ps sp)
    (h : ∀ vs H Q E, sp' vs H Q E → sp vs H Q E) : FnG P w K mg base CX k f fd ps sp' :=
  ⟨fun vs H Q E q => F.len vs H Q E (h _ _ _ _ q), fun A outer s H args us vs Q E hr he hb hv hs => F.run A outer s H args us vs Q E hr he hb hv (h _ _ _ _ hs)⟩
theorem fn_ofG {CX : CXT} {P : Program} {w : World} {K : PySem.W.Frag} {mg : Str → Option Value} {base : Heap} {k : Nat} {f : Addr} {name qual : Str} {params : Arguments} {body : List Stmt} {scope : Scope} {dV kV doc pm cdv ct oc : Value} {an od : Option Addr}
    {osl : Array (Option Value)} {N ps : List Str} {sp : Sp} (lk : K.lookup f = some ⟨oc, od, .func (PySem.W.fnOf name qual params body scope dV kV doc pm an cdv ct), osl⟩) (hcd : PySem.W.codeIn K cdv qual = true) (S : FnScope N ps scope)
    (len : ∀ vs H Q E, sp vs H Q E → vs.length = ps.length)
    (hbody : ∀ (A : Around) (outer : List Env) (s : Shared) (H : Hp) (vs : List V) (Q : VK) (E : XK), RoomG k (A.deeper (envOfC qual scope s.heap.objs.size f cdv)) → sp vs H Q E →
      ∃ t, PSs (cxOf CX P w K mg base N qual scope f cdv A outer s H E) body t ∧ t { nx := fun _ H' => Q .non H', rt := Q } (start N vs) H) :
    FnG P w K mg base CX (k + 1) f (PySem.W.fnOf name qual params body scope dV kV doc pm an cdv ct) ps sp := by
  refine ⟨len, fun A outer s H args us vs Q E hr e0 hb r hsp => ?_⟩
  have hl := len _ _ _ _ hsp
  have KX : K.In s.heap := e0.mod.kin.keeps fun b o e => (e0.bs b o e).1
  have lim : s.heap.NoLimit := e0.mod.nolimit.keeps fun b o e => (e0.bs b o e).1
  have hkind : ∀ y ∈ ps.zip us, scope.names.lookup y.1 = some .local ∨ (scope.names.lookup y.1 = some .cell ∧ ((cellsFrom (s.heap.objs.size + 1) scope.names []).lookup y.1).isSome = true) := fun ⟨n, v⟩ hy => by
    rcases S.par n (List.of_mem_zip hy).1 with q | q
    · exact .inl q
    · exact .inr ⟨q, PySem.W.cellsFrom_some _ _ _ (.inl q)⟩
  refine codeAny_call_function hr.r.depth (KX _ _ lk) rfl S.co S.gen rfl (PySem.W.codeRec_of KX hcd) (hb _ _ _ _ ?_)
  refine wpAny_newFunctionEnv_cells S.kind hkind fun env he s1 x => ?_
  subst he
  refine ⟨lim.keeps x.toInCall.keep, codeAny_func ?_⟩
  obtain ⟨t, ht, hq⟩ := hbody A outer s H vs Q E (hr.deeper _) hsp
  have I : Inv (cxOf CX P w K mg base N qual scope f cdv A outer s H E) [] (start N vs) H s1 := inv_start S hr.r.hd e0 hl r x
  refine wpAny_mono (ht.run [] s1 (start N vs) H _ I hq) (fun fl s' hs => ?_) fun e s' hs => hs
  have fin : ∀ {σ' : St} {H' : Hp} {v : V} {u : Value}, Inv (cxOf CX P w K mg base N qual scope f cdv A outer s H E) [] σ' H' s' → RelV v u → Q v H' → CE outer P w H s Q u s' :=
    fun {σ' H' v u} J rv q => ⟨v, H', J.os, J.bare, J.base, J.hok, rv, q⟩
  cases fl with
  | ret u =>
    obtain ⟨v, σ', H', J, rv, q⟩ := hs
    exact fin J rv q
  | next =>
    obtain ⟨σ', H', J, q⟩ := hs
    exact fin (v := V.non) (u := Value.none) J rfl q
  | brk =>
    obtain ⟨_, _, _, q⟩ := hs
    exact False.elim q
  | cont =>
    obtain ⟨_, _, _, q⟩ := hs
    exact False.elim q
section
variable {P : Program} {w : World} {K : PySem.W.Frag} {mg : Str → Option Value} {base : Heap}
theorem Fun.okG {x qual : Str} {st : Stmt} {f : Addr} {fd : FuncData} {N ps : List Str} {k : Nat} {sp : Sp} (F : Fun K x qual st f fd) (S : FnScope N ps (defScope st)) (len : ∀ vs H Q E, sp vs H Q E → vs.length = ps.length)
    (hbody : ∀ (cdv : Value) (A : Around) (outer : List Env) (s : Shared) (H : Hp) (vs : List V) (Q : VK) (E : XK), RoomG k (A.deeper (envOfC qual (defScope st) s.heap.objs.size f cdv)) → sp vs H Q E →
      ∃ t, PSs (cxOf (L2.CX P w) P w K mg base N qual (defScope st) f cdv A outer s H E) (defBody st) t ∧ t { nx := fun _ H' => Q .non H', rt := Q } (start N vs) H) : FnG P w K mg base (L2.CX P w) (k + 1) f fd ps sp := by
  obtain ⟨oc, od, kV, doc, pm, an, cdv, ct, osl, rfl, lk, hcd⟩ := F.ex
  exact fn_ofG lk hcd S len fun A outer s H vs Q E hr hsp => hbody cdv A outer s H vs Q E hr hsp
end
section
variable {X : Cx} {CX : CXT} {k : Nat} {f : Addr} {fd : FuncData} {ps : List Str} {sp : Sp} {dvs : List V} {ds : List Value} {E : St → XK} {x : Str} {p pos : Pos} {e : Expr} {es : List Expr} {t : TA}
theorem run_fnG {pins : List (Addr × Obj)} {σ : St} {H : Hp} {s : Shared} {Q : VK} {us : List Value} {vs : List V} (F : FnG X.prog X.w X.K X.mg X.base CX k f fd ps sp) (hr : RoomG k X.A) (hb : Binds X.K fd ps ds) (hd : Vals dvs ds) (hx : PassesAt CX X σ (E σ))
    (I : Inv X pins σ H s) (r : Vals vs us) (h : sp (vs ++ dvs) H Q (E σ)) : wpAny (model X.prog X.w) X.A (call (.ref f) us) (EP X pins σ Q) X.xe s := by
  have r2 : Vals (vs ++ dvs) (us ++ ds) := r.append hd
  have hl : (us ++ ds).length = ps.length := by rw [← r2.length]; exact F.len _ _ _ _ h
  refine wpAny_call (codeAny_mono (F.run X.A X.stack s H ⟨us, []⟩ (us ++ ds) (vs ++ dvs) Q (E σ) hr I.env0 (hb s us I.kIn hl) r2 h) fun r s' hq => ?_)
  cases r with
  | error e => exact hx pins H s e s' I hq
  | ok fl =>
    cases fl with
    | ret u => exact I.after hq
    | next => exact False.elim hq
    | brk => exact False.elim hq
    | cont => exact False.elim hq
theorem pe_callG (F : FnG X.prog X.w X.K X.mg X.base CX k f fd ps sp) (hr : RoomG k X.A) (hg : Gl X x) (hm : X.mg x = some (.ref f)) (hk : PySem.W.keepIn X.K (.ref f) = true) (hb : Binds X.K fd ps ds) (hd : Vals dvs ds) (hx : ∀ σ, PassesAt CX X σ (E σ))
    (ha : PA X (e :: es) t) (hdb : (x == ("__debug__" : Str)) = false := by decide) (he : starEach (e :: es) X.env = (false, eval e X.env) :: starEach es X.env := by rfl) (hpl : (backTo pos (starEach es X.env)).any (·.1) = false := by rfl) :
    PE X (.Call (.Name x p) (e :: es) [] pos) (tCallSD sp dvs E t) := by
  refine ⟨fun pins s σ H Q I h => ?_⟩
  refine wpAny_Call_Name_kw (ld_glob I hg hm ?_ hdb)
  refine PySem.W.callWith_K (h₀ := X.base) I.ok.mod.kin hk (thn (ha.run pos pins s σ H _ I h) fun us s1 ⟨vs, H1, I1, r, q⟩ => ⟨I1.kIn, ?_⟩) he hpl
  exact run_fnG F hr hb hd (hx σ) I1 r q
end
/-- the law's promise, at the heap behind the top -/
theorem law_callG {P : Program} {w : World} {K : PySem.W.Frag} {mg mb : Str → Option Value} {CX : CXT} {k : Nat} {fa a : Addr} {fd : FuncData} {x : Str} {sp : Sp} {s₁ : Shared} {vs : List Value} {ns : List Int}
    (KX : K.In s₁.heap) (hns : s₁.heap.Ns mainGlobals mg) (hb : s₁.heap.Ns builtinsNs mb) (hbb : ∀ x : Str, x ≠ "__name__" → mb x = bootBuiltins x) (hlim : s₁.heap.NoLimit) (hg : s₁.gens = #[])
    (ha : s₁.heap.get? a = some { cls := .type "list", data := .seq vs.toArray }) (hi : IntsAre vs ns) (hl : ns.length ≤ sizeLine) (hr : RoomG k callerA)
    (F : ∀ base : Heap, K.In base → base.Ns mainGlobals mg → FnG P w K mg base CX k fa fd [x] sp) (hbind : ∀ (s : Shared) (u : Value), BindsTo s fd ⟨[u], []⟩ [(x, u)])
    (hsp : ∀ H : Hp, Only H → SqL K H a (ns.map V.int) → sp [.ref a] H (fun v _ => v = .bl true) fun _ _ _ => False)
    (hCX : ∀ H e s', CX [] H s₁ (fun _ _ _ => False) e s' → False) :
    codeAny (model P w) callerA (.call (.ref fa) ⟨[.ref a], []⟩) (fun r s' => r = .ok (.ret (.bool true)) ∧ OldK s₁.heap s'.heap ∧ s'.os = s₁.os ∧ AllBare s'.gens) s₁ := by
  have rv := vals_ints hi
  have lenV := hi.length
  have core : ∀ H : Hp, Only H → SqL K H a (ns.map V.int) → HOk P w H s₁.heap → (∀ b, H b ≠ none → b = a) → (H a ≠ none → K.lookup a = none) →
      codeAny (model P w) callerA (.call (.ref fa) ⟨[.ref a], []⟩) (fun r s' => r = .ok (.ret (.bool true)) ∧ OldK s₁.heap s'.heap ∧ s'.os = s₁.os ∧ AllBare s'.gens) s₁ := by
    intro H hO hS hok hA hK
    have base_of : ∀ {b : Addr} {o : Obj}, s₁.heap.get? b = some o → H b = none → (hidT s₁.heap H).get? b = some o := fun e n => hidT_get e n
    have hisA : ∀ {b : Addr} {u : HO}, H b = some u → b = a := fun {b u} q => hA b (by rw [q]; simp)
    have noA : ∀ {b : Addr} {o : Obj} {es : Array DictEntry} {ep : Nat}, s₁.heap.get? b = some o → o.data = .dict es ep → H b = none := fun {b o es ep} e d => by
      cases q : H b with
      | none => rfl
      | some u =>
        obtain rfl := hisA q
        rw [ha] at e; cases e
        exact nomatch (show Data.seq vs.toArray _ = Data.dict es ep from d)
    have nsK : ∀ {b : Addr} {m : Str → Option Value}, s₁.heap.Ns b m → (hidT s₁.heap H).Ns b m := fun {b m} ⟨o, es, ep, e, d, r⟩ => ⟨o, es, ep, base_of e (noA e d), d, r⟩
    have hKb : K.In (hidT s₁.heap H) := fun b o e => base_of (KX b o e) (by
      cases q : H b with
      | none => rfl
      | some u =>
        obtain rfl := hisA q
        rw [hK (by rw [q]; simp)] at e; cases e)
    have hM : Mod K mg (hidT s₁.heap H) := ⟨hKb, nsK hns, ⟨mb, nsK hb, hbb⟩, let ⟨mc, h1, h2⟩ := hlim; ⟨mc, nsK h1, h2⟩⟩
    have e0 : Env0 P w K mg (hidT s₁.heap H) callerA [] s₁ H := ⟨rfl, hM, fun b o e => of_hidT e, Nat.le_of_eq (hidT_size _ _), trivial, fun b hb => absurd (show b ∈ ([] : List Addr) from hb) (by simp), hok, .of_eq hg⟩
    refine codeAny_mono ((F _ hKb (nsK hns)).run callerA [] s₁ H ⟨[.ref a], []⟩ [.ref a] [.ref a] _ _ hr e0 (hbind s₁ (.ref a)) (.cons rfl .nil) (hsp H hO hS)) fun r s' h => ?_
    match r, h with
    | .error e, h => exact (hCX H e s' h).elim
    | .ok .next, h => exact False.elim h
    | .ok .brk, h => exact False.elim h
    | .ok .cont, h => exact False.elim h
    | .ok (.ret u), h =>
      obtain ⟨v, H', os, bare, un, hok', r', q⟩ := h
      obtain rfl : v = .bl true := q
      obtain rfl : u = Value.bool true := r'
      refine ⟨rfl, OldK.of_keep fun b o e => ?_, os, bare⟩
      cases q : H b with
      | none => exact un.keep b o e q (by intro z; exact absurd (show b ∈ ([] : List Addr) from z) (by simp)) (by simp)
      | some u =>
        rcases hO b with z | ⟨ob, xs, z⟩
        · rw [q] at z; cases z
        · obtain ⟨e1, _⟩ := hok b _ z
          obtain ⟨e2, _⟩ := hok' b _ (un.frzs b ob _ z)
          rw [e] at e1; cases e1
          exact e2
  cases hk : K.lookup a with
  | some o =>
    have e := KX a o hk
    rw [ha] at e
    cases e
    exact core (fun _ => none) (fun _ => .inl rfl) (.inr ⟨_, vs.toArray, _, hk, rfl, rfl, rfl, by rw [List.size_toArray, lenV]; exact hl, by simpa using rv⟩) (fun b u z => by cases (show (none : Option HO) = some u from z)) (fun b z => absurd rfl z) fun z => absurd rfl z
  | none =>
    refine core (fun b => if b = a then some (.frz { cls := .type "list", data := .seq vs.toArray } (.lst (ns.map V.int))) else none) (fun b => ?_) (.inl (.inr ⟨{ cls := .type "list", data := .seq vs.toArray }, if_pos rfl⟩)) (fun b u z => ?_) (fun b z => ?_) fun _ => hk
    · by_cases hb : b = a
      · exact .inr ⟨_, _, if_pos hb⟩
      · exact .inl (if_neg hb)
    · by_cases hb : b = a
      · cases (if_pos hb).symm.trans z
        subst hb
        exact ⟨ha, by rw [List.length_map]; exact hl, vs, _, rv, ha⟩
      · cases (if_neg hb).symm.trans z
    · by_cases hb : b = a
      · exact hb
      · exact absurd (if_neg hb) z
theorem walk_ofG {l : PySem.W.OpenLaw} {n k : Nat} {q : Program} {loose : List Str} {XP : (Str → Option Value) → Heap → Prop} {YP : World → Heap → Prop} {d : DefRec} {K : Params → PySem.W.Frag} {CX : World → CXT} {sp : World → Sp} {x : Str}
    (hn : l.most = some n) (hn2 : n ≤ sizeLine) (hdf : d.params.defaults = []) (hr : RoomG k callerA)
    (hY : ∀ (w : World) (h : Heap), YP w h → (K w.params).In h)
    (F : ∀ (w : World) (mg : Str → Option Value) (fa : Addr) (h : Heap), (K w.params).In h → h.Ns mainGlobals mg → mg d.name = some (.ref fa) →
      ∃ fd : FuncData, (∀ (s : Shared) (u : Value), BindsTo s fd ⟨[u], []⟩ [(x, u)]) ∧
        ∀ base : Heap, (K w.params).In base → base.Ns mainGlobals mg → FnG l.prog w (K w.params) mg base (CX w) k fa fd [x] (sp w))
    (hsp : ∀ (w : World) (H : Hp) (a : Addr) (ns : List Int), ns.length ≤ n → (∀ z ∈ ns, Builtin.Int.intBits z ≤ 1048576) → Only H → SqL (K w.params) H a (ns.map V.int) → sp w [.ref a] H (fun v _ => v = .bl true) fun _ _ _ => False)
    (hCX : ∀ (w : World) (H : Hp) (s : Shared) (e : Value) (s' : Shared), CX w [] H s (fun _ _ _ => False) e s' → False) :
    PySem.W.WalkO q loose XP YP l.row.toRowW d [] (fun f vs => PySem.call f vs) := by
  refine Att.attach_callB hn hdf fun w s₀ s₁ mg mb fa o pm cd doc a vs ns G Y ho hd hcd hmg hobj hints hlen hbits hg => ?_
  have KX := hY w _ Y
  obtain ⟨fd, hb, hF⟩ := F w mg fa _ KX G.T.g hmg
  exact law_callG KX G.T.g G.T.b G.T.builtins G.T.nolimit hg hobj hints (Nat.le_trans hlen hn2) hr hF hb (fun H hO hS => hsp w H a ns hlen hbits hO hS) fun H e s' => hCX w H s₁ e s'
end L2
namespace Z
/-- a lambda handed in: its address, its code's, the objects at its making, its name -/
abbrev LamT := Nat × Nat × List Nat × String
inductive D where
  | non | bl (b : Bool) | int (i : Int) | str (s : List Nat) | tup (xs : List D) | ref (n : Nat) | fl (xs : List D) | raw (t : LamT)
inductive MO where
  | lst (xs : List D) | dct (kvs : List (List D × D)) | st (kvs : List (List D × D)) | ins (c : String) (fs : List (String × D)) | exn (c : String) | dk (kvs : List (D × D)) | dkl (kvs : List (D × D)) | nk (kvs : List (D × D)) | nkl (kvs : List (D × D)) | tab (nm : String)
abbrev Store := List MO
inductive Res (α : Type) where
  | ok (a : α) (S : Store) | ex (c : String) (S : Store)
abbrev M (α : Type) := Option (Res α)
abbrev Env := List (Option D)
inductive Out where
  | nx (ρ : Env) (S : Store) | rt (d : D) (S : Store) | bk (ρ : Env) (S : Store) | ct (ρ : Env) (S : Store) | ex (c : String) (ρ : Env) (S : Store)
def k0 : D → Bool
  | .int _ => true
  | .str _ => true
  | _ => false
/-- a tuple of flat items, of one at least: it is free -/
def fK : List D → Bool
  | [] => false
  | x :: r => (x :: r).all k0
@[simp] theorem fK_nil : fK [] = false := rfl
@[simp] theorem fK_cons (x : D) (r : List D) : fK (x :: r) = (x :: r).all k0 := rfl
theorem fK_all : ∀ {xs : List D}, fK xs = true → xs.all k0 = true
  | [], h => by cases h
  | _ :: _, h => h
/-- the most that a list or a text holds -/
@[irreducible] def LINE : Nat := 16777216
theorem LINE_eq : LINE = 16777216 := by unfold LINE; rfl
def bd {α β : Type} : M α → (α → Store → M β) → M β
  | none, _ => none
  | some (.ok a S), f => f a S
  | some (.ex c S), _ => some (.ex c S)
@[simp] theorem bd_ok {α β : Type} (a : α) (S : Store) (f : α → Store → M β) : bd (some (.ok a S)) f = f a S := rfl
@[simp] theorem bd_no {α β : Type} (f : α → Store → M β) : bd none f = none := rfl
@[simp] theorem bd_ex {α β : Type} (c : String) (S : Store) (f : α → Store → M β) : bd (some (.ex c S)) f = some (.ex c S) := rfl
/-- what raises is not told -/
def bq {α β : Type} : M α → (α → Store → M β) → M β
  | some (.ok a S), f => f a S
  | _, _ => none
@[simp] theorem bq_ok {α β : Type} (a : α) (S : Store) (f : α → Store → M β) : bq (some (.ok a S)) f = f a S := rfl
@[simp] theorem bq_no {α β : Type} (f : α → Store → M β) : bq none f = none := rfl
@[simp] theorem bq_ex {α β : Type} (c : String) (S : Store) (f : α → Store → M β) : bq (some (.ex c S)) f = none := rfl
def bo {α : Type} : M α → Env → (α → Store → Option Out) → Option Out
  | none, _, _ => none
  | some (.ok a S), _, f => f a S
  | some (.ex c S), ρ, _ => some (.ex c ρ S)
@[simp] theorem bo_ok {α : Type} (a : α) (S : Store) (ρ : Env) (f : α → Store → Option Out) : bo (some (.ok a S)) ρ f = f a S := rfl
@[simp] theorem bo_no {α : Type} (ρ : Env) (f : α → Store → Option Out) : bo none ρ f = none := rfl
@[simp] theorem bo_ex {α : Type} (c : String) (S : Store) (ρ : Env) (f : α → Store → Option Out) : bo (some (.ex c S)) ρ f = some (.ex c ρ S) := rfl
abbrev SE := Env → Store → M D
abbrev ST := Env → Store → M Bool
abbrev SS := Env → Store → Option Out
abbrev Fn := List D → Store → M D
def new1 (o : MO) (S : Store) : M D := some (.ok (.ref S.length) (S ++ [o]))
def eVar (i : Nat) : SE := fun ρ S => match ρ[i]? with | some (some d) => some (.ok d S) | _ => none
def eC (d : D) : SE := fun _ S => some (.ok d S)
def e1 (f : D → Store → M D) (a : SE) : SE := fun ρ S => bd (a ρ S) f
def e2 (f : D → D → Store → M D) (a b : SE) : SE := fun ρ S => bd (a ρ S) fun x S1 => bd (b ρ S1) fun y S2 => f x y S2
def evL : List SE → Env → Store → M (List D)
  | [], _, S => some (.ok [] S)
  | a :: r, ρ, S => bd (a ρ S) fun x S1 => bd (evL r ρ S1) fun xs S2 => some (.ok (x :: xs) S2)
def eTup (es : List SE) : SE := fun ρ S => bd (evL es ρ S) fun xs S1 => some (.ok (.tup xs) S1)
def eLst (es : List SE) : SE := fun ρ S => bd (evL es ρ S) fun xs S1 => new1 (.lst xs) S1
def eCall (F : Fn) (es : List SE) : SE := fun ρ S => bd (evL es ρ S) F
def eAnd (a b : SE) : SE := fun ρ S => bd (a ρ S) fun x S1 => match x with | .bl true => b ρ S1 | .bl false => some (.ok (.bl false) S1) | _ => none
def eOr (a b : SE) : SE := fun ρ S => bd (a ρ S) fun x S1 => match x with | .bl false => b ρ S1 | .bl true => some (.ok (.bl true) S1) | _ => none
def eNot (a : SE) : SE := fun ρ S => bd (a ρ S) fun x S1 => match x with | .bl b => some (.ok (.bl !b) S1) | _ => none
/-- a op b op' c -/
def eCh (f g : D → D → Store → M D) (a b c : SE) : SE := fun ρ S => bd (a ρ S) fun x S1 => bd (b ρ S1) fun y S2 => bd (f x y S2) fun z S3 =>
  match z with | .bl true => bd (c ρ S3) fun w S4 => g y w S4 | .bl false => some (.ok (.bl false) S3) | _ => none
def tVal (e : SE) : ST := fun ρ S => bd (e ρ S) fun x S1 => match x with | .bl b => some (.ok b S1) | _ => none
def tAnd (a b : ST) : ST := fun ρ S => bd (a ρ S) fun x S1 => if x = true then b ρ S1 else some (.ok false S1)
def tOr (a b : ST) : ST := fun ρ S => bd (a ρ S) fun x S1 => if x = true then some (.ok true S1) else b ρ S1
def tNot (a : ST) : ST := fun ρ S => bd (a ρ S) fun x S1 => some (.ok (!x) S1)
def eIf (t : ST) (a b : SE) : SE := fun ρ S => bd (t ρ S) fun x S1 => if x = true then a ρ S1 else b ρ S1
structure Itm where
  xs : List D
  chk : Store → Prop
abbrev SI := Env → Store → M Itm
abbrev SG := D → Env → Store → Option (Env × Store)
def gName (i : Nat) : SG := fun d ρ S => some (ρ.set i (some d), S)
def gAll : List SG → List D → Env → Store → Option (Env × Store)
  | [], [], ρ, S => some (ρ, S)
  | g :: gs, d :: ds, ρ, S => match g d ρ S with | some (ρ1, S1) => gAll gs ds ρ1 S1 | none => none
  | _, _, _, _ => none
def gTup (gs : List SG) : SG := fun d ρ S => match d with | .tup ds => gAll gs ds ρ S | _ => none
open Classical in
/-- a comprehension: the items made so far stand in the new list at l -/
noncomputable def lcL (chk : Store → Prop) (g : SG) (t : ST) (e : SE) (l : Nat) : List D → Env → Store → M D
  | [], _, S => if chk S then some (.ok (.ref l) S) else none
  | x :: r, ρ, S => if chk S then (match g x ρ S with
      | none => none
      | some (ρ1, S1) => bq (t ρ1 S1) fun b S2 => if b = true then bq (e ρ1 S2) fun y S3 => (match S3[l]? with
            | some (.lst acc) => if acc.length < LINE then lcL chk g t e l r ρ (S3.set l (.lst (acc ++ [y]))) else none
            | _ => none)
          else lcL chk g t e l r ρ S2)
    else none
def wipe (ρ : Env) : List Nat → Env
  | [] => ρ
  | v :: vs => (wipe ρ vs).set v none
noncomputable def eLc (it : SI) (g : SG) (t : ST) (e : SE) (own : List Nat) : SE := fun ρ S => bd (it ρ S) fun J S1 => lcL J.chk g t e S1.length J.xs (wipe ρ own) (S1 ++ [.lst []])
def tYes : ST := fun _ S => some (.ok true S)
def sq (a b : SS) : SS := fun ρ S => match a ρ S with | some (.nx ρ1 S1) => b ρ1 S1 | o => o
def sNx : SS := fun ρ S => some (.nx ρ S)
def sCt : SS := fun ρ S => some (.ct ρ S)
def sExp (e : SE) : SS := fun ρ S => bo (e ρ S) ρ fun _ S1 => some (.nx ρ S1)
def sRet (e : SE) : SS := fun ρ S => bo (e ρ S) ρ fun d S1 => some (.rt d S1)
def sIf (t : ST) (a b : SS) : SS := fun ρ S => bo (t ρ S) ρ fun x S1 => if x = true then a ρ S1 else b ρ S1
def sAsg (e : SE) (g : SG) : SS := fun ρ S => bo (e ρ S) ρ fun d S1 => match g d ρ S1 with | some (ρ2, S2) => some (.nx ρ2 S2) | none => none
def sAug (i : Nat) (f : D → D → Store → M D) (e : SE) : SS := fun ρ S => bo (e2 f (eVar i) e ρ S) ρ fun d S1 => some (.nx (ρ.set i (some d)) S1)
open Classical in
noncomputable def forL (chk : Store → Prop) (g : SG) (b : SS) : List D → SS
  | [], ρ, S => if chk S then some (.nx ρ S) else none
  | x :: r, ρ, S => if chk S then (match g x ρ S with
      | none => none
      | some (ρ1, S1) => match b ρ1 S1 with
        | some (.nx ρ2 S2) => forL chk g b r ρ2 S2
        | some (.ct ρ2 S2) => forL chk g b r ρ2 S2
        | some (.bk ρ2 S2) => some (.nx ρ2 S2)
        | o => o)
    else none
noncomputable def sFor (it : SI) (g : SG) (b : SS) : SS := fun ρ S => bo (it ρ S) ρ fun J S1 => forL J.chk g b J.xs ρ S1
def sWh (t : ST) (b : SS) (ρ : Env) (S : Store) : Option Out :=
  match t ρ S with
  | none => none
  | some (.ex c S1) => some (.ex c ρ S1)
  | some (.ok false S1) => some (.nx ρ S1)
  | some (.ok true S1) => match b ρ S1 with
    | some (.nx ρ2 S2) => sWh t b ρ2 S2
    | some (.ct ρ2 S2) => sWh t b ρ2 S2
    | some (.bk ρ2 S2) => some (.nx ρ2 S2)
    | some (.rt d S2) => some (.rt d S2)
    | some (.ex c ρ2 S2) => some (.ex c ρ2 S2)
    | none => none
partial_fixpoint
def sRaise (c : String) : SS := fun ρ S => some (.ex c ρ S)
/-- the parameters' values, then the other names -/
def env0 (n : Nat) (ds : List D) : Env := ds.map some ++ List.replicate (n - ds.length) none
end Z
namespace Z
inductive PD where
  | non | bl (b : Bool) | int (i : Int) | str (s : List Nat) | lst (xs : List PD) | tup (xs : List PD)
def b2i (b : Bool) : Int := if b then 1 else 0
mutual
def PD.eqv : PD → PD → Bool
  | .non, .non => true
  | .bl a, .bl b => a == b
  | .bl a, .int j => b2i a == j
  | .int i, .bl b => i == b2i b
  | .int i, .int j => i == j
  | .str x, .str y => x == y
  | .lst xs, .lst ys => eqvL xs ys
  | .tup xs, .tup ys => eqvL xs ys
  | .non, .bl _ | .non, .int _ | .non, .str _ | .non, .lst _ | .non, .tup _ => false
  | .bl _, .non | .bl _, .str _ | .bl _, .lst _ | .bl _, .tup _ => false
  | .int _, .non | .int _, .str _ | .int _, .lst _ | .int _, .tup _ => false
  | .str _, .non | .str _, .bl _ | .str _, .int _ | .str _, .lst _ | .str _, .tup _ => false
  | .lst _, .non | .lst _, .bl _ | .lst _, .int _ | .lst _, .str _ | .lst _, .tup _ => false
  | .tup _, .non | .tup _, .bl _ | .tup _, .int _ | .tup _, .str _ | .tup _, .lst _ => false
def eqvL : List PD → List PD → Bool
  | [], [] => true
  | x :: xs, y :: ys => PD.eqv x y && eqvL xs ys
  | [], _ :: _ => false
  | _ :: _, [] => false
end
mutual
def PD.dep : PD → Nat
  | .lst xs => depL xs + 1
  | .tup xs => depL xs + 1
  | _ => 0
def depL : List PD → Nat
  | [] => 0
  | x :: xs => max (PD.dep x) (depL xs)
end
mutual
/-- the data of a value; g: of what stands at a number -/
def D.pd (g : Nat → Option PD) : D → Option PD
  | .non => some .non
  | .bl b => some (.bl b)
  | .int i => some (.int i)
  | .str s => some (.str s)
  | .tup xs => (pdL g xs).map .tup
  | .fl xs => (pdL g xs).map .lst
  | .ref n => g n
  | .raw _ => none
def pdL (g : Nat → Option PD) : List D → Option (List PD)
  | [] => some []
  | x :: xs => match D.pd g x, pdL g xs with
    | some y, some ys => some (y :: ys)
    | _, _ => none
end
def rdR : Nat → Store → Nat → Option PD
  | 0, _, _ => none
  | n + 1, S, r => match S[r]? with
    | some (.lst xs) => (pdL (rdR n S) xs).map .lst
    | _ => none
def dat (S : Store) (d : D) : Option PD := d.pd (rdR 70 S)
def eqD (d e : D) (S : Store) : M D := match dat S d, dat S e with
  | some x, some y => if x.dep ≤ 64 ∧ y.dep ≤ 64 then some (.ok (.bl (x.eqv y)) S) else none
  | _, _ => none
/-- two lists of unlike lengths -/
def neL (d e : D) (S : Store) : M D := match d, e with
  | .ref n, .ref m => (match S[n]?, S[m]? with
    | some (.lst xs), some (.lst ys) => if xs.length = ys.length then none else some (.ok (.bl true) S)
    | _, _ => none)
  | _, _ => none
def neD (d e : D) (S : Store) : M D := match dat S d, dat S e with
  | some x, some y => if x.dep ≤ 64 ∧ y.dep ≤ 64 then some (.ok (.bl (!x.eqv y)) S) else neL d e S
  | _, _ => none
def addD : D → D → Store → M D
  | .int i, .int j, S => some (.ok (.int (i + j)) S)
  | .str a, .str b, S => if a.length + b.length ≤ LINE then some (.ok (.str (a ++ b)) S) else none
  | .tup a, .tup b, S => if a.length + b.length ≤ LINE then some (.ok (.tup (a ++ b)) S) else none
  | .ref m, .ref n, S => match S[m]?, S[n]? with
    | some (.lst a), some (.lst b) => if a.length + b.length ≤ LINE then new1 (.lst (a ++ b)) S else none
    | _, _ => none
  | _, _, _ => none
/-- += -/
def iaddD : D → D → Store → M D
  | .int i, .int j, S => some (.ok (.int (i + j)) S)
  | _, _, _ => none
def subD : D → D → Store → M D
  | .int i, .int j, S => some (.ok (.int (i - j)) S)
  | _, _, _ => none
@[irreducible] def small (i : Int) : Prop := -18446744073709551616 < i ∧ i < 18446744073709551616
theorem small_iff (i : Int) : small i ↔ -18446744073709551616 < i ∧ i < 18446744073709551616 := by unfold small; exact Iff.rfl
noncomputable instance (i : Int) : Decidable (small i) := Classical.propDecidable _
noncomputable def mulD : D → D → Store → M D
  | .int i, .int j, S => if (small i ∨ small j) ∨ i.natAbs.log2 + j.natAbs.log2 < 1000000 then some (.ok (.int (i * j)) S) else none
  | .ref m, .int k, S => match S[m]? with
    | some (.lst a) => if -9223372036854775808 ≤ k ∧ k < 9223372036854775808 ∧ a.length * k.toNat ≤ LINE then new1 (.lst (List.replicate k.toNat a).flatten) S else none
    | _ => none
  | .tup a, .int k, S => if 0 < a.length ∧ a.length ≤ 1000 ∧ 2 ≤ k ∧ k ≤ 1000 then some (.ok (.tup (List.replicate k.toNat a).flatten) S) else none
  | _, _, _ => none
def fdivD : D → D → Store → M D
  | .int i, .int j, S => if 0 < j ∧ j.natAbs.log2 < 9000 then some (.ok (.int (i / j)) S) else none
  | _, _, _ => none
def modD : D → D → Store → M D
  | .int i, .int j, S => if 0 < j then some (.ok (.int (i % j)) S) else none
  | _, _, _ => none
noncomputable def powD : D → D → Store → M D
  | .int i, .int j, S => if 0 ≤ j ∧ j ≤ 1000000 ∧ small i then some (.ok (.int (i ^ j.toNat)) S) else none
  | _, _, _ => none
def negD : D → Store → M D
  | .int i, S => some (.ok (.int (-i)) S)
  | _, _ => none
def ltD : D → D → Store → M D
  | .int i, .int j, S => some (.ok (.bl (decide (i < j))) S)
  | _, _, _ => none
def leD : D → D → Store → M D
  | .int i, .int j, S => some (.ok (.bl (decide (i ≤ j))) S)
  | _, _, _ => none
def gtD : D → D → Store → M D
  | .int i, .int j, S => some (.ok (.bl (decide (j < i))) S)
  | _, _, _ => none
def geD : D → D → Store → M D
  | .int i, .int j, S => some (.ok (.bl (decide (j ≤ i))) S)
  | _, _, _ => none
def isNonB : D → Bool
  | .non => true
  | _ => false
def isntD : D → D → Store → M D
  | x, .non, S => some (.ok (.bl (!isNonB x)) S)
  | .bl a, .bl b, S => some (.ok (.bl (!(a == b))) S)
  | _, _, _ => none
def ixN (n : Nat) (i : Int) : Option Nat := if 0 ≤ i then (if i < n then some i.toNat else none) else if -(n : Int) ≤ i then some (i + n).toNat else none
def atI {α : Type} (xs : List α) (i : Int) : Option α := (ixN xs.length i).bind fun j => xs[j]?
/-- the items of a sequence -/
def seqOf (S : Store) : D → Option (List D)
  | .tup xs => some xs
  | .fl xs => some xs
  | .ref n => match S[n]? with
    | some (.lst xs) => some xs
    | _ => none
  | _ => none
def ixD (d e : D) (S : Store) : M D := match e with
  | .int i => (match d with
    | .str s => if s.length ≤ LINE then (match atI s i with | some c => some (.ok (.str [c]) S) | none => none) else none
    | d => match seqOf S d with
      | some xs => (match atI xs i with | some x => some (.ok x S) | none => none)
      | none => none)
  | _ => none
def sIx (n d : Nat) : Option Int → Nat
  | none => d
  | some v => if v < 0 then (v + (n : Int)).toNat else min v.toNat n
def cut {α : Type} (xs : List α) (lo hi : Option Int) : List α := (xs.drop (sIx xs.length 0 lo)).take (sIx xs.length xs.length hi - sIx xs.length 0 lo)
def slD (lo hi : Option Int) (d : D) (S : Store) : M D := match d with
  | .str s => if s.length ≤ LINE then some (.ok (.str (cut s lo hi)) S) else none
  | .tup xs => some (.ok (.tup (cut xs lo hi)) S)
  | .ref n => (match S[n]? with
    | some (.lst xs) => new1 (.lst (cut xs lo hi)) S
    | _ => none)
  | _ => none
/-- d[lo:hi] -/
def eSl (a : SE) (lo hi : Option SE) : SE := fun ρ S => bd (a ρ S) fun d S1 =>
  bd (match lo with | none => some (.ok none S1) | some m => bd (m ρ S1) fun x S2 => match x with | .int i => some (.ok (some i) S2) | _ => none) fun l S3 =>
  bd (match hi with | none => some (.ok none S3) | some m => bd (m ρ S3) fun x S4 => match x with | .int i => some (.ok (some i) S4) | _ => none) fun h S5 => slD l h d S5
/-- x in c -/
def inB (x c : D) (S : Store) : Option Bool := match c with
  | .str z => (match x with | .str [k] => some (decide (k ∈ z)) | _ => none)
  | .ref n => (match dat S x, dat S (.ref n) with
    | some y, some (.lst ys) => if y.dep ≤ 64 ∧ (PD.lst ys).dep ≤ 64 then some (ys.any fun z => z.eqv y) else none
    | _, _ => none)
  | _ => none
def inD (x c : D) (S : Store) : M D := match inB x c S with | some b => some (.ok (.bl b) S) | none => none
def ninD (x c : D) (S : Store) : M D := match inB x c S with | some b => some (.ok (.bl (!b)) S) | none => none
def lenF : Fn := fun ds S => match ds with
  | [.str s] => if s.length ≤ LINE then some (.ok (.int s.length) S) else none
  | [d] => (match seqOf S d with | some xs => some (.ok (.int xs.length) S) | none => none)
  | _ => none
def absF : Fn := fun ds S => match ds with
  | [.int i] => some (.ok (.int (if i < 0 then -i else i)) S)
  | _ => none
def maxF : Fn := fun ds S => match ds with
  | [.int i, .int j] => some (.ok (.int (if j > i then j else i)) S)
  | _ => none
def minF : Fn := fun ds S => match ds with
  | [.int i, .int j] => some (.ok (.int (if j < i then j else i)) S)
  | _ => none
def listF : Fn := fun ds S => match ds with
  | [d] => (match seqOf S d with | some xs => new1 (.lst xs) S | none => none)
  | _ => none
def tupleF : Fn := fun ds S => match ds with
  | [d] => (match seqOf S d with | some xs => some (.ok (.tup xs) S) | none => none)
  | _ => none
inductive Ty where | str | int | bool | tuple | list
def isiB (S : Store) (t : Ty) : D → Option Bool
  | .non => some false
  | .bl _ => some (match t with | .int => true | .bool => true | _ => false)
  | .int _ => some (match t with | .int => true | _ => false)
  | .str _ => some (match t with | .str => true | _ => false)
  | .tup _ => some (match t with | .tuple => true | _ => false)
  | .fl _ => some (match t with | .list => true | _ => false)
  | .raw _ => none
  | .ref n => match S[n]? with
    | some (.lst _) => some (match t with | .list => true | _ => false)
    | _ => none
/-- isinstance(x, T) -/
def isiD (t : Ty) (d : D) (S : Store) : M D := match isiB S t d with | some b => some (.ok (.bl b) S) | none => none
def appendF : Fn := fun ds S => match ds with
  | [.ref n, x] => (match S[n]? with
    | some (.lst xs) => if xs.length < LINE then some (.ok .non (S.set n (.lst (xs ++ [x])))) else none
    | _ => none)
  | _ => none
def popF : Fn := fun ds S => match ds with
  | [.ref n] => (match S[n]? with
    | some (.lst xs) => (match xs[xs.length - 1]? with | some x => some (.ok x (S.set n (.lst xs.dropLast))) | none => none)
    | _ => none)
  | [.ref n, .int i] => (match S[n]? with
    | some (.lst xs) => (match ixN xs.length i with
      | some k => (match xs[k]? with | some x => some (.ok x (S.set n (.lst (xs.eraseIdx k)))) | none => none)
      | none => none)
    | _ => none)
  | _ => none
/-- o[i] = v -/
def setF (o i : SE) : SG := fun d ρ S => match bq (o ρ S) fun x S1 => bq (i ρ S1) fun y S2 => (match x, y with
    | .ref n, .int k => (match S2[n]? with
      | some (.lst xs) => (match ixN xs.length k with
        | some j => some (.ok () (S2.set n (.lst (xs.set j d))))
        | none => none)
      | _ => none)
    | _, _ => none) with
  | some (.ok _ S3) => some (ρ, S3)
  | _ => none
/-- a list, a tuple, a text -/
def itmOf (d : D) (S : Store) : M Itm := match d with
  | .ref n => (match S[n]? with
    | some (.lst xs) => some (.ok ⟨xs, fun S => S[n]? = some (.lst xs)⟩ S)
    | _ => none)
  | .tup xs => some (.ok ⟨xs, fun _ => True⟩ S)
  | .fl xs => some (.ok ⟨xs, fun _ => True⟩ S)
  | .str s => some (.ok ⟨s.map fun c => .str [c], fun _ => True⟩ S)
  | _ => none
def iAny (a : SE) : SI := fun ρ S => bd (a ρ S) itmOf
@[irreducible] def r62 (i : Int) : Prop := -4611686018427387904 ≤ i ∧ i < 4611686018427387904
theorem r62_iff (i : Int) : r62 i ↔ -4611686018427387904 ≤ i ∧ i < 4611686018427387904 := by unfold r62; exact Iff.rfl
noncomputable instance (i : Int) : Decidable (r62 i) := Classical.propDecidable _
/-- range(n) -/
noncomputable def iR1 (a : SE) : SI := fun ρ S => bd (a ρ S) fun d S1 => match d with
  | .int n => if r62 n then some (.ok ⟨(List.range n.toNat).map fun (k : Nat) => .int k, fun _ => True⟩ S1) else none
  | _ => none
end Z
namespace Z
inductive Rc where | list | str | dict
/-- the receiver of a method -/
def rcB (S : Store) (t : Rc) : D → Bool
  | .str _ => (match t with | .str => true | _ => false)
  | .ref n => (match S[n]?, t with | some (.lst _), .list => true | some (.st _), .dict => true | _, _ => false)
  | _ => false
/-- o.m(..), m a built-in type's -/
def eMt (t : Rc) (F : Fn) (o : SE) (es : List SE) : SE := fun ρ S => bd (o ρ S) fun d S1 => if rcB S1 t d = true then bd (evL es ρ S1) fun ds S2 => F (d :: ds) S2 else none
end Z
namespace L2
open PySem PySem.Spec PyProof.Rows
abbrev NEnt := NestedKey × Addr × Value
def NkO (P : Program) (w : World) (a : Addr) (xs : List NEnt) : Heap → Prop := fun h => (xs.length ≤ sizeLine ∧ (a == sysModules) = false) ∧ ∃ o es ep, h.get? a = some o ∧ o.ExactDict ∧ o.data = .dict es ep ∧ es.toList = xs.map (entryOfKey (nestedKind P w)) ∧ (xs.map (·.1)).Nodup
mutual
/-- the value is this key, by what is known -/
def NK (H : Hp) : NestedKey → V → Prop
  | .none, v => v = .non
  | .num i, v => v = .int i
  | .text x, v => v = .str x
  | .tup ks, v => ∃ a vs, v = .ref a ∧ Rd H a (.tup vs) ∧ NKL H ks vs
def NKL (H : Hp) : List NestedKey → List V → Prop
  | [], vs => vs = []
  | k :: ks, vs => ∃ v r, vs = v :: r ∧ NK H k v ∧ NKL H ks r
end
end L2
namespace Z
open PySem PySem.Spec PyProof.Rows L2
/-- the known part of the heap, and whose run it is -/
structure KW where
  K : PySem.W.Frag
  P : Program
  w : World
instance : CoeOut KW PySem.W.Frag := ⟨KW.K⟩
end Z
/-- a context's own -/
abbrev L2.Cx.KW (X : L2.Cx) : Z.KW := ⟨X.K, X.prog, X.w⟩
namespace Z
open PySem PySem.Spec PyProof.Rows L2
abbrev str (s : List Nat) : Str := ⟨s.toArray⟩
/-- a list that is never changed: the script -/
def FzL (K : PySem.W.Frag) (H : Hp) (a : Addr) (xs : List V) : Prop :=
  (∃ o, H a = some (.frz o (.lst xs))) ∨
    ∃ (o : Obj) (its : Array Value) (n : Nat), K.lookup a = some o ∧ o.cls = .type "list" ∧ o.dict = none ∧ o.data = .seq its n ∧ its.size ≤ sizeLine ∧ Vals xs its.toList
theorem FzL.seq {K : PySem.W.Frag} {H : Hp} {a : Addr} {xs : List V} (h : FzL K H a xs) : SqL K H a xs := by
  rcases h with h | h
  · exact .inl (.inr h)
  · exact .inr h
/-- a tuple: of flat items it is free (it may be a key), else it is held fast, and bears no dict -/
def TupAt (H : Hp) (a : Addr) (vs : List V) : Bool → Prop
  | true => H a = some (.tup vs)
  | false => ∃ o : Obj, o.dict = none ∧ H a = some (.frz o (.tup vs))
theorem TupAt.sq {K : PySem.W.Frag} {H : Hp} {a : Addr} {vs : List V} : ∀ {b : Bool}, TupAt H a vs b → SqT K H a vs
  | true, h => SqT.of h
  | false, ⟨o, _, h⟩ => .inl (.inr ⟨o, h⟩)
mutual
def Rep (K : KW) (ι : List Addr) (H : Hp) : D → V → Prop
  | .non, v => v = .non
  | .bl b, v => v = .bl b
  | .int i, v => v = .int i
  | .str s, v => v = .str (str s) ∧ ∀ c ∈ s, c < 128
  | .tup xs, v => ∃ a vs, v = .ref a ∧ TupAt H a vs (fK xs) ∧ RepL K ι H xs vs
  | .ref n, v => ∃ a, v = .ref a ∧ ι[n]? = some a
  | .fl xs, v => ∃ a vs, v = .ref a ∧ FzL K H a vs ∧ RepL K ι H xs vs
  | .raw t, v => v = .ref t.1 ∧ (∃ u, ι = t.2.2.1 ++ u) ∧ H t.2.1 = some (LamX.CodeO t.2.1 (Str.ofString t.2.2.2))
def RepL (K : KW) (ι : List Addr) (H : Hp) : List D → List V → Prop
  | [], vs => vs = []
  | x :: xs, vs => ∃ v r, vs = v :: r ∧ Rep K ι H x v ∧ RepL K ι H xs r
end
section
variable {K : KW} {ι ι' ι'' : List Addr} {H H' H'' : Hp}
/-- what stays: the numbers' addresses, the tuples, what is locked -/
structure Ext (ι : List Addr) (H : Hp) (ι' : List Addr) (H' : Hp) : Prop where
  pre : ∃ t, ι' = ι ++ t
  tup : ∀ a xs, H a = some (.tup xs) → H' a = some (.tup xs)
  frz : ∀ a o u, H a = some (.frz o u) → H' a = some (.frz o u)
  cod : ∀ a q, H a = some (LamX.CodeO a q) → H' a = some (LamX.CodeO a q)
theorem Ext.refl : Ext ι H ι H := ⟨⟨[], by simp⟩, fun _ _ h => h, fun _ _ _ h => h, fun _ _ h => h⟩
theorem Ext.trans (a : Ext ι H ι' H') (b : Ext ι' H' ι'' H'') : Ext ι H ι'' H'' :=
  ⟨by obtain ⟨t, rfl⟩ := a.pre; obtain ⟨u, rfl⟩ := b.pre; exact ⟨t ++ u, by simp⟩, fun _ _ h => b.tup _ _ (a.tup _ _ h), fun _ _ _ h => b.frz _ _ _ (a.frz _ _ _ h), fun _ _ h => b.cod _ _ (a.cod _ _ h)⟩
theorem Ext.at (e : Ext ι H ι' H') {n : Nat} {a : Addr} (h : ι[n]? = some a) : ι'[n]? = some a := by
  obtain ⟨t, rfl⟩ := e.pre
  rw [List.getElem?_append_left (List.getElem?_eq_some_iff.mp h).1]
  exact h
theorem Ext.tupAt (e : Ext ι H ι' H') {a : Addr} {xs : List V} : ∀ {b : Bool}, TupAt H a xs b → TupAt H' a xs b
  | true, h => e.tup _ _ h
  | false, ⟨o, h1, h2⟩ => ⟨o, h1, e.frz _ _ _ h2⟩
theorem Ext.sqT (e : Ext ι H ι' H') {a : Addr} {xs : List V} (h : SqT K H a xs) : SqT K H' a xs := by
  rcases h with (h | ⟨o, h⟩) | h
  · exact .inl (.inl (e.tup _ _ h))
  · exact .inl (.inr ⟨o, e.frz _ _ _ h⟩)
  · exact .inr h
theorem Ext.fzL (e : Ext ι H ι' H') {a : Addr} {xs : List V} (h : FzL K H a xs) : FzL K H' a xs := by
  rcases h with ⟨o, h⟩ | h
  · exact .inl ⟨o, e.frz _ _ _ h⟩
  · exact .inr h
mutual
theorem Rep.ext (e : Ext ι H ι' H') : ∀ (d : D) (v : V), Rep K ι H d v → Rep K ι' H' d v
  | .non, _, h => h
  | .bl _, _, h => h
  | .int _, _, h => h
  | .str _, _, h => h
  | .tup xs, _, h => by
    rw [Rep] at h ⊢
    obtain ⟨a, vs, e1, h1, h2⟩ := h
    exact ⟨a, vs, e1, e.tupAt h1, RepL.ext e xs vs h2⟩
  | .ref n, _, h => by
    rw [Rep] at h ⊢
    obtain ⟨a, e1, h1⟩ := h
    exact ⟨a, e1, e.at h1⟩
  | .fl xs, _, h => by
    rw [Rep] at h ⊢
    obtain ⟨a, vs, e1, h1, h2⟩ := h
    exact ⟨a, vs, e1, e.fzL h1, RepL.ext e xs vs h2⟩
  | .raw t, _, h => by
    rw [Rep] at h ⊢
    obtain ⟨e1, ⟨u, e2⟩, e3⟩ := h
    obtain ⟨u2, e4⟩ := e.pre
    exact ⟨e1, ⟨u ++ u2, by rw [e4, e2, List.append_assoc]⟩, e.cod _ _ e3⟩
theorem RepL.ext (e : Ext ι H ι' H') : ∀ (ds : List D) (vs : List V), RepL K ι H ds vs → RepL K ι' H' ds vs
  | [], _, h => h
  | x :: xs, _, h => by
    rw [RepL] at h ⊢
    obtain ⟨v, r, e1, h1, h2⟩ := h
    exact ⟨v, r, e1, Rep.ext e x v h1, RepL.ext e xs r h2⟩
end
theorem RepL.length : ∀ {ds : List D} {vs : List V}, RepL K ι H ds vs → vs.length = ds.length
  | [], _, h => by rw [RepL] at h; subst h; rfl
  | x :: xs, _, h => by
    rw [RepL] at h
    obtain ⟨v, r, rfl, _, h2⟩ := h
    simp [RepL.length h2]
theorem RepL.get : ∀ {ds : List D} {vs : List V} {i : Nat} {d : D}, RepL K ι H ds vs → ds[i]? = some d → ∃ v, vs[i]? = some v ∧ Rep K ι H d v
  | [], _, _, _, _, e => by simp at e
  | x :: xs, _, 0, d, h, e => by
    rw [RepL] at h
    obtain ⟨v, r, rfl, h1, _⟩ := h
    simp at e; subst e
    exact ⟨v, rfl, h1⟩
  | x :: xs, _, i + 1, d, h, e => by
    rw [RepL] at h
    obtain ⟨v, r, rfl, _, h2⟩ := h
    obtain ⟨u, a, b⟩ := RepL.get (i := i) h2 (by simpa using e)
    exact ⟨u, by simpa using a, b⟩
theorem RepL.append : ∀ {xs ys : List D} {vs ws : List V}, RepL K ι H xs vs → RepL K ι H ys ws → RepL K ι H (xs ++ ys) (vs ++ ws)
  | [], _, _, _, h, g => by rw [RepL] at h; subst h; simpa using g
  | x :: xs, _, _, _, h, g => by
    rw [RepL] at h
    obtain ⟨v, r, rfl, h1, h2⟩ := h
    rw [List.cons_append, RepL]
    exact ⟨v, _, rfl, h1, RepL.append h2 g⟩
theorem RepL.of_get : ∀ {ds : List D} {vs : List V}, vs.length = ds.length → (∀ (i : Nat) (d : D) (v : V), ds[i]? = some d → vs[i]? = some v → Rep K ι H d v) → RepL K ι H ds vs
  | [], vs, hl, _ => by rw [RepL]; exact List.eq_nil_of_length_eq_zero hl
  | x :: xs, [], hl, _ => by simp at hl
  | x :: xs, v :: r, hl, h => by
    rw [RepL]
    exact ⟨v, r, rfl, h 0 x v rfl rfl, RepL.of_get (by simpa using hl) fun i d u a b => h (i + 1) d u (by simpa using a) (by simpa using b)⟩
theorem RepL.one {d : D} {v : V} (h : Rep K ι H d v) : RepL K ι H [d] [v] := by rw [RepL]; exact ⟨v, [], rfl, h, by rw [RepL]⟩
/-- keys of dicts: ints and texts, tuples of them -/
def keyD : D → Option Key
  | .int i => some (.inl i)
  | .str s => some (.inr (str s))
  | _ => none
def keysD : List D → Option (List Key)
  | [] => some []
  | x :: r => match keyD x, keysD r with
    | some k, some ks => some (k :: ks)
    | _, _ => none
/-- a dict's entries -/
def KsR {α κ : Type} (key : α → Option κ) (K : KW) (ι : List Addr) (H : Hp) : List (α × D) → List (κ × V) → Prop
  | [], ks => ks = []
  | p :: r, ks => ∃ k v t, ks = (k, v) :: t ∧ key p.1 = some k ∧ Rep K ι H p.2 v ∧ KsR key K ι H r t
theorem KsR.ext {α κ : Type} {key : α → Option κ} (e : Ext ι H ι' H') : ∀ (kvs : List (α × D)) (ks : List (κ × V)), KsR key K ι H kvs ks → KsR key K ι' H' kvs ks
  | [], ks, h => h
  | p :: r, ks, h => by
    rw [KsR] at h ⊢
    obtain ⟨k, v, t, e1, e2, e3, e4⟩ := h
    exact ⟨k, v, t, e1, e2, Rep.ext e _ _ e3, KsR.ext e r t e4⟩
theorem KsR.length {α κ : Type} {key : α → Option κ} : ∀ {kvs : List (α × D)} {ks : List (κ × V)}, KsR key K ι H kvs ks → ks.length = kvs.length
  | [], ks, h => by rw [KsR] at h; rw [h]; rfl
  | p :: r, ks, h => by
    rw [KsR] at h
    obtain ⟨k, v, t, rfl, _, _, e4⟩ := h
    rw [List.length_cons, List.length_cons, KsR.length e4]
mutual
def nkD : D → Option NestedKey
  | .non => some .none
  | .int i => some (.num i)
  | .str s => some (.text (str s))
  | .tup xs => (nkL xs).map .tup
  | .bl _ => none
  | .ref _ => none
  | .fl _ => none
  | .raw _ => none
def nkL : List D → Option (List NestedKey)
  | [] => some []
  | x :: r => match nkD x, nkL r with
    | some k, some ks => some (k :: ks)
    | _, _ => none
end
/-- a dict's entries, the keys nested -/
def NkR (K : KW) (ι : List Addr) (H : Hp) : List (D × D) → List NEnt → Prop
  | [], xs => xs = []
  | p :: r, xs => ∃ k b u v t, xs = (k, b, u) :: t ∧ nkD p.1 = some k ∧ k.depth ≤ 8 ∧ Rep K ι H p.1 (.ref b) ∧ Rep K ι H p.2 v ∧ RelV v u ∧ NkR K ι H r t
theorem NkR.ext (e : Ext ι H ι' H') : ∀ (kvs : List (D × D)) (xs : List NEnt), NkR K ι H kvs xs → NkR K ι' H' kvs xs
  | [], xs, h => h
  | p :: r, xs, h => by
    rw [NkR] at h ⊢
    obtain ⟨k, b, u, v, t, e1, e2, e3, e4, e5, e6, e7⟩ := h
    exact ⟨k, b, u, v, t, e1, e2, e3, Rep.ext e _ _ e4, Rep.ext e _ _ e5, e6, NkR.ext e r t e7⟩
theorem NkR.length : ∀ {kvs : List (D × D)} {xs : List NEnt}, NkR K ι H kvs xs → xs.length = kvs.length
  | [], xs, h => by rw [NkR] at h; rw [h]; rfl
  | p :: r, xs, h => by
    rw [NkR] at h
    obtain ⟨k, b, u, v, t, rfl, _, _, _, _, _, e7⟩ := h
    rw [List.length_cons, List.length_cons, NkR.length e7]
/-- an exception of a class, no longer in the air -/
def ExK (cls : Value) (a : Addr) : HO := .ext fun h => ∃ oe : Obj, h.get? a = some oe ∧ oe.cls = cls ∧ oe.dict = none ∧ ∃ vs, oe.data = .fields vs
/-- names of fields -/
def keyF (s : String) : Option Str := some (Str.ofString s)
def ObjR (K : KW) (ι : List Addr) (H : Hp) (a : Addr) : MO → Prop
  | .lst xs => ∃ vs, H a = some (.lst vs) ∧ RepL K ι H xs vs
  | .dct kvs => ∃ o ks, H a = some (.frz o (.dT ks)) ∧ KsR keysD K ι H kvs ks
  | .st kvs => ∃ ks, H a = some (.dT ks) ∧ KsR keysD K ι H kvs ks
  | .dk kvs => ∃ ks, H a = some (.dK ks) ∧ KsR keyD K ι H kvs ks
  | .dkl kvs => ∃ o ks, H a = some (.frz o (.dK ks)) ∧ KsR keyD K ι H kvs ks
  | .nk kvs => ∃ xs, H a = some (.ext (NkO K.P K.w a xs)) ∧ NkR K ι H kvs xs
  | .nkl kvs => ∃ o xs, H a = some (.frz o (.ext (NkO K.P K.w a xs))) ∧ NkR K ι H kvs xs
  | .ins c fs => ∃ C dx fvs, PySem.W.nsIn K mainGlobals (Str.ofString c) = some (some (.ref C)) ∧ H a = some (.ins C dx fvs) ∧ KsR keyF K ι H fs fvs
  | .exn c => ∃ C, PySem.W.nsIn K mainGlobals (Str.ofString c) = some (some (.ref C)) ∧ H a = some (ExK (.ref C) a)
  | .tab nm => ∃ c, PySem.W.tabIn K (Str.ofString nm) = some (c, a) ∧ LamX.TabS H a (Str.ofString (nm ++ ".<locals>.<lambda>"))
structure Sim (K : KW) (ι : List Addr) (S : Store) (H : Hp) : Prop where
  len : ι.length = S.length
  nd : ι.Nodup
  obj : ∀ (i : Nat) (o : MO) (a : Addr), S[i]? = some o → ι[i]? = some a → ObjR K ι H a o
theorem Sim.get {S : Store} (s : Sim K ι S H) {n : Nat} {o : MO} {a : Addr} (h : ι[n]? = some a) (g : S[n]? = some o) : ObjR K ι H a o := s.obj n o a g h
/-- an object of the store is there, and no tuple, and not locked -/
def Mob (o : HO) : Prop := match o with | .tup _ => False | .frz _ _ => False | .ext p => ∀ a q, HO.ext p ≠ LamX.CodeO a q | _ => True
theorem Mob.codN {o : HO} (h : Mob o) : ∀ a q, o ≠ LamX.CodeO a q := by
  intro a q e
  subst e
  exact h a q rfl
theorem ObjR.there {a : Addr} {o : MO} (h : ObjR K ι H a o) : ∃ u, H a = some u := by
  cases o with
  | lst xs => obtain ⟨vs, e, _⟩ := h; exact ⟨_, e⟩
  | dct _ => obtain ⟨_, ks, e, _⟩ := h; exact ⟨_, e⟩
  | st _ => obtain ⟨ks, e, _⟩ := h; exact ⟨_, e⟩
  | dk _ => obtain ⟨ks, e, _⟩ := h; exact ⟨_, e⟩
  | dkl _ => obtain ⟨_, ks, e, _⟩ := h; exact ⟨_, e⟩
  | nk _ => obtain ⟨ks, e, _⟩ := h; exact ⟨_, e⟩
  | nkl _ => obtain ⟨_, ks, e, _⟩ := h; exact ⟨_, e⟩
  | ins _ _ => obtain ⟨C, dx, fvs, _, e, _⟩ := h; exact ⟨_, e⟩
  | exn _ => obtain ⟨C, _, e⟩ := h; exact ⟨_, e⟩
  | tab _ => obtain ⟨c, _, ps, e, _⟩ := h; exact ⟨_, e⟩
theorem ext_new {p : Addr} {o : HO} {t : List Addr} (hp : H p = none) : Ext ι H (ι ++ t) (upd H p o) :=
  ⟨⟨t, rfl⟩, fun a xs h => by rw [upd_ne (ne_of_none h hp)]; exact h, fun a q u h => by rw [upd_ne (ne_of_none h hp)]; exact h, fun a q h => by rw [upd_ne (ne_of_none h hp)]; exact h⟩
theorem ext_tup {p : Addr} {o : HO} (hp : H p = none) : Ext ι H ι (upd H p o) := by simpa using ext_new (ι := ι) (t := []) (o := o) hp
theorem ext_mut {p : Addr} {o u : HO} (hp : H p = some u) (hm : Mob u) : Ext ι H ι (upd H p o) :=
  ⟨⟨[], by simp⟩, fun a xs h => by rw [upd_ne (ne_of h hp (by rintro rfl; exact hm))]; exact h, fun a q x h => by rw [upd_ne (ne_of h hp (by rintro rfl; exact hm))]; exact h, fun a q h => by rw [upd_ne (ne_of h hp (fun e => hm.codN a q e.symm))]; exact h⟩
theorem ObjR.move {a : Addr} {o : MO} (h : ObjR K ι H a o) (e : Ext ι H ι' H') (k : H' a = H a) : ObjR K ι' H' a o := by
  cases o with
  | lst xs => obtain ⟨vs, e1, h1⟩ := h; exact ⟨vs, k.trans e1, RepL.ext e _ _ h1⟩
  | dct _ => obtain ⟨q, ks, e1, h1⟩ := h; exact ⟨q, ks, k.trans e1, KsR.ext e _ _ h1⟩
  | st _ => obtain ⟨ks, e1, h1⟩ := h; exact ⟨ks, k.trans e1, KsR.ext e _ _ h1⟩
  | dk _ => obtain ⟨ks, e1, h1⟩ := h; exact ⟨ks, k.trans e1, KsR.ext e _ _ h1⟩
  | dkl _ => obtain ⟨q, ks, e1, h1⟩ := h; exact ⟨q, ks, k.trans e1, KsR.ext e _ _ h1⟩
  | nk _ => obtain ⟨ks, e1, h1⟩ := h; exact ⟨ks, k.trans e1, NkR.ext e _ _ h1⟩
  | nkl _ => obtain ⟨q, ks, e1, h1⟩ := h; exact ⟨q, ks, k.trans e1, NkR.ext e _ _ h1⟩
  | ins _ _ => obtain ⟨C, dx, fvs, n, e1, h1⟩ := h; exact ⟨C, dx, fvs, n, k.trans e1, KsR.ext e _ _ h1⟩
  | exn _ => obtain ⟨C, n, e1⟩ := h; exact ⟨C, n, k.trans e1⟩
  | tab _ => obtain ⟨c, n, ps, e1, h1, h2⟩ := h; exact ⟨c, n, ps, k.trans e1, h1, fun pos cv hc => by obtain ⟨c', e2, e3⟩ := h2 pos cv hc; exact ⟨c', e2, e.cod _ _ e3⟩⟩
theorem Sim.tup {S : Store} (s : Sim K ι S H) {p : Addr} {o : HO} (hp : H p = none) : Sim K ι S (upd H p o) :=
  ⟨s.len, s.nd, fun i o' a h1 h2 => by
    have q := s.obj i o' a h1 h2
    obtain ⟨u, hu⟩ := q.there
    exact q.move (ext_tup hp) (by rw [upd_ne (ne_of_none hu hp)])⟩
/-- a new object -/
theorem Sim.new {S : Store} (s : Sim K ι S H) {p : Addr} {o : HO} {m : MO} (hp : H p = none) (h : ObjR K (ι ++ [p]) (upd H p o) p m) : Sim K (ι ++ [p]) (S ++ [m]) (upd H p o) := by
  refine ⟨by simp [s.len], ?_, fun i o' a h1 h2 => ?_⟩
  · refine List.nodup_append.mpr ⟨s.nd, by simp, fun a ha b hb => ?_⟩
    obtain rfl : b = p := by simpa using hb
    obtain ⟨i, hi⟩ := List.getElem?_of_mem ha
    have hl : i < S.length := by rw [← s.len]; exact (List.getElem?_eq_some_iff.mp hi).1
    obtain ⟨u, hu⟩ := (s.obj i _ a (List.getElem?_eq_getElem hl) hi).there
    exact ne_of_none hu hp
  · by_cases hi : i < S.length
    · rw [List.getElem?_append_left hi] at h1
      rw [List.getElem?_append_left (by rw [s.len]; exact hi)] at h2
      have q := s.obj i o' a h1 h2
      obtain ⟨u, hu⟩ := q.there
      exact q.move (ext_new hp) (by rw [upd_ne (ne_of_none hu hp)])
    · have e : i = S.length := by
        have := (List.getElem?_eq_some_iff.mp h1).1
        simp at this; omega
      subst e
      rw [List.getElem?_append_right (Nat.le_refl _)] at h1
      rw [← s.len, List.getElem?_append_right (Nat.le_refl _)] at h2
      simp at h1 h2
      subst h1 h2
      exact h
/-- an object written -/
theorem Sim.put {S : Store} (s : Sim K ι S H) {n : Nat} {p : Addr} {o : HO} {m : MO} (hp : ι[n]? = some p) (h : ObjR K ι (upd H p o) p m) (hx : ∃ u, H p = some u ∧ Mob u) : Sim K ι (S.set n m) (upd H p o) := by
  have hl : n < S.length := by rw [← s.len]; exact (List.getElem?_eq_some_iff.mp hp).1
  obtain ⟨u, hu, hm⟩ := hx
  refine ⟨by simp [s.len], s.nd, fun i o' a h1 h2 => ?_⟩
  by_cases hi : n = i
  · subst hi
    rw [List.getElem?_set_self hl] at h1
    cases h1
    rw [hp] at h2; cases h2
    exact h
  · rw [List.getElem?_set_ne hi] at h1
    have q := s.obj i o' a h1 h2
    refine q.move (ext_mut hu hm) ?_
    rw [upd_ne]
    rintro rfl
    obtain ⟨l1, e1⟩ := List.getElem?_eq_some_iff.mp hp
    obtain ⟨l2, e2⟩ := List.getElem?_eq_some_iff.mp h2
    exact hi ((List.getElem_inj s.nd).mp (e1.trans e2.symm))
end
end Z
namespace Z
open PySem PySem.Spec PyProof.Rows L2
abbrev Mg := Str → Option Value
section
variable {K : KW} {mg : Mg} {ι ι' ι1 ι2 : List Addr} {H H' H1 H2 : Hp}
def EnvR (K : KW) (ι : List Addr) (H : Hp) (ρ : Env) (σ : L2.St) : Prop := ρ.length = σ.length ∧ ∀ (i : Nat) (d : D), ρ[i]? = some (some d) → ∃ v, σ[i]? = some (some v) ∧ Rep K ι H d v
theorem EnvR.ext {ρ : Env} {σ : L2.St} (e : Ext ι H ι' H') (h : EnvR K ι H ρ σ) : EnvR K ι' H' ρ σ := ⟨h.1, fun i d g => let ⟨v, a, b⟩ := h.2 i d g; ⟨v, a, Rep.ext e _ _ b⟩⟩
theorem EnvR.set {ρ : Env} {σ : L2.St} (h : EnvR K ι H ρ σ) {i : Nat} {d : D} {v : V} (r : Rep K ι H d v) : EnvR K ι H (ρ.set i (some d)) (σ.set i (some v)) := by
  refine ⟨by simp [h.1], fun j e g => ?_⟩
  by_cases hj : i = j
  · subst hj
    by_cases hl : i < ρ.length
    · rw [List.getElem?_set_self hl] at g
      cases g
      exact ⟨v, by rw [List.getElem?_set_self (by rw [← h.1]; exact hl)], r⟩
    · rw [List.getElem?_eq_none (by simpa using hl)] at g; cases g
  · rw [List.getElem?_set_ne hj] at g ⊢
    exact h.2 j e g
theorem EnvR.wipe {ρ : Env} {σ : L2.St} (h : EnvR K ι H ρ σ) : ∀ own : List Nat, EnvR K ι H (Z.wipe ρ own) (L2.wipe σ own)
  | [] => h
  | v :: vs => by
    have q := EnvR.wipe h vs
    refine ⟨by unfold Z.wipe L2.wipe; simp [q.1], fun j e g => ?_⟩
    unfold Z.wipe at g
    unfold L2.wipe
    by_cases hj : v = j
    · subst hj
      by_cases hl : v < (Z.wipe ρ vs).length
      · rw [List.getElem?_set_self hl] at g; cases g
      · rw [List.getElem?_eq_none (by simpa using hl)] at g; cases g
    · rw [List.getElem?_set_ne hj] at g ⊢
      exact q.2 j e g
/-- what is wanted of an outcome -/
def Po {α β : Type} (R : List Addr → Hp → α → β → Prop) (K : KW) (mg : Mg) (ι : List Addr) (H : Hp) (Q : β → Hp → Prop) (E : XK) : M α → Prop
  | none => False
  | some (.ok a S) => ∀ ι' H' x, Ext ι H ι' H' → Sim K ι' S H' → R ι' H' a x → Q x H'
  | some (.ex c S) => ∀ ι' H' cls, Ext ι H ι' H' → Sim K ι' S H' → mg (Str.ofString c) = some cls → E cls none H'
theorem Po.mono {α β : Type} {R : List Addr → Hp → α → β → Prop} {Q : β → Hp → Prop} {E : XK} (e : Ext ι H ι' H') : ∀ {m : M α}, Po R K mg ι H Q E m → Po R K mg ι' H' Q E m
  | none, h => h
  | some (.ok _ _), h => fun ι2 H2 x e2 s r => h ι2 H2 x (e.trans e2) s r
  | some (.ex _ _), h => fun ι2 H2 x e2 s r => h ι2 H2 x (e.trans e2) s r
theorem Po.imp {α β : Type} {R : List Addr → Hp → α → β → Prop} {Q Q' : β → Hp → Prop} {E : XK} (k : ∀ x H', Q x H' → Q' x H') : ∀ {m : M α}, Po R K mg ι H Q E m → Po R K mg ι H Q' E m
  | none, h => h
  | some (.ok _ _), h => fun ι2 H2 x e2 s r => k _ _ (h ι2 H2 x e2 s r)
  | some (.ex _ _), h => h
/-- the first step of a sequence -/
theorem Po.bd {α β α' β' : Type} {R : List Addr → Hp → α → β → Prop} {R' : List Addr → Hp → α' → β' → Prop} {Q : β → Hp → Prop} {Q' : β' → Hp → Prop} {E : XK} {m : M α} {f : α → Store → M α'}
    (h : Po R' K mg ι H Q' E (Z.bd m f)) (k : ∀ a S ι1 H1 x, Ext ι H ι1 H1 → Sim K ι1 S H1 → R ι1 H1 a x → Po R' K mg ι1 H1 Q' E (f a S) → Q x H1) : Po R K mg ι H Q E m := by
  match m, h with
  | some (.ok a S), h => exact fun ι1 H1 x e s r => k a S ι1 H1 x e s r (Po.mono e h)
  | some (.ex c S), h => exact h
theorem Po.ret {α β : Type} {R : List Addr → Hp → α → β → Prop} {Q : β → Hp → Prop} {E : XK} {a : α} {S : Store} {x : β} (h : Po R K mg ι H Q E (some (.ok a S))) (s : Sim K ι S H) (r : R ι H a x) : Q x H := h ι H x .refl s r
abbrev RB : List Addr → Hp → Bool → Bool → Prop := fun _ _ a b => b = a
/-- outcomes of statements -/
def PoS (K : KW) (mg : Mg) (W : WX) (ι : List Addr) (H : Hp) (En : Ends) : Option Out → Prop
  | none => False
  | some (.nx ρ S) => ∀ ι' H' σ, Ext ι H ι' H' → Sim K ι' S H' → EnvR K ι' H' ρ σ → En.nx σ H'
  | some (.bk ρ S) => ∀ ι' H' σ, Ext ι H ι' H' → Sim K ι' S H' → EnvR K ι' H' ρ σ → En.bk σ H'
  | some (.ct ρ S) => ∀ ι' H' σ, Ext ι H ι' H' → Sim K ι' S H' → EnvR K ι' H' ρ σ → En.ct σ H'
  | some (.rt d S) => ∀ ι' H' v, Ext ι H ι' H' → Sim K ι' S H' → Rep K ι' H' d v → En.rt v H'
  | some (.ex c ρ S) => ∀ ι' H' σ cls, Ext ι H ι' H' → Sim K ι' S H' → EnvR K ι' H' ρ σ → mg (Str.ofString c) = some cls → W cls none σ H'
theorem PoS.mono {W : WX} {En : Ends} (e : Ext ι H ι' H') : ∀ {o : Option Out}, PoS K mg W ι H En o → PoS K mg W ι' H' En o
  | none, h => h
  | some (.nx _ _), h => fun ι2 H2 σ e2 s r => h ι2 H2 σ (e.trans e2) s r
  | some (.bk _ _), h => fun ι2 H2 σ e2 s r => h ι2 H2 σ (e.trans e2) s r
  | some (.ct _ _), h => fun ι2 H2 σ e2 s r => h ι2 H2 σ (e.trans e2) s r
  | some (.rt _ _), h => fun ι2 H2 v e2 s r => h ι2 H2 v (e.trans e2) s r
  | some (.ex _ _ _), h => fun ι2 H2 σ c e2 s r => h ι2 H2 σ c (e.trans e2) s r
theorem PoS.bo {α β : Type} {R : List Addr → Hp → α → β → Prop} {Q : β → Hp → Prop} {W : WX} {En : Ends} {m : M α} {ρ : Env} {σ : L2.St} {f : α → Store → Option Out} (hρ : EnvR K ι H ρ σ)
    (h : PoS K mg W ι H En (Z.bo m ρ f)) (k : ∀ a S ι1 H1 x, Ext ι H ι1 H1 → Sim K ι1 S H1 → R ι1 H1 a x → EnvR K ι1 H1 ρ σ → PoS K mg W ι1 H1 En (f a S) → Q x H1) : Po R K mg ι H Q (fun cls d H' => W cls d σ H') m := by
  match m, h with
  | some (.ok a S), h => exact fun ι1 H1 x e s r => k a S ι1 H1 x e s r (hρ.ext e) (PoS.mono e h)
  | some (.ex c S), h => exact fun ι1 H1 cls e s g => h ι1 H1 σ cls e s (hρ.ext e) g
end
/-- an expression's, a test's, an argument list's, a statement's reading -/
def tE (K : KW) (mg : Mg) (W : WX) (m : SE) : TE := fun σ H Q => ∃ ι ρ S, Sim K ι S H ∧ EnvR K ι H ρ σ ∧ Po (Rep K) K mg ι H Q (fun cls d H' => W cls d σ H') (m ρ S)
def tT (K : KW) (mg : Mg) (W : WX) (m : ST) : TT := fun σ H Q => ∃ ι ρ S, Sim K ι S H ∧ EnvR K ι H ρ σ ∧ Po RB K mg ι H Q (fun cls d H' => W cls d σ H') (m ρ S)
def tA (K : KW) (mg : Mg) (W : WX) (ms : List SE) : TA := fun σ H Q => ∃ ι ρ S, Sim K ι S H ∧ EnvR K ι H ρ σ ∧ Po (RepL K) K mg ι H Q (fun cls d H' => W cls d σ H') (evL ms ρ S)
def tS (K : KW) (mg : Mg) (W : WX) (m : SS) : TS := fun En σ H => ∃ ι ρ S, Sim K ι S H ∧ EnvR K ι H ρ σ ∧ PoS K mg W ι H En (m ρ S)
def GE (X : Cx) (W : WX) (e : Expr) (m : SE) : Prop := PE X e (tE X.KW X.mg W m)
def GT (X : Cx) (W : WX) (e : Expr) (m : ST) : Prop := PT X e (tT X.KW X.mg W m)
def GW (X : Cx) (W : WX) (e : Expr) (m : ST) : Prop := PW X e (tT X.KW X.mg W m)
def GA (X : Cx) (W : WX) (es : List Expr) (ms : List SE) : Prop := PA X es (tA X.KW X.mg W ms)
def GS (X : Cx) (W : WX) (st : Stmt) (m : SS) : Prop := PS X st (tS X.KW X.mg W m)
def GSs (X : Cx) (W : WX) (st : List Stmt) (m : SS) : Prop := PSs X st (tS X.KW X.mg W m)
section
variable {X : Cx}
theorem _root_.L2.PE.imp {e : Expr} {t t' : TE} (h : PE X e t) (k : ∀ σ H Q, t' σ H Q → t σ H Q) : PE X e t' := ⟨fun pins s σ H Q I q => h.run pins s σ H Q I (k _ _ _ q)⟩
theorem _root_.L2.PT.imp {e : Expr} {t t' : TT} (h : PT X e t) (k : ∀ σ H Q, t' σ H Q → t σ H Q) : PT X e t' := ⟨fun pins s σ H Q I q => h.run pins s σ H Q I (k _ _ _ q)⟩
theorem _root_.L2.PW.imp {e : Expr} {t t' : TT} (h : PW X e t) (k : ∀ σ H Q, t' σ H Q → t σ H Q) : PW X e t' := ⟨fun wh pins s σ H Q I q => h.run wh pins s σ H Q I (k _ _ _ q)⟩
theorem _root_.L2.PA.imp {es : List Expr} {t t' : TA} (h : PA X es t) (k : ∀ σ H Q, t' σ H Q → t σ H Q) : PA X es t' := ⟨fun pos pins s σ H Q I q => h.run pos pins s σ H Q I (k _ _ _ q)⟩
theorem _root_.L2.PS.imp {st : Stmt} {t t' : TS} (h : PS X st t) (k : ∀ D σ H, t' D σ H → t D σ H) : PS X st t' := ⟨fun pins s σ H D I q => h.run pins s σ H D I (k _ _ _ q)⟩
theorem _root_.L2.PSs.imp {st : List Stmt} {t t' : TS} (h : PSs X st t) (k : ∀ D σ H, t' D σ H → t D σ H) : PSs X st t' := ⟨fun pins s σ H D I q => h.run pins s σ H D I (k _ _ _ q)⟩
variable {W : WX} {a b c e : Expr} {ma mb mc : SE} {pos : Pos}
theorem ge_var (i : Nat) {x : Str} (hN : X.N[i]? = some x := by rfl) (hv : Vis X.env.scope x := by first | exact Or.inl rfl | exact Or.inr (Or.inl rfl) | exact Or.inr (Or.inr rfl)) (hd : (x == ("__debug__" : Str)) = false := by decide)
    (hcd : (x == ("__classdict__" : Str)) = false := by decide) : GE X W (.Name x pos) (eVar i) := (pe_var hN hv hd hcd).imp fun σ H Q ⟨ι, ρ, S, s, r, p⟩ => by
  unfold eVar at p
  cases g : ρ[i]? with
  | none => rw [g] at p; exact p.elim
  | some o =>
    cases o with
    | none => rw [g] at p; exact p.elim
    | some d =>
      rw [g] at p
      obtain ⟨v, hv, hr⟩ := r.2 i d g
      exact ⟨v, hv, Po.ret p s hr⟩
theorem ge_c {v : V} {d : D} (h : PE X e (tC v)) (r : ∀ ι H, Rep X.KW ι H d v) : GE X W e (eC d) := h.imp fun σ H Q ⟨ι, ρ, S, s, _, p⟩ => Po.ret p s (r ι H)
theorem ge_int {i j} : GE X W (.Constant (.int i) j pos) (eC (.int i)) := ge_c pe_int fun _ _ => by rw [Rep]
theorem ge_bl {b j} : GE X W (.Constant (.bool b) j pos) (eC (.bl b)) := ge_c pe_bl fun _ _ => by rw [Rep]
theorem ge_str {x : Str} {s : List Nat} {j} (h : x = str s := by decide +kernel) (h2 : (s.all fun c => decide (c < 128)) = true := by decide +kernel) : GE X W (.Constant (.str x) j pos) (eC (.str s)) :=
  ge_c pe_str fun _ _ => by rw [Rep]; exact ⟨by rw [h], fun c hc => of_decide_eq_true (List.all_eq_true.mp h2 c hc)⟩
def r2 (X : Cx) (f : D → D → Store → M D) : R2 := fun x y H Q => ∃ ι S d e, Sim X.KW ι S H ∧ Rep X.KW ι H d x ∧ Rep X.KW ι H e y ∧ Po (Rep X.KW) X.KW X.mg ι H Q (fun _ _ _ => False) (f d e S)
def NoEx (f : D → D → Store → M D) : Prop := ∀ d e S c S', f d e S ≠ some (.ex c S')
theorem Po.noex {α β : Type} {R : List Addr → Hp → α → β → Prop} {K mg ι H} {Q : β → Hp → Prop} {E E' : XK} {m : M α} (h : Po R K mg ι H Q E m) (n : ∀ c S', m ≠ some (.ex c S')) : Po R K mg ι H Q E' m := by
  match m, h with
  | some (.ok a S), h => exact h
  | some (.ex c S), h => exact absurd rfl (n c S)
theorem e2_read {f : D → D → Store → M D} (n : NoEx f) {σ : L2.St} {H : Hp} {Q : VK} (h : tE X.KW X.mg W (e2 f ma mb) σ H Q) : tOp (r2 X f) (tE X.KW X.mg W ma) (tE X.KW X.mg W mb) σ H Q := by
  obtain ⟨ι, ρ, S, s, r, p⟩ := h
  refine ⟨ι, ρ, S, s, r, Po.bd p fun d S1 ι1 H1 x e1 s1 r1 p1 => ?_⟩
  refine ⟨ι1, ρ, S1, s1, r.ext e1, Po.bd p1 fun d' S2 ι2 H2 y e2 s2 r2 p2 => ?_⟩
  exact ⟨ι2, S2, d, d', s2, Rep.ext e2 _ _ r1, r2, p2.noex fun c S' => n d d' S2 c S'⟩
theorem ge_op {op : Operator} {f : D → D → Store → M D} (n : NoEx f) (ho : OpR X (binaryOp op) (r2 X f)) (ha : GE X W a ma) (hb : GE X W b mb) : GE X W (.BinOp a op b pos) (e2 f ma mb) := (pe_op ho ha hb).imp fun σ H Q h => e2_read n h
theorem ge_cmp {op : CmpOp} {f : D → D → Store → M D} (n : NoEx f) (ho : OpR X (compareOp op) (r2 X f)) (ha : GE X W a ma) (hb : GE X W b mb) (hm : behindInMarks op b = false := by first | exact nobehind _ (by decide) (by decide) | rfl) :
    GE X W (.Compare a [op] [b] pos) (e2 f ma mb) := (pe_cmpR ho ha hb hm).imp fun σ H Q h => e2_read n h
theorem ge_un {op : UnaryOp} {f : D → Store → M D} (n : ∀ d S c S', f d S ≠ some (.ex c S')) (ho : UnR X (unaryOp op) (fun x H Q => ∃ ι S d, Sim X.KW ι S H ∧ Rep X.KW ι H d x ∧ Po (Rep X.KW) X.KW X.mg ι H Q (fun _ _ _ => False) (f d S))) (ha : GE X W a ma) :
    GE X W (.UnaryOp op a pos) (e1 f ma) := (pe_un ho ha).imp fun σ H Q h => by
  obtain ⟨ι, ρ, S, s, r, p⟩ := h
  refine ⟨ι, ρ, S, s, r, Po.bd p fun d S1 ι1 H1 x e1 s1 r1 p1 => ?_⟩
  exact ⟨ι1, S1, d, s1, r1, p1.noex fun c S' => n d S1 c S'⟩
theorem ga_nil : GA X W [] [] := pa_nil.imp fun σ H Q ⟨ι, ρ, S, s, r, p⟩ => Po.ret p s (by rw [RepL])
theorem ga_cons {es : List Expr} {ms : List SE} (ha : GE X W e ma) (hr : GA X W es ms) (hs : starEach (e :: es) X.env = (false, eval e X.env) :: starEach es X.env := by rfl) : GA X W (e :: es) (ma :: ms) := (pa_cons ha hr hs).imp fun σ H Q h => by
  obtain ⟨ι, ρ, S, s, r, p⟩ := h
  refine ⟨ι, ρ, S, s, r, Po.bd p fun d S1 ι1 H1 x e1 s1 r1 p1 => ?_⟩
  refine ⟨ι1, ρ, S1, s1, r.ext e1, Po.bd p1 fun ds S2 ι2 H2 ys e2 s2 r2 p2 => ?_⟩
  exact Po.ret p2 s2 (by rw [RepL]; exact ⟨x, ys, rfl, Rep.ext e2 _ _ r1, r2⟩)
theorem evL_length : ∀ {ms : List SE} {ρ : Env} {S S' : Store} {ds : List D}, evL ms ρ S = some (.ok ds S') → ds.length = ms.length
  | [], _, _, _, _, h => by cases h; rfl
  | m :: ms, ρ, S, S', ds, h => by
    unfold evL at h
    match g : m ρ S, h with
    | some (.ok x S1), h =>
      simp only [bd_ok] at h
      match g2 : evL ms ρ S1, h with
      | some (.ok xs S2), h =>
        simp only [bd_ok] at h
        cases h
        simp [evL_length g2]
      | some (.ex _ _), h => simp at h
      | none, h => simp at h
    | some (.ex _ _), h => simp at h
    | none, h => simp at h
theorem Po.evL {ms : List SE} {ρ : Env} {S : Store} {ι : List Addr} {H : Hp} {α' β' : Type} {R' : List Addr → Hp → α' → β' → Prop} {Q : List V → Hp → Prop} {Q' : β' → Hp → Prop} {E : XK} {f : List D → Store → M α'}
    (h : Po R' X.KW X.mg ι H Q' E (Z.bd (Z.evL ms ρ S) f)) (k : ∀ ds S ι1 H1 vs, ds.length = ms.length → Ext ι H ι1 H1 → Sim X.KW ι1 S H1 → RepL X.KW ι1 H1 ds vs → Po R' X.KW X.mg ι1 H1 Q' E (f ds S) → Q vs H1) : Po (RepL X.KW) X.KW X.mg ι H Q E (Z.evL ms ρ S) := by
  match g : Z.evL ms ρ S, h with
  | some (.ok a S), h => exact fun ι1 H1 x e s r => k a S ι1 H1 x (evL_length g) e s r (Po.mono e h)
  | some (.ex c S), h => exact h
  | none, h => exact h
theorem Sim.newTup {K : KW} {mg : Mg} {ι : List Addr} {S : Store} {H : Hp} {ds : List D} {vs : List V} {Q : VK} {E : XK} {p : Addr} (s : Sim K ι S H) (hp : H p = none) (r : RepL K ι H ds vs) (po : Po (Rep K) K mg ι H Q E (some (.ok (.tup ds) S))) : NewT H p vs Q := by
  cases c : fK ds
  · refine .inr fun o ho => ?_
    have e := ext_tup (ι := ι) (o := .frz o (.tup vs)) hp
    exact Po.ret (Po.mono e po) (s.tup hp) (by rw [Rep]; exact ⟨p, vs, rfl, by rw [c]; exact ⟨o, ho, upd_same⟩, RepL.ext e _ _ r⟩)
  · refine .inl ?_
    have e := ext_tup (ι := ι) (o := .tup vs) hp
    exact Po.ret (Po.mono e po) (s.tup hp) (by rw [Rep]; exact ⟨p, vs, rfl, by rw [c]; exact upd_same, RepL.ext e _ _ r⟩)
theorem ge_tup {es : List Expr} {ms : List SE} {x1} (h : GA X W es ms) (hl : ms.length ≤ 1000 := by exact Nat.le_of_ble_eq_true rfl) : GE X W (.Tuple es x1 pos) (eTup ms) := (pe_tup2 h).imp fun σ H Q h => by
  obtain ⟨ι, ρ, S, s, r, p⟩ := h
  refine ⟨ι, ρ, S, s, r, Po.evL p fun ds S1 ι1 H1 vs hd e1 s1 r1 p1 => ⟨?_, fun q hq => ?_⟩⟩
  · rw [r1.length, hd]; exact Nat.le_trans hl (by decide)
  · exact s1.newTup hq r1 p1
theorem Sim.newL {K : KW} {ι : List Addr} {S : Store} {H : Hp} (s : Sim K ι S H) {p : Addr} {ds : List D} {vs : List V} (hp : H p = none) (r : RepL K ι H ds vs) : Sim K (ι ++ [p]) (S ++ [.lst ds]) (upd H p (.lst vs)) :=
  s.new hp ⟨vs, upd_same, RepL.ext (ext_new hp) _ _ r⟩
theorem Rep.newL {K : KW} {ι : List Addr} {S : Store} {H H' : Hp} (s : Sim K ι S H) {p : Addr} : Rep K (ι ++ [p]) H' (.ref S.length) (.ref p) := by
  rw [Rep]
  exact ⟨p, rfl, by rw [← s.len, List.getElem?_append_right (Nat.le_refl _)]; simp⟩
theorem ge_lst {es : List Expr} {ms : List SE} (h : GA X W es ms) (hl : ms.length ≤ 1000 := by exact Nat.le_of_ble_eq_true rfl) : GE X W (.List es pos) (eLst ms) := (pe_lst h).imp fun σ H Q h => by
  obtain ⟨ι, ρ, S, s, r, p⟩ := h
  refine ⟨ι, ρ, S, s, r, Po.evL p fun ds S1 ι1 H1 vs hd e1 s1 r1 p1 => ⟨?_, fun q hq => ?_⟩⟩
  · rw [r1.length, hd]; exact Nat.le_trans hl (by decide)
  · exact Po.ret (Po.mono (ext_new (t := [q]) (o := .lst vs) hq) p1) (s1.newL hq r1) (Rep.newL s1)
/-- what a def promises: its meaning -/
def spF (K : KW) (mg : Mg) (F : Fn) : Sp := fun vs H Q E => ∃ ι S ds, Sim K ι S H ∧ RepL K ι H ds vs ∧ Po (Rep K) K mg ι H Q E (F ds S)
/-- a def of the module -/
structure GF (P : Program) (w : World) (K : PySem.W.Frag) (mg : Mg) (base : Heap) (x : Str) (k : Nat) (F : Fn) : Prop where
  ex : ∃ f fd ps, mg x = some (.ref f) ∧ PySem.W.keepIn K (.ref f) = true ∧ Binds K fd ps [] ∧ FnG P w K mg base (L2.CX P w) k f fd ps (spF ⟨K, P, w⟩ mg F)
theorem ge_call {x : Str} {p : Pos} {k : Nat} {F : Fn} {es : List Expr} {ms : List SE} (G : GF X.prog X.w X.KW X.mg X.base x k F) (hr : RoomG k X.A) (tk : Takes X W) (hg : Gl X x) (ha : GA X W (e :: es) ms)
    (hdb : (x == ("__debug__" : Str)) = false := by decide) (he : starEach (e :: es) X.env = (false, eval e X.env) :: starEach es X.env := by rfl) (hpl : (backTo pos (starEach es X.env)).any (·.1) = false := by rfl) :
    GE X W (.Call (.Name x p) (e :: es) [] pos) (eCall F ms) := by
  obtain ⟨f, fd, ps, hm, hk, hb, G⟩ := G.ex
  refine (pe_callG (E := fun σ cls d H' => W cls d σ H') G hr hg hm hk hb .nil (fun σ => passAt tk σ) ha hdb he hpl).imp fun σ H Q h => ?_
  obtain ⟨ι, ρ, S, s, r, p⟩ := h
  refine ⟨ι, ρ, S, s, r, Po.evL p fun ds S1 ι1 H1 vs hd e1 s1 r1 p1 => ?_⟩
  rw [List.append_nil]
  exact ⟨ι1, S1, ds, s1, r1, p1⟩
/-- a built-in by values -/
def rB (X : Cx) (F : Fn) : List V → Hp → VK → Prop := fun vs H Q => ∃ ι S ds, Sim X.KW ι S H ∧ RepL X.KW ι H ds vs ∧ Po (Rep X.KW) X.KW X.mg ι H Q (fun _ _ _ => False) (F ds S)
def NoExF (F : Fn) : Prop := ∀ ds S c S', F ds S ≠ some (.ex c S')
theorem ge_callB {x : Str} {id : String} {p : Pos} {F : Fn} {es : List Expr} {ms : List SE} (n : NoExF F) (hc : CallR X (.builtin id) (rB X F)) (hg : Gl X x) (hm : X.mg x = none) (hv : bootBuiltins x = some (.builtin id)) (ha : GA X W (e :: es) ms)
    (hn : x ≠ "__name__" := by decide) (hdb : (x == ("__debug__" : Str)) = false := by decide) (he : starEach (e :: es) X.env = (false, eval e X.env) :: starEach es X.env := by rfl) (hpl : (backTo pos (starEach es X.env)).any (·.1) = false := by rfl) :
    GE X W (.Call (.Name x p) (e :: es) [] pos) (eCall F ms) := (pe_callB hc hg hm hv ha hn hdb he hpl).imp fun σ H Q h => by
  obtain ⟨ι, ρ, S, s, r, p⟩ := h
  refine ⟨ι, ρ, S, s, r, Po.evL p fun ds S1 ι1 H1 vs hd e1 s1 r1 p1 => ?_⟩
  exact ⟨ι1, S1, ds, s1, r1, p1.noex fun c S' => n ds S1 c S'⟩
theorem ge_callTy {x : Str} {T : String} {p : Pos} {F : Fn} {es : List Expr} {ms : List SE} (n : NoExF F) (hc : CallR X (.type T) (rB X F)) (hg : Gl X x) (hm : X.mg x = none) (hv : bootBuiltins x = some (.type T)) (ha : GA X W (e :: es) ms)
    (hn : x ≠ "__name__" := by decide) (hdb : (x == ("__debug__" : Str)) = false := by decide) (he : starEach (e :: es) X.env = (false, eval e X.env) :: starEach es X.env := by rfl) (hpl : (backTo pos (starEach es X.env)).any (·.1) = false := by rfl) :
    GE X W (.Call (.Name x p) (e :: es) [] pos) (eCall F ms) := (pe_callTy hc hg hm hv ha hn hdb he hpl).imp fun σ H Q h => by
  obtain ⟨ι, ρ, S, s, r, p⟩ := h
  refine ⟨ι, ρ, S, s, r, Po.evL p fun ds S1 ι1 H1 vs hd e1 s1 r1 p1 => ?_⟩
  exact ⟨ι1, S1, ds, s1, r1, p1.noex fun c S' => n ds S1 c S'⟩
theorem ge_one {op} (h : GE X W a ma) : GE X W (.BoolOp op [a] pos) ma := pe_one h
theorem ge_and {rest : List Expr} (ha : GE X W a ma) (hb : GE X W (.BoolOp .And (b :: rest) pos) mb) : GE X W (.BoolOp .And (a :: b :: rest) pos) (eAnd ma mb) := (pe_and ha hb).imp fun σ H Q h => by
  obtain ⟨ι, ρ, S, s, r, p⟩ := h
  refine ⟨ι, ρ, S, s, r, Po.bd p fun d S1 ι1 H1 x e1 s1 r1 p1 => ?_⟩
  cases d with
  | bl k =>
    rw [Rep] at r1
    refine ⟨k, r1, ?_⟩
    cases k with
    | true => rw [if_pos rfl]; exact ⟨ι1, ρ, S1, s1, r.ext e1, p1⟩
    | false => rw [if_neg Bool.false_ne_true]; exact Po.ret p1 s1 (by rw [Rep])
  | _ => exact p1.elim
theorem ge_or {rest : List Expr} (ha : GE X W a ma) (hb : GE X W (.BoolOp .Or (b :: rest) pos) mb) : GE X W (.BoolOp .Or (a :: b :: rest) pos) (eOr ma mb) := (pe_or ha hb).imp fun σ H Q h => by
  obtain ⟨ι, ρ, S, s, r, p⟩ := h
  refine ⟨ι, ρ, S, s, r, Po.bd p fun d S1 ι1 H1 x e1 s1 r1 p1 => ?_⟩
  cases d with
  | bl k =>
    rw [Rep] at r1
    refine ⟨k, r1, ?_⟩
    cases k with
    | false => rw [if_neg Bool.false_ne_true]; exact ⟨ι1, ρ, S1, s1, r.ext e1, p1⟩
    | true => rw [if_pos rfl]; exact Po.ret p1 s1 (by rw [Rep])
  | _ => exact p1.elim
theorem tVal_read {m : SE} {σ : L2.St} {H : Hp} {Q : Bool → Hp → Prop} (h : tT X.KW X.mg W (tVal m) σ H Q) : tE X.KW X.mg W m σ H fun x H1 => ∃ k, x = .bl k ∧ Q k H1 := by
  obtain ⟨ι, ρ, S, s, r, p⟩ := h
  refine ⟨ι, ρ, S, s, r, Po.bd p fun d S1 ι1 H1 x e1 s1 r1 p1 => ?_⟩
  cases d with
  | bl k =>
    rw [Rep] at r1
    exact ⟨k, r1, Po.ret p1 s1 rfl⟩
  | _ => exact p1.elim
/-- an expression that gives True or False, as a test -/
theorem gt_val {m : SE} (h : GE X W e m) (he : ∀ whole, isTrue e X.env whole = (do let v ← whole; standAt e.pos; holding [v] (truthy v)) := by intro _; rfl) : GT X W e (tVal m) := (pt_val h he).imp fun σ H Q h => tVal_read h
theorem gt_cmp {op : CmpOp} {f : D → D → Store → M D} (n : NoEx f) (ho : OpR X (compareOp op) (r2 X f)) (ha : GE X W a ma) (hb : GE X W b mb) (hm : behindInMarks op b = false := by first | exact nobehind _ (by decide) (by decide) | rfl) :
    GT X W (.Compare a [op] [b] pos) (tVal (e2 f ma mb)) := (pt_cmpR ho ha hb hm).imp fun σ H Q h => e2_read n (tVal_read h)
variable {ta tb : ST}
theorem gw_and1 (ha : GT X W a ta) : GW X W (.BoolOp .And [a] pos) ta := pw_and1 ha
theorem gw_or1 (ha : GT X W a ta) : GW X W (.BoolOp .Or [a] pos) ta := pw_or1 ha
theorem gw_and {rest : List Expr} (ha : GT X W a ta) (hb : GW X W (.BoolOp .And (b :: rest) pos) tb) : GW X W (.BoolOp .And (a :: b :: rest) pos) (tAnd ta tb) := (pw_and ha hb).imp fun σ H Q h => by
  obtain ⟨ι, ρ, S, s, r, p⟩ := h
  refine ⟨ι, ρ, S, s, r, Po.bd p fun d S1 ι1 H1 x e1 s1 r1 p1 => ?_⟩
  obtain rfl : x = d := r1
  cases x with
  | true => rw [if_pos rfl] at p1 ⊢; exact ⟨ι1, ρ, S1, s1, r.ext e1, p1⟩
  | false => rw [if_neg Bool.false_ne_true] at p1 ⊢; exact Po.ret p1 s1 rfl
theorem gw_or {rest : List Expr} (ha : GT X W a ta) (hb : GW X W (.BoolOp .Or (b :: rest) pos) tb) : GW X W (.BoolOp .Or (a :: b :: rest) pos) (tOr ta tb) := (pw_or ha hb).imp fun σ H Q h => by
  obtain ⟨ι, ρ, S, s, r, p⟩ := h
  refine ⟨ι, ρ, S, s, r, Po.bd p fun d S1 ι1 H1 x e1 s1 r1 p1 => ?_⟩
  obtain rfl : x = d := r1
  cases x with
  | true => rw [if_pos rfl] at p1 ⊢; exact Po.ret p1 s1 rfl
  | false => rw [if_neg Bool.false_ne_true] at p1 ⊢; exact ⟨ι1, ρ, S1, s1, r.ext e1, p1⟩
theorem GW.gt (h : GW X W e ta) : GT X W e ta := L2.PW.pt h
end
end Z
namespace Z
open PySem PySem.Spec PyProof.Rows L2
section
variable {X : Cx} {W : WX} {a b c e : Expr} {ma mb mc : SE} {pos : Pos}
theorem gss_nil : GSs X W [] sNx := pss_nil.imp fun D σ H ⟨ι, ρ, S, s, r, p⟩ => p ι H σ .refl s r
theorem gss_cons {st : Stmt} {rest : List Stmt} {m m' : SS} (h1 : GS X W st m) (h2 : GSs X W rest m') : GSs X W (st :: rest) (sq m m') := (pss_cons h1 h2).imp fun D σ H ⟨ι, ρ, S, s, r, p⟩ => by
  refine ⟨ι, ρ, S, s, r, ?_⟩
  unfold sq at p
  match g : m ρ S, p with
  | none, p => exact p
  | some (.nx ρ1 S1), p => exact fun ι1 H1 σ1 e1 s1 r1 => ⟨ι1, ρ1, S1, s1, r1, PoS.mono e1 p⟩
  | some (.rt d S1), p => exact p
  | some (.bk ρ1 S1), p => exact p
  | some (.ct ρ1 S1), p => exact p
  | some (.ex c ρ1 S1), p => exact p
theorem gss_one {st : Stmt} {m : SS} (h1 : GS X W st m) : GSs X W [st] m := pss_one h1
theorem gs_continue : GS X W (.Continue pos) sCt := ps_continue.imp fun D σ H ⟨ι, ρ, S, s, r, p⟩ => p ι H σ .refl s r
theorem gs_expr (he : GE X W e ma) (hs : swapsWith e none pos.line X.env = pure false := by rfl) : GS X W (.Expr e pos) (sExp ma) := (ps_expr he hs).imp fun D σ H ⟨ι, ρ, S, s, r, p⟩ =>
  ⟨ι, ρ, S, s, r, PoS.bo r p fun d S1 ι1 H1 x e1 s1 r1 r2 p1 => p1 ι1 H1 σ .refl s1 r2⟩
theorem gs_ret (he : GE X W e ma) : GS X W (.Return (some e) pos) (sRet ma) := (ps_ret he).imp fun D σ H ⟨ι, ρ, S, s, r, p⟩ =>
  ⟨ι, ρ, S, s, r, PoS.bo r p fun d S1 ι1 H1 x e1 s1 r1 r2 p1 => p1 ι1 H1 x .refl s1 r1⟩
theorem gs_if {t : ST} {p q : List Stmt} {m m' : SS} (hc : GT X W c t) (ha : GSs X W p m) (hb : GSs X W q m') : GS X W (.If c p q pos) (sIf t m m') := (ps_if hc ha hb).imp fun D σ H ⟨ι, ρ, S, s, r, p⟩ => by
  refine ⟨ι, ρ, S, s, r, PoS.bo r p fun d S1 ι1 H1 x e1 s1 r1 r2 p1 => ?_⟩
  obtain rfl : x = d := r1
  cases x with
  | true => rw [if_pos rfl] at p1 ⊢; exact ⟨ι1, ρ, S1, s1, r2, p1⟩
  | false => rw [if_neg Bool.false_ne_true] at p1 ⊢; exact ⟨ι1, ρ, S1, s1, r2, p1⟩
/-- σ' is σ but at these places -/
def Off (sl : List Nat) (σ σ' : L2.St) : Prop := σ'.length = σ.length ∧ ∀ i, i ∉ sl → σ'[i]? = σ[i]?
theorem Off.refl {sl : List Nat} {σ : L2.St} : Off sl σ σ := ⟨rfl, fun _ _ => rfl⟩
theorem Off.trans {sl sl' : List Nat} {σ σ' σ'' : L2.St} (a : Off sl σ σ') (b : Off sl' σ' σ'') : Off (sl ++ sl') σ σ'' :=
  ⟨b.1.trans a.1, fun i h => by simp only [List.mem_append, not_or] at h; exact (b.2 i h.2).trans (a.2 i h.1)⟩
theorem wipe_get (σ : L2.St) : ∀ (vs : List Nat) (i : Nat), (L2.wipe σ vs)[i]? = if i ∈ vs ∧ i < σ.length then some none else σ[i]?
  | [], i => by simp [L2.wipe]
  | v :: vs, i => by
    unfold L2.wipe
    by_cases hv : v = i
    · subst hv
      by_cases hl : v < σ.length
      · rw [List.getElem?_set_self (by rw [L2.wipe_length]; exact hl)]
        simp [hl]
      · rw [List.getElem?_eq_none (by simp [L2.wipe_length]; omega)]
        simp [hl]
    · rw [List.getElem?_set_ne hv, wipe_get σ vs i]
      have : (i ∈ v :: vs) ↔ i ∈ vs := by simp [Ne.symm hv]
      simp [this]
theorem Off.wipe {sl own : List Nat} {σ σ' : L2.St} (h : Off sl σ σ') (k : ∀ i ∈ sl, i ∈ own) : L2.wipe σ' own = L2.wipe σ own := by
  apply List.ext_getElem?
  intro i
  rw [wipe_get, wipe_get, h.1]
  by_cases hi : i ∈ own
  · by_cases hl : i < σ.length
    · simp [hi, hl]
    · have h1 : σ[i]? = none := List.getElem?_eq_none (by omega)
      have h2 : σ'[i]? = none := List.getElem?_eq_none (by rw [h.1]; omega)
      simp [hl, h1, h2]
  · simp only [hi, false_and, if_false]
    exact h.2 i fun z => hi (k i z)
def tG (K : KW) (g : SG) (sl : List Nat) : TG := fun v σ H Q => ∃ ι ρ S d ρ' S', Sim K ι S H ∧ EnvR K ι H ρ σ ∧ Rep K ι H d v ∧ g d ρ S = some (ρ', S') ∧
  ∀ ι' H' σ', Ext ι H ι' H' → Sim K ι' S' H' → EnvR K ι' H' ρ' σ' → Off sl σ σ' → Q σ' H'
def tGs (K : KW) (gs : List SG) (sl : List Nat) : TGs := fun vs σ H Q => ∃ ι ρ S ds ρ' S', Sim K ι S H ∧ EnvR K ι H ρ σ ∧ RepL K ι H ds vs ∧ gAll gs ds ρ S = some (ρ', S') ∧
  ∀ ι' H' σ', Ext ι H ι' H' → Sim K ι' S' H' → EnvR K ι' H' ρ' σ' → Off sl σ σ' → Q σ' H'
def GG (X : Cx) (e : Expr) (g : SG) (sl : List Nat) : Prop := PG X e (tG X.KW g sl)
def GGs (X : Cx) (es : List Expr) (gs : List SG) (sl : List Nat) : Prop := PGs X es (tGs X.KW gs sl)
theorem _root_.L2.PG.imp {e : Expr} {t t' : TG} (h : PG X e t) (k : ∀ v σ H Q, t' v σ H Q → t v σ H Q) : PG X e t' := ⟨fun pins s σ H v u Q I r q => h.run pins s σ H v u Q I r (k _ _ _ _ q)⟩
theorem _root_.L2.PGs.imp {es : List Expr} {t t' : TGs} (h : PGs X es t) (k : ∀ v σ H Q, t' v σ H Q → t v σ H Q) : PGs X es t' := ⟨fun pins s σ H v u Q I r q => h.run pins s σ H v u Q I r (k _ _ _ _ q)⟩
theorem gg_name (i : Nat) {x : Str} (hN : X.N.Nodup) (hi : X.N[i]? = some x := by rfl) (hx : Loc X.env.scope x := by first | exact Or.inl rfl | exact Or.inr rfl) (hf : X.fn x = true ∨ X.env.scope.names.lookup x = some .local := by first | exact .inl rfl | exact .inr rfl) : GG X (.Name x pos) (gName i) [i] :=
  (pg_name hN hi hx hf).imp fun v σ H Q ⟨ι, ρ, S, d, ρ', S', s, r, rd, g, k⟩ => by
    unfold Z.gName at g
    cases g
    exact k ι H _ .refl s (r.set rd) ⟨by simp, fun j hj => by rw [List.getElem?_set_ne (by rintro rfl; simp at hj)]⟩
theorem ggs_nil : GGs X [] [] [] := pgs_nil.imp fun vs σ H Q ⟨ι, ρ, S, ds, ρ', S', s, r, rd, g, k⟩ => by
  match ds, g with
  | [], g =>
    unfold gAll at g
    cases g
    rw [RepL] at rd
    exact ⟨rd, k ι H σ .refl s r .refl⟩
  | _ :: _, g => unfold gAll at g; cases g
theorem ggs_cons {es : List Expr} {g : SG} {gs : List SG} {sl sl' : List Nat} (h1 : GG X e g sl) (h2 : GGs X es gs sl')
    (hs : (assignEach (e :: es) X.env).map (·.2) = assign e X.env :: (assignEach es X.env).map (·.2) := by rfl) : GGs X (e :: es) (g :: gs) (sl ++ sl') := (pgs_cons h1 h2 hs).imp fun vs σ H Q ⟨ι, ρ, S, ds, ρ', S', s, r, rd, q, k⟩ => by
  match ds, q with
  | [], q => unfold gAll at q; cases q
  | d :: ds, q =>
    unfold gAll at q
    rw [RepL] at rd
    obtain ⟨v, vr, rfl, rv, rr⟩ := rd
    refine ⟨v, vr, rfl, ?_⟩
    match q1 : g d ρ S, q with
    | some (ρ1, S1), q =>
      refine ⟨ι, ρ, S, d, ρ1, S1, s, r, rv, q1, fun ι1 H1 σ1 e1 s1 r1 o1 => ?_⟩
      exact ⟨ι1, ρ1, S1, ds, ρ', S', s1, r1, RepL.ext e1 _ _ rr, q, fun ι2 H2 σ2 e2 s2 r2 o2 => k ι2 H2 σ2 (e1.trans e2) s2 r2 (o1.trans o2)⟩
theorem gAll_len : ∀ {gs : List SG} {ds : List D} {ρ : Env} {S : Store} {o : Env × Store}, gAll gs ds ρ S = some o → ds.length = gs.length
  | [], [], _, _, _, _ => rfl
  | [], _ :: _, _, _, _, h => by unfold gAll at h; cases h
  | _ :: _, [], _, _, _, h => by unfold gAll at h; cases h
  | g :: gs, d :: ds, ρ, S, o, h => by
    unfold gAll at h
    match q : g d ρ S, h with
    | some (ρ1, S1), h => simp [gAll_len h]
theorem gg_tup {es : List Expr} {k : Nat} {gs : List SG} {sl : List Nat} (hc : X.calm = true) (h : GGs X es gs sl) (hn : (assignEach es X.env).length = gs.length := by rfl) (hst : (assignEach es X.env).findIdx? (·.1) = none := by rfl) : GG X (.Tuple es k pos) (Z.gTup gs) sl :=
  (pg_tup (n := gs.length) hc h hn hst).imp fun v σ H Q ⟨ι, ρ, S, d, ρ', S', s, r, rd, q, k⟩ => by
    match d, q with
    | .tup ds, q =>
      rw [Rep] at rd
      obtain ⟨a, vs, rfl, h1, h2⟩ := rd
      have q' : gAll gs ds ρ S = some (ρ', S') := q
      exact ⟨a, vs, rfl, h1.sq, by rw [h2.length, gAll_len q'], ι, ρ, S, ds, ρ', S', s, r, h2, q', k⟩
theorem gs_asg {tg : Expr} {g : SG} {sl : List Nat} (he : GE X W e ma) (hg : GG X tg g sl) (hs : swapsWithSole [tg] e pos.line X.env = pure false := by rfl) (hw : swappedStores [tg] e X.env = pure none := by rfl)
    (h1 : (assignEach [tg] X.env).map (·.2) = [assign tg X.env] := by rfl) : GS X W (.Assign [tg] e pos) (sAsg ma g) := (ps_asg he hg hs hw h1).imp fun D σ H ⟨ι, ρ, S, s, r, p⟩ => by
  refine ⟨ι, ρ, S, s, r, PoS.bo r p fun d S1 ι1 H1 x e1 s1 r1 r2 p1 => ?_⟩
  match q : g d ρ S1, p1 with
  | some (ρ2, S2), p1 => exact ⟨ι1, ρ, S1, d, ρ2, S2, s1, r2, r1, q, fun ι2 H2 σ2 e2 s2 r3 _ => p1 ι2 H2 σ2 e2 s2 r3⟩
theorem gs_set (i : Nat) {x : Str} {pos' : Pos} (hN : X.N.Nodup) (he : GE X W e ma) (hi : X.N[i]? = some x := by rfl) (hx : Loc X.env.scope x := by first | exact Or.inl rfl | exact Or.inr rfl) (hs : swapsWith e (some (.Name x pos')) pos.line X.env = pure false := by rfl) (hf : X.fn x = true ∨ X.env.scope.names.lookup x = some .local := by first | exact .inl rfl | exact .inr rfl) :
    GS X W (.Assign [.Name x pos'] e pos) (sAsg ma (Z.gName i)) := (ps_set hN hi hx he hs hf).imp fun D σ H ⟨ι, ρ, S, s, r, p⟩ => by
  refine ⟨ι, ρ, S, s, r, PoS.bo r p fun d S1 ι1 H1 x e1 s1 r1 r2 p1 => ?_⟩
  exact p1 ι1 H1 _ .refl s1 (r2.set r1)
/-- the loop ends within n turns, so -/
def whN (t : ST) (b : SS) : Nat → Env → Store → Out → Prop
  | 0, _, _, _ => False
  | n + 1, ρ, S, o => match t ρ S with
    | none => False
    | some (.ex c S1) => o = .ex c ρ S1
    | some (.ok false S1) => o = .nx ρ S1
    | some (.ok true S1) => match b ρ S1 with
      | none => False
      | some (.nx ρ2 S2) => whN t b n ρ2 S2 o
      | some (.ct ρ2 S2) => whN t b n ρ2 S2 o
      | some (.bk ρ2 S2) => o = .nx ρ2 S2
      | some (.rt d S2) => o = .rt d S2
      | some (.ex c ρ2 S2) => o = .ex c ρ2 S2
theorem sWh_ends (t : ST) (b : SS) : ∀ (ρ : Env) (S : Store) (o : Out), sWh t b ρ S = some o → ∃ n, whN t b n ρ S o :=
  sWh.partial_correctness t b (fun ρ S o => ∃ n, whN t b n ρ S o) fun f ih ρ S o h => by
    match g : t ρ S, h with
    | none, h => cases h
    | some (.ex c S1), h => cases h; exact ⟨1, by unfold whN; rw [g]⟩
    | some (.ok false S1), h => cases h; exact ⟨1, by unfold whN; rw [g]⟩
    | some (.ok true S1), h =>
      dsimp only at h
      match g2 : b ρ S1, h with
      | none, h => cases h
      | some (.nx ρ2 S2), h => obtain ⟨n, q⟩ := ih ρ2 S2 o h; exact ⟨n + 1, by unfold whN; rw [g]; simp only [g2]; exact q⟩
      | some (.ct ρ2 S2), h => obtain ⟨n, q⟩ := ih ρ2 S2 o h; exact ⟨n + 1, by unfold whN; rw [g]; simp only [g2]; exact q⟩
      | some (.bk ρ2 S2), h => cases h; exact ⟨1, by unfold whN; rw [g]; simp only [g2]⟩
      | some (.rt d S2), h => cases h; exact ⟨1, by unfold whN; rw [g]; simp only [g2]⟩
      | some (.ex c ρ2 S2), h => cases h; exact ⟨1, by unfold whN; rw [g]; simp only [g2]⟩
theorem gs_while {t : ST} {body : List Stmt} {m : SS} (hp : PassesOwn (model X.prog X.w) X.A X.env X.xe) (hc : GT X W c t) (hb : GSs X W body m) : GS X W (.While c body [] pos) (sWh t m) := (ps_while hp hc hb).imp fun D σ H ⟨ι, ρ, S, s, r, p⟩ => by
  match g : sWh t m ρ S, p with
  | some o, p =>
    obtain ⟨n, hn⟩ := sWh_ends t m ρ S o g
    refine ⟨fun n σ H => ∃ ι ρ S, Sim X.KW ι S H ∧ EnvR X.KW ι H ρ σ ∧ whN t m n ρ S o ∧ PoS X.KW X.mg W ι H D (some o), ⟨n, ι, ρ, S, s, r, hn, p⟩, ?_⟩
    rintro n σ H ⟨ι, ρ, S, s, r, hn, p⟩
    refine ⟨ι, ρ, S, s, r, ?_⟩
    cases n with
    | zero => exact hn.elim
    | succ n =>
      unfold whN at hn
      match g1 : t ρ S, hn with
      | some (.ex c S1), hn => subst hn; exact fun ι1 H1 cls e1 s1 g1 => p ι1 H1 σ cls e1 s1 (r.ext e1) g1
      | some (.ok false S1), hn =>
        subst hn
        intro ι1 H1 x e1 s1 r1
        obtain rfl : x = false := r1
        rw [if_neg Bool.false_ne_true]
        exact p ι1 H1 σ e1 s1 (r.ext e1)
      | some (.ok true S1), hn =>
        intro ι1 H1 x e1 s1 r1
        obtain rfl : x = true := r1
        rw [if_pos rfl]
        refine ⟨fun σ' H' => ∃ ι ρ S, Sim X.KW ι S H' ∧ EnvR X.KW ι H' ρ σ' ∧ whN t m n ρ S o ∧ PoS X.KW X.mg W ι H' D (some o), fun σ' H' h => ⟨n, Nat.lt_succ_self n, h⟩, ι1, ρ, S1, s1, r.ext e1, ?_⟩
        have p := PoS.mono e1 p
        simp only [] at hn
        match g2 : m ρ S1, hn with
        | some (.nx ρ2 S2), hn => exact fun ι2 H2 σ2 e2 s2 r2 => ⟨ι2, ρ2, S2, s2, r2, hn, PoS.mono e2 p⟩
        | some (.ct ρ2 S2), hn => exact fun ι2 H2 σ2 e2 s2 r2 => ⟨ι2, ρ2, S2, s2, r2, hn, PoS.mono e2 p⟩
        | some (.bk ρ2 S2), hn => subst hn; exact fun ι2 H2 σ2 e2 s2 r2 => p ι2 H2 σ2 e2 s2 r2
        | some (.rt d S2), hn => subst hn; exact p
        | some (.ex c ρ2 S2), hn => subst hn; exact p
/-- j walks J -/
def RItm (K : KW) (ι : List Addr) (H : Hp) (J : Itm) (j : It) : Prop := ∀ ι' H' S', Ext ι H ι' H' → Sim K ι' S' H' → J.chk S' →
  (∀ i x, J.xs[i]? = some x → j.go i H' ∧ ∀ v H'', j.yld i H' v H'' → Ext ι' H' ι' H'' ∧ Sim K ι' S' H'' ∧ Rep K ι' H'' x v) ∧ j.stop J.xs.length H'
theorem RItm.ext {K : KW} {ι ι' : List Addr} {H H' : Hp} {J : Itm} {j : It} (e : Ext ι H ι' H') (h : RItm K ι H J j) : RItm K ι' H' J j := fun ι2 H2 S2 e2 s c => h ι2 H2 S2 (e.trans e2) s c
def tI (K : KW) (mg : Mg) (W : WX) (m : SI) : TI := fun σ H R => ∃ ι ρ S, Sim K ι S H ∧ EnvR K ι H ρ σ ∧ Po (RItm K) K mg ι H R (fun cls d H' => W cls d σ H') (m ρ S)
def GI (X : Cx) (W : WX) (tg iter : Expr) (m : SI) : Prop := PI X tg iter (tI X.KW X.mg W m)
theorem _root_.L2.PI.imp {tg iter : Expr} {t t' : TI} (h : PI X tg iter t) (k : ∀ σ H Q, t' σ H Q → t σ H Q) : PI X tg iter t' := ⟨fun pins s σ H R I q => h.run pins s σ H R I (k _ _ _ q)⟩
theorem forL_step {chk : Store → Prop} {g : SG} {m : SS} {x : D} {r : List D} {ρ : Env} {S : Store} (hc : chk S) : forL chk g m (x :: r) ρ S = (match g x ρ S with
      | none => none
      | some (ρ1, S1) => match m ρ1 S1 with
        | some (.nx ρ2 S2) => forL chk g m r ρ2 S2
        | some (.ct ρ2 S2) => forL chk g m r ρ2 S2
        | some (.bk ρ2 S2) => some (.nx ρ2 S2)
        | o => o) := by
  rw [forL, if_pos hc]
  all_goals rfl
theorem gs_for {tg iter : Expr} {it : SI} {g : SG} {sl : List Nat} {body : List Stmt} {m : SS} (hp : PassesOwn (model X.prog X.w) X.A X.env X.xe) (hc : X.calm = true) (hi : GI X W tg iter it) (hg : GG X tg g sl) (hb : GSs X W body m)
    (hs : ∀ x, foldedSetIterable iter X.env x = pure x := by intro _; rfl) : GS X W (.For tg iter body [] pos) (sFor it g m) := (ps_for hp hc hi hg hb hs).imp fun D σ H ⟨ι, ρ, S, s, r, p⟩ => by
  refine ⟨ι, ρ, S, s, r, PoS.bo r p fun J S1 ι1 H1 j e1 s1 r1 r2 p1 => ?_⟩
  refine ⟨fun i n σ' H' => ∃ ι' ρ' S', Ext ι1 H1 ι' H' ∧ Sim X.KW ι' S' H' ∧ EnvR X.KW ι' H' ρ' σ' ∧ n = J.xs.length - i ∧ i ≤ J.xs.length ∧ PoS X.KW X.mg W ι' H' D (forL J.chk g m (J.xs.drop i) ρ' S'), ⟨J.xs.length, ι1, ρ, S1, .refl, s1, r2, rfl, Nat.zero_le _, p1⟩, ?_⟩
  rintro i n σ' H' ⟨ι', ρ', S', e', s', r', hn, hi, p'⟩
  by_cases hck : J.chk S'
  rotate_left
  · exfalso
    cases q : J.xs.drop i with
    | nil => rw [q, forL, if_neg hck] at p'; exact p'
    | cons x t => rw [q, forL, if_neg hck] at p'; exact p'
  obtain ⟨hitem, hstop⟩ := r1 ι' H' S' e' s' hck
  by_cases hlt : i < J.xs.length
  · refine .inr ⟨(hitem i _ (List.getElem?_eq_getElem hlt)).1, ?_⟩
    rw [List.drop_eq_getElem_cons hlt, forL_step hck] at p'
    match q : g J.xs[i] ρ' S', p' with
    | some (ρ2, S2), p' =>
      simp only [] at p'
      refine ⟨fun σ3 H3 => ∃ ι3 ρ3 S3, Ext ι1 H1 ι3 H3 ∧ Sim X.KW ι3 S3 H3 ∧ EnvR X.KW ι3 H3 ρ3 σ3 ∧ PoS X.KW X.mg W ι3 H3 D (forL J.chk g m (J.xs.drop (i + 1)) ρ3 S3), fun σ3 H3 ⟨ι3, ρ3, S3, a1, a2, a3, a4⟩ => ⟨n - 1, by omega, ι3, ρ3, S3, a1, a2, a3, by omega, by omega, a4⟩, fun v H2 y => ?_⟩
      obtain ⟨e2, s2, rv⟩ := (hitem i _ (List.getElem?_eq_getElem hlt)).2 v H2 y
      refine ⟨ι', ρ', S', J.xs[i], ρ2, S2, s2, r'.ext e2, rv, q, fun ι3 H3 σ3 e3 s3 r3 _ => ?_⟩
      have eT : Ext ι1 H1 ι3 H3 := (e'.trans e2).trans e3
      have p' := PoS.mono (e2.trans e3) p'
      refine ⟨ι3, ρ2, S2, s3, r3, ?_⟩
      match q2 : m ρ2 S2, p' with
      | none, p' => exact p'
      | some (.nx ρ4 S4), p' => exact fun ι4 H4 σ4 e4 s4 r4 => ⟨ι4, ρ4, S4, eT.trans e4, s4, r4, PoS.mono e4 p'⟩
      | some (.ct ρ4 S4), p' => exact fun ι4 H4 σ4 e4 s4 r4 => ⟨ι4, ρ4, S4, eT.trans e4, s4, r4, PoS.mono e4 p'⟩
      | some (.bk ρ4 S4), p' => exact p'
      | some (.rt d S4), p' => exact p'
      | some (.ex c ρ4 S4), p' => exact p'
  · have e : i = J.xs.length := by omega
    subst e
    refine .inl ⟨hstop, ?_⟩
    rw [List.drop_length, forL, if_pos hck] at p'
    exact p' ι' H' σ' .refl s' r'
def GTs (X : Cx) (W : WX) (es : List Expr) (m : ST) : Prop := PTs X es (tT X.KW X.mg W m)
theorem _root_.L2.PTs.imp {es : List Expr} {t t' : TT} (h : PTs X es t) (k : ∀ σ H Q, t' σ H Q → t σ H Q) : PTs X es t' := ⟨fun pins s σ H Q I q => h.run pins s σ H Q I (k _ _ _ q)⟩
theorem gts_nil : GTs X W [] Z.tYes := pts_nil.imp fun σ H Q ⟨ι, ρ, S, s, r, p⟩ => Po.ret p s rfl
abbrev W0 : WX := fun _ _ _ _ => False
theorem lcL_step {chk : Store → Prop} {g : SG} {t : ST} {m : SE} {l : Nat} {x : D} {r : List D} {ρ : Env} {S : Store} (hc : chk S) : lcL chk g t m l (x :: r) ρ S = (match g x ρ S with
      | none => none
      | some (ρ1, S1) => Z.bq (t ρ1 S1) fun b S2 => if b = true then Z.bq (m ρ1 S2) fun y S3 => (match S3[l]? with
            | some (.lst acc) => if acc.length < LINE then lcL chk g t m l r ρ (S3.set l (.lst (acc ++ [y]))) else none
            | _ => none)
          else lcL chk g t m l r ρ S2) := by
  rw [lcL, if_pos hc]
  all_goals rfl
theorem lc_read {it : SI} {g : SG} {t : ST} {m : SE} {own sl : List Nat} {σ : L2.St} {H : Hp} {Q : VK} (hsl : ∀ i ∈ sl, i ∈ own)
    (h : tE X.KW X.mg W (eLc it g t m own) σ H Q) : tLc (tI X.KW X.mg W it) (tG X.KW g sl) (tT X.KW X.mg W0 t) (tE X.KW X.mg W0 m) own σ H Q := by
  obtain ⟨ι, ρ, S, s, r, p⟩ := h
  refine ⟨ι, ρ, S, s, r, ?_⟩
  unfold eLc at p
  match g0 : it ρ S, p with
  | none, p => exact p
  | some (.ex _ _), p => exact p
  | some (.ok J S1), p =>
  rw [bd_ok] at p
  intro ι1 H1 j e1 s1 r1 Da hD
  have p := Po.mono e1 p
  have hl1 : ι1.length = S1.length := s1.len
  have eD : Ext ι1 H1 (ι1 ++ [Da]) (upd H1 Da (.lst [])) := ext_new hD
  have r2 := ((r.ext e1).ext eD).wipe own
  have atD : ∀ {ι' H'}, Ext (ι1 ++ [Da]) (upd H1 Da (.lst [])) ι' H' → ι'[S1.length]? = some Da := fun e => e.at (by rw [← hl1, List.getElem?_append_right (Nat.le_refl _)]; simp)
  refine ⟨fun i n H' => ∃ ι' S', Ext (ι1 ++ [Da]) (upd H1 Da (.lst [])) ι' H' ∧ Sim X.KW ι' S' H' ∧ n = J.xs.length - i ∧ i ≤ J.xs.length ∧ Po (Rep X.KW) X.KW X.mg ι' H' Q (fun cls d H' => W cls d σ H') (lcL J.chk g t m S1.length (J.xs.drop i) (Z.wipe ρ own) S'),
    ⟨J.xs.length, _, _, .refl, s1.newL hD (by rw [RepL]), rfl, Nat.zero_le _, Po.mono eD p⟩, ?_⟩
  rintro i n H' ⟨ι', S', e', s', hn, hi, p'⟩
  by_cases hck : J.chk S'
  rotate_left
  · exfalso
    cases q : J.xs.drop i with
    | nil => rw [q, lcL, if_neg hck] at p'; exact p'
    | cons x t => rw [q, lcL, if_neg hck] at p'; exact p'
  obtain ⟨hitem, hstop⟩ := r1 ι' H' S' (eD.trans e') s' hck
  by_cases hlt : i < J.xs.length
  · refine .inr ⟨(hitem i _ (List.getElem?_eq_getElem hlt)).1, ?_⟩
    rw [List.drop_eq_getElem_cons hlt, lcL_step hck] at p'
    match q : g J.xs[i] (Z.wipe ρ own) S', p' with
    | some (ρ2, S2), p' =>
      dsimp only at p'
      refine ⟨fun H3 => ∃ ι3 S3, Ext (ι1 ++ [Da]) (upd H1 Da (.lst [])) ι3 H3 ∧ Sim X.KW ι3 S3 H3 ∧ Po (Rep X.KW) X.KW X.mg ι3 H3 Q (fun cls d H' => W cls d σ H') (lcL J.chk g t m S1.length (J.xs.drop (i + 1)) (Z.wipe ρ own) S3),
        fun H3 ⟨ι3, S3, a1, a2, a3⟩ => ⟨n - 1, by omega, ι3, S3, a1, a2, by omega, by omega, a3⟩, fun v H2 y => ?_⟩
      obtain ⟨e2, s2, rv⟩ := (hitem i _ (List.getElem?_eq_getElem hlt)).2 v H2 y
      refine ⟨ι', Z.wipe ρ own, S', J.xs[i], ρ2, S2, s2, (r2.ext e').ext e2, rv, q, fun ι3 H3 σ3 e3 s3 r3 o3 => ⟨?_, ?_⟩⟩
      · rw [o3.wipe hsl]
        apply List.ext_getElem?
        intro k
        rw [wipe_get, wipe_get, L2.wipe_length]
        by_cases hk : k ∈ own ∧ k < σ.length <;> simp [hk]
      have p' := Po.mono (e2.trans e3) p'
      have eT := (e'.trans e2).trans e3
      refine ⟨ι3, ρ2, S2, s3, r3, ?_⟩
      match q2 : t ρ2 S2, p' with
      | none, p' => exact p'
      | some (.ex _ _), p' => exact p'.elim
      | some (.ok b S4), p' =>
        rw [bq_ok] at p'
        intro ι4 H4 x e4 s4 r4
        obtain rfl : x = b := r4
        have p' := Po.mono e4 p'
        cases x with
        | false => rw [if_neg Bool.false_ne_true] at p' ⊢; exact ⟨ι4, S4, eT.trans e4, s4, p'⟩
        | true =>
          rw [if_pos rfl] at p' ⊢
          refine ⟨ι4, ρ2, S4, s4, r3.ext e4, ?_⟩
          match q5 : m ρ2 S4, p' with
          | none, p' => exact p'
          | some (.ex _ _), p' => exact p'.elim
          | some (.ok d S5), p' =>
            rw [bq_ok] at p'
            intro ι5 H5 v5 e5 s5 r5
            have p' := Po.mono e5 p'
            have e5T := (eT.trans e4).trans e5
            match q6 : S5[S1.length]?, p' with
            | some (.lst acc), p' =>
              dsimp only at p'
              by_cases hz : acc.length < LINE
              rotate_left
              · rw [if_neg hz] at p'; exact p'.elim
              rw [if_pos hz] at p'
              obtain ⟨vs, hv, hr⟩ := s5.get (atD e5T) q6
              refine ⟨vs, hv, by rw [hr.length]; rw [LINE_eq] at hz; exact hz, ?_⟩
              have em : Ext ι5 H5 ι5 (upd H5 Da (.lst (vs ++ [v5]))) := ext_mut hv trivial
              exact ⟨ι5, S5.set S1.length (.lst (acc ++ [d])), e5T.trans em, s5.put (atD e5T) ⟨_, upd_same, RepL.ext em _ _ (hr.append (RepL.one r5))⟩ ⟨_, hv, trivial⟩, Po.mono em p'⟩
            | some (.dct _), p' => exact p'.elim
            | some (.st _), p' => exact p'.elim
            | some (.ins _ _), p' => exact p'.elim
            | some (.exn _), p' => exact p'.elim
            | some (.dkl _), p' => exact p'.elim
            | some (.dk _), p' => exact p'.elim
            | none, p' => exact p'.elim
  · have e : i = J.xs.length := by omega
    subst e
    refine .inl ⟨hstop, ?_⟩
    rw [List.drop_length, lcL, if_pos hck] at p'
    exact Po.ret p' s' (by rw [Rep]; exact ⟨Da, rfl, atD e'⟩)
end
end Z
namespace Z
open PySem PySem.Spec PyProof.Rows L2
section
variable {K : KW} {mg : Mg} {ι ι' ι'' : List Addr} {H H' : Hp}
theorem EnvR.start {N : List Str} {ds : List D} {vs : List V} (r : RepL K ι H ds vs) (hl : ds.length ≤ N.length) : EnvR K ι H (env0 N.length ds) (L2.start N vs) := by
  unfold env0 L2.start
  refine ⟨by simp [r.length], fun i d h => ?_⟩
  by_cases hi : i < ds.length
  · rw [List.getElem?_append_left (by simpa using hi), List.getElem?_map, List.getElem?_eq_getElem hi] at h
    simp only [Option.map_some, Option.some.injEq] at h
    obtain ⟨v, h1, h2⟩ := r.get (List.getElem?_eq_getElem hi)
    subst h
    refine ⟨v, ?_, h2⟩
    rw [List.getElem?_append_left (by rw [List.length_map, r.length]; exact hi), List.getElem?_map, h1]; rfl
  · rw [List.getElem?_append_right (by simpa using hi), List.getElem?_replicate] at h
    split at h <;> cases h
end
section
variable {P : Program} {w : World} {K : PySem.W.Frag} {mg : Mg} {base : Heap}
abbrev cx (P : Program) (w : World) (K : PySem.W.Frag) (mg : Mg) (base : Heap) (N : List Str) (qual : Str) (st : Stmt) (f : Addr) (cdv : Value) (A : Around) (outer : List PySem.Env) (s : Shared) (H : Hp) (E : XK) : Cx :=
  cxOf (L2.CX P w) P w K mg base N qual (defScope st) f cdv A outer s H E
abbrev wE (E : XK) : WX := fun cls d _ H => E cls d H
theorem gf_of {x : Str} {f : Addr} {fd : FuncData} {ps : List Str} {k : Nat} {F : Fn} (hm : mg x = some (.ref f)) (kp : PySem.W.keepIn K (.ref f) = true) (b : Binds K fd ps []) (h : FnG P w K mg base (L2.CX P w) k f fd ps (spF ⟨K, P, w⟩ mg F)) : GF P w K mg base x k F := ⟨f, fd, ps, hm, kp, b, h⟩
end
section
variable {X : Cx} {W : WX} {pos : Pos}
theorem ge_lc {elt tg iter : Expr} {ifs : List Expr} {scope : Scope} (own : List (Str × Nat)) {it : SI} {g : SG} {sl : List Nat} {t : ST} {m : SE} (hc : X.calm = true) (hN : X.N.Nodup) (hi : GI X W tg iter it) (ok : BlkOk X.N X.env.scope scope own)
    (hg : ∀ (s : Shared) (H : Hp) (C : Addr) (cl : List (Str × Addr)) (fp : List Addr), GG (X.blk s H scope (compEnvC scope cl C X.env) fp) tg g sl)
    (ht : ∀ (s : Shared) (H : Hp) (C : Addr) (cl : List (Str × Addr)) (fp : List Addr), GTs (X.blk s H scope (compEnvC scope cl C X.env) fp) W0 ifs t)
    (he : ∀ (s : Shared) (H : Hp) (C : Addr) (cl : List (Str × Addr)) (fp : List Addr), GE (X.blk s H scope (compEnvC scope cl C X.env) fp) W0 elt m)
    (hsl : ∀ i ∈ sl, i ∈ own.map (·.2) := by decide) (hs : ∀ x, foldedSetIterable iter X.env x = pure x := by intro _; rfl) : GE X W (.ListComp elt [⟨tg, iter, ifs, 0⟩] scope pos) (eLc it g t m (own.map (·.2))) :=
  L2.PE.imp (pe_lc (g := tG X.KW g sl) (tt := tT X.KW X.mg W0 t) (te := tE X.KW X.mg W0 m) hc hN hi ok hg ht he hs) fun σ H Q h => lc_read hsl h
end
end Z
namespace Z
open PySem PySem.Spec PyProof.Rows L2
mutual
def PD.py : PD → PyData
  | .non => .none
  | .bl b => .bool b
  | .int i => .int i
  | .str s => .str (Z.str s)
  | .lst xs => .list (pyL xs)
  | .tup xs => .tuple (pyL xs)
def pyL : List PD → List PyData
  | [] => []
  | x :: xs => PD.py x :: pyL xs
end
mutual
def PD.asc : PD → Prop
  | .str s => ∀ c ∈ s, c < 128
  | .lst xs => ascL xs
  | .tup xs => ascL xs
  | _ => True
def ascL : List PD → Prop
  | [] => True
  | x :: xs => PD.asc x ∧ ascL xs
end
theorem str_beq (a b : List Nat) : (Z.str a == Z.str b) = (a == b) := by
  by_cases h : a = b
  · subst h; simp
  · have h' : Z.str a ≠ Z.str b := fun e => h (by have := congrArg (fun z : Str => z.cps.toList) e; simpa using this)
    rw [beq_eq_false_iff_ne.mpr h, beq_eq_false_iff_ne.mpr h']
mutual
theorem py_eqv : ∀ x y : PD, PyData.eqv x.py y.py = x.eqv y
  | .non, y => by cases y <;> simp [PD.py, PyData.eqv, PD.eqv]
  | .bl a, y => by cases y <;> simp [PD.py, PyData.eqv, PD.eqv, b2i]
  | .int i, y => by cases y <;> simp [PD.py, PyData.eqv, PD.eqv, b2i]
  | .str s, y => by cases y <;> simp [PD.py, PyData.eqv, PD.eqv, str_beq]
  | .lst xs, y => by cases y <;> simp [PD.py, PyData.eqv, PD.eqv, py_eqvL xs]
  | .tup xs, y => by cases y <;> simp [PD.py, PyData.eqv, PD.eqv, py_eqvL xs]
theorem py_eqvL : ∀ xs ys : List PD, PyData.eqvAll (pyL xs) (pyL ys) = eqvL xs ys
  | [], ys => by cases ys <;> simp [pyL, PyData.eqvAll, eqvL]
  | x :: xs, ys => by cases ys <;> simp [pyL, PyData.eqvAll, eqvL, py_eqv x, py_eqvL xs]
end
mutual
theorem py_depth : ∀ x : PD, x.py.depth = x.dep
  | .non => rfl
  | .bl _ => rfl
  | .int _ => rfl
  | .str _ => rfl
  | .lst xs => by simp only [PD.py, PyData.depth, PD.dep, py_depthL xs]
  | .tup xs => by simp only [PD.py, PyData.depth, PD.dep, py_depthL xs]
theorem py_depthL : ∀ xs : List PD, PyData.depthAll (pyL xs) = depL xs
  | [] => rfl
  | x :: xs => by simp only [pyL, PyData.depthAll, depL, py_depth x, py_depthL xs]
end
mutual
theorem py_lay : ∀ x : PD, x.asc → x.py.canLay0 = true
  | .non, _ => rfl
  | .bl _, _ => rfl
  | .int _, _ => rfl
  | .str s, h => by
    rw [PD.asc] at h
    rw [PD.py, PyData.canLay0]
    unfold PyData.strOk
    rw [Array.all_eq_true']
    intro c hc
    exact decide_eq_true (Nat.lt_trans (h c (by simpa using hc)) (by decide))
  | .lst xs, h => by rw [PD.asc] at h; rw [PD.py, PyData.canLay0]; exact py_layL xs h
  | .tup xs, h => by rw [PD.asc] at h; rw [PD.py, PyData.canLay0]; exact py_layL xs h
theorem py_layL : ∀ xs : List PD, ascL xs → PyData.canLayAll0 (pyL xs) = true
  | [], _ => rfl
  | x :: xs, h => by rw [ascL] at h; rw [pyL, PyData.canLayAll0, py_lay x h.1, py_layL xs h.2]; rfl
end
theorem py_shaped {x : PD} (h : x.asc) (d : x.dep ≤ 64) : SeqAt.shaped x.py = true := by
  unfold SeqAt.shaped
  rw [py_lay x h, py_depth]
  simpa using d
section
variable {K : KW} {ι : List Addr} {H : Hp}
mutual
theorem pd_ok {g : Nat → Option PD} (hg : ∀ n y a, g n = some y → ι[n]? = some a → Dp K H (.ref a) y.py ∧ y.asc) : ∀ (d : D) (v : V) (x : PD), Rep K ι H d v → d.pd g = some x → Dp K H v x.py ∧ x.asc
  | .non, v, x, r, h => by rw [Rep] at r; rw [D.pd] at h; cases h; subst r; exact ⟨.non, trivial⟩
  | .bl b, v, x, r, h => by rw [Rep] at r; rw [D.pd] at h; cases h; subst r; exact ⟨.bl b, trivial⟩
  | .int i, v, x, r, h => by rw [Rep] at r; rw [D.pd] at h; cases h; subst r; exact ⟨.int i, trivial⟩
  | .str s, v, x, r, h => by rw [Rep] at r; rw [D.pd] at h; cases h; obtain ⟨rfl, r⟩ := r; exact ⟨.str _, r⟩
  | .tup xs, v, x, r, h => by
    rw [Rep] at r
    rw [D.pd] at h
    obtain ⟨a, vs, rfl, r1, r2⟩ := r
    obtain ⟨ys, h1, rfl⟩ := Option.map_eq_some_iff.mp h
    obtain ⟨q1, q2⟩ := pdL_ok hg xs vs ys r2 h1
    exact ⟨.tup r1.sq q1, q2⟩
  | .fl xs, v, x, r, h => by
    rw [Rep] at r
    rw [D.pd] at h
    obtain ⟨a, vs, rfl, r1, r2⟩ := r
    obtain ⟨ys, h1, rfl⟩ := Option.map_eq_some_iff.mp h
    obtain ⟨q1, q2⟩ := pdL_ok hg xs vs ys r2 h1
    exact ⟨.lst r1.seq q1, q2⟩
  | .ref n, v, x, r, h => by
    rw [Rep] at r
    rw [D.pd] at h
    obtain ⟨a, rfl, r1⟩ := r
    exact hg n x a h r1
  | .raw _, v, x, r, h => by rw [D.pd] at h; cases h
theorem pdL_ok {g : Nat → Option PD} (hg : ∀ n y a, g n = some y → ι[n]? = some a → Dp K H (.ref a) y.py ∧ y.asc) : ∀ (ds : List D) (vs : List V) (xs : List PD), RepL K ι H ds vs → pdL g ds = some xs → DpAll K H vs (pyL xs) ∧ ascL xs
  | [], vs, xs, r, h => by rw [RepL] at r; rw [pdL] at h; cases h; subst r; exact ⟨.nil, trivial⟩
  | d :: ds, vs, xs, r, h => by
    rw [RepL] at r
    rw [pdL] at h
    obtain ⟨v, t, rfl, r1, r2⟩ := r
    match g1 : d.pd g, g2 : pdL g ds, h with
    | some y, some ys, h =>
      cases h
      obtain ⟨a1, a2⟩ := pd_ok hg d v y r1 g1
      obtain ⟨b1, b2⟩ := pdL_ok hg ds t ys r2 g2
      exact ⟨.cons a1 b1, a2, b2⟩
end
theorem rdR_ok {S : Store} (s : Sim K ι S H) : ∀ (n : Nat) (r : Nat) (y : PD) (a : Addr), rdR n S r = some y → ι[r]? = some a → Dp K H (.ref a) y.py ∧ y.asc
  | 0, _, _, _, h, _ => by cases h
  | n + 1, r, y, a, h, ha => by
    unfold rdR at h
    match g : S[r]?, h with
    | some (.lst xs), h =>
      obtain ⟨ys, h1, rfl⟩ := Option.map_eq_some_iff.mp h
      obtain ⟨vs, e1, e2⟩ := s.get ha g
      obtain ⟨q1, q2⟩ := pdL_ok (rdR_ok s n) xs vs ys e2 h1
      exact ⟨.lst (SqL.of e1) q1, q2⟩
theorem dat_ok {S : Store} (s : Sim K ι S H) {d : D} {v : V} {x : PD} (r : Rep K ι H d v) (h : dat S d = some x) : Dp K H v x.py ∧ x.asc := pd_ok (rdR_ok s 70) d v x r h
theorem seq_ok {S : Store} (s : Sim K ι S H) {d : D} {v : V} {xs : List D} (r : Rep K ι H d v) (h : seqOf S d = some xs) : ∃ a vs, v = .ref a ∧ (SqL K H a vs ∨ TupAt H a vs (fK xs)) ∧ RepL K ι H xs vs := by
  cases d with
  | tup ys => rw [Rep] at r; obtain ⟨a, vs, rfl, r1, r2⟩ := r; cases h; exact ⟨a, vs, rfl, .inr r1, r2⟩
  | fl ys => rw [Rep] at r; obtain ⟨a, vs, rfl, r1, r2⟩ := r; cases h; exact ⟨a, vs, rfl, .inl r1.seq, r2⟩
  | ref n =>
    rw [Rep] at r
    obtain ⟨a, rfl, r1⟩ := r
    unfold seqOf at h
    dsimp only at h
    split at h
    · rename_i g
      cases h
      obtain ⟨vs, e1, e2⟩ := s.get r1 g
      exact ⟨a, vs, rfl, .inl (SqL.of e1), e2⟩
    · cases h
  | _ => cases h
theorem lst_ok {S : Store} (s : Sim K ι S H) {n : Nat} {v : V} {xs : List D} (r : Rep K ι H (.ref n) v) (h : S[n]? = some (.lst xs)) : ∃ a vs, v = .ref a ∧ ι[n]? = some a ∧ H a = some (.lst vs) ∧ RepL K ι H xs vs := by
  rw [Rep] at r
  obtain ⟨a, rfl, r1⟩ := r
  obtain ⟨vs, e1, e2⟩ := s.get r1 h
  exact ⟨a, vs, rfl, r1, e1, e2⟩
theorem Rep.str {s : List Nat} {v : V} (r : Rep K ι H (.str s) v) : v = .str (Z.str s) ∧ ∀ c ∈ s, c < 128 := by rw [Rep] at r; exact r
theorem RepL.nil {vs : List V} (r : RepL K ι H [] vs) : vs = [] := by rw [RepL] at r; exact r
theorem RepL.cons {d : D} {ds : List D} {vs : List V} (r : RepL K ι H (d :: ds) vs) : ∃ v r, vs = v :: r ∧ Rep K ι H d v ∧ RepL K ι H ds r := by rw [RepL] at r; exact r
theorem RepL.set {v : V} {d : D} (q : Rep K ι H d v) : ∀ {ds : List D} {vs : List V} (i : Nat), RepL K ι H ds vs → RepL K ι H (ds.set i d) (vs.set i v)
  | [], vs, i, r => by rw [r.nil]; simp [RepL]
  | x :: xs, vs, i, r => by
    obtain ⟨u, t, rfl, r1, r2⟩ := r.cons
    cases i with
    | zero => rw [List.set_cons_zero, List.set_cons_zero, RepL]; exact ⟨v, t, rfl, q, r2⟩
    | succ i => rw [List.set_cons_succ, List.set_cons_succ, RepL]; exact ⟨u, _, rfl, r1, RepL.set q i r2⟩
theorem RepL.sub {ds ds' : List D} {vs vs' : List V} (r : RepL K ι H ds vs) (hl : ds'.length = vs'.length) (h : ∀ (i : Nat) (d : D) (v : V), ds'[i]? = some d → vs'[i]? = some v → ∃ j : Nat, ds[j]? = some d ∧ vs[j]? = some v) : RepL K ι H ds' vs' :=
  .of_get hl.symm fun i d v h1 h2 => by
    obtain ⟨j, a, b⟩ := h i d v h1 h2
    obtain ⟨u, c, e⟩ := r.get a
    rw [b] at c; cases c
    exact e
theorem RepL.drop {ds : List D} {vs : List V} (r : RepL K ι H ds vs) (n : Nat) : RepL K ι H (ds.drop n) (vs.drop n) := r.sub (by simp [r.length]) fun i d v h1 h2 => ⟨n + i, by simpa using h1, by simpa using h2⟩
theorem RepL.take {ds : List D} {vs : List V} (r : RepL K ι H ds vs) (n : Nat) : RepL K ι H (ds.take n) (vs.take n) := r.sub (by simp [r.length]) fun i d v h1 h2 => by
  rw [List.getElem?_take] at h1 h2
  by_cases hi : i < n
  · exact ⟨i, by simpa [hi] using h1, by simpa [hi] using h2⟩
  · simp [hi] at h1
theorem RepL.eraseIdx {ds : List D} {vs : List V} (r : RepL K ι H ds vs) (n : Nat) : RepL K ι H (ds.eraseIdx n) (vs.eraseIdx n) := r.sub (by simp [List.length_eraseIdx, r.length]) fun i d v h1 h2 => by
  rw [List.getElem?_eraseIdx] at h1 h2
  by_cases hi : i < n
  · exact ⟨i, by simpa [hi] using h1, by simpa [hi] using h2⟩
  · exact ⟨i + 1, by simpa [hi] using h1, by simpa [hi] using h2⟩
theorem RepL.flat {ds : List D} {vs : List V} (r : RepL K ι H ds vs) : ∀ n : Nat, RepL K ι H (List.replicate n ds).flatten (List.replicate n vs).flatten
  | 0 => by simp [RepL]
  | n + 1 => by simp only [List.replicate_succ, List.flatten_cons]; exact r.append (RepL.flat r n)
theorem RepL.cut {ds : List D} {vs : List V} (r : RepL K ι H ds vs) (lo hi : Option Int) : RepL K ι H (Z.cut ds lo hi) (cutV vs lo hi) := by
  unfold Z.cut cutV
  have e : ∀ n d o, Z.sIx n d o = HT.sIx n d o := fun n d o => by cases o <;> rfl
  rw [e, e, r.length]
  exact (r.drop _).take _
end
section
variable {X : Cx}
theorem no_add : NoEx addD := by
  intro d e S c S'
  unfold addD
  split <;> (try split) <;> (try split) <;> simp [new1]
theorem zo_add : OpR X (binaryOp .Add) (r2 X addD) := by
  intro pins s σ H x y v u Q I rx ry ⟨ι, S, d, e, sm, rd, re, po⟩
  cases d <;> cases e <;> first
    | exact False.elim po
    | skip
  case int.int i j =>
    rw [Rep] at rd re
    exact op_add pins s σ H _ _ v u Q I rx ry ⟨i, j, rd, re, Po.ret po sm (by rw [Rep])⟩
  case str.str a b =>
    obtain ⟨rfl, h1⟩ := rd.str
    obtain ⟨rfl, h2⟩ := re.str
    dsimp only [addD] at po
    by_cases hl : a.length + b.length ≤ LINE
    · rw [if_pos hl] at po
      refine op_add_str pins s σ H _ _ v u Q I rx ry ⟨_, _, rfl, rfl, by rw [LINE_eq] at hl; simpa [Str.length, sizeLine] using hl, Po.ret po sm ?_⟩
      rw [Rep]
      refine ⟨?_, fun c hc => (List.mem_append.mp hc).elim (h1 c) (h2 c)⟩
      show V.str (⟨a.toArray ++ b.toArray⟩ : Str) = _
      simp
    · rw [if_neg hl] at po; exact po.elim
  case tup.tup a b =>
    rw [Rep] at rd re
    obtain ⟨p, vs, rfl, h1, h2⟩ := rd
    obtain ⟨q, ws, rfl, h3, h4⟩ := re
    dsimp only [addD] at po
    by_cases hl : a.length + b.length ≤ LINE
    · rw [if_pos hl] at po
      refine op_cat2 pins s σ H _ _ v u Q I rx ry ⟨p, q, vs, ws, rfl, rfl, h1.sq, h3.sq, by rw [h2.length, h4.length]; rw [LINE_eq] at hl; exact hl, fun e => ?_, fun _ e => ?_, fun _ _ t ht => ?_⟩
      · subst e
        have : a = [] := List.eq_nil_of_length_eq_zero (by rw [← h2.length]; rfl)
        subst this
        exact Po.ret po sm (by rw [Rep]; exact ⟨q, ws, rfl, h3, by simpa using h4⟩)
      · subst e
        have : b = [] := List.eq_nil_of_length_eq_zero (by rw [← h4.length]; rfl)
        subst this
        exact Po.ret po sm (by rw [Rep, List.append_nil]; exact ⟨p, vs, rfl, h1, h2⟩)
      · exact sm.newTup ht (h2.append h4) po
    · rw [if_neg hl] at po; exact po.elim
  case ref.ref m n =>
    dsimp only [addD] at po
    match g1 : S[m]?, g2 : S[n]?, po with
    | some (.lst a), some (.lst b), po =>
      obtain ⟨p, vs, rfl, i1, e1, r1⟩ := lst_ok sm rd g1
      obtain ⟨q, ws, rfl, i2, e2, r2⟩ := lst_ok sm re g2
      dsimp only at po
      by_cases hl : a.length + b.length ≤ LINE
      · rw [if_pos hl] at po
        refine op_cat pins s σ H _ _ v u Q I rx ry ⟨p, q, vs, ws, rfl, rfl, e1, e2, by rw [r1.length, r2.length]; rw [LINE_eq] at hl; exact hl, fun t ht => ?_⟩
        exact Po.ret (Po.mono (ext_new (t := [t]) (o := .lst (vs ++ ws)) ht) po) (sm.newL ht (r1.append r2)) (Rep.newL sm)
      · rw [if_neg hl] at po; exact po.elim
theorem no_sub : NoEx subD := by intro d e S c S'; unfold subD; split <;> simp
theorem zo_sub : OpR X (binaryOp .Sub) (r2 X subD) := by
  intro pins s σ H x y v u Q I rx ry ⟨ι, S, d, e, sm, rd, re, po⟩
  cases d <;> cases e <;> first
    | exact False.elim po
    | skip
  case int.int i j =>
    rw [Rep] at rd re
    exact op_sub pins s σ H _ _ v u Q I rx ry ⟨i, j, rd, re, Po.ret po sm (by rw [Rep])⟩
theorem no_mul : NoEx mulD := by
  intro d e S c S'
  unfold mulD
  split <;> (try split) <;> (try split) <;> simp [new1]
theorem zo_mul : OpR X (binaryOp .Mult) (r2 X mulD) := by
  intro pins s σ H x y v u Q I rx ry ⟨ι, S, d, e, sm, rd, re, po⟩
  cases d <;> cases e <;> first
    | exact False.elim po
    | skip
  case int.int i j =>
    rw [Rep] at rd re
    dsimp only [mulD] at po
    by_cases hc : (small i ∨ small j) ∨ i.natAbs.log2 + j.natAbs.log2 < 1000000
    · rw [if_pos hc] at po
      have q := Po.ret (x := V.int (i * j)) po sm (by rw [Rep])
      rcases hc with hc | hc
      · exact op_mul pins s σ H _ _ v u Q I rx ry ⟨i, j, rd, re, by rw [small_iff, small_iff] at hc; exact hc, q⟩
      · exact op_mulW pins s σ H _ _ v u Q I rx ry ⟨i, j, rd, re, hc, q⟩
    · rw [if_neg hc] at po; exact po.elim
  case ref.int m k =>
    dsimp only [mulD] at po
    match g1 : S[m]?, po with
    | some (.lst a), po =>
      obtain ⟨p, vs, rfl, i1, e1, r1⟩ := lst_ok sm rd g1
      rw [Rep] at re
      dsimp only at po
      by_cases hl : -9223372036854775808 ≤ k ∧ k < 9223372036854775808 ∧ a.length * k.toNat ≤ LINE
      · rw [if_pos hl] at po
        refine op_rep pins s σ H _ _ v u Q I rx ry ⟨p, k, vs, rfl, re, e1, hl.1, hl.2.1, by rw [r1.length]; have := hl.2.2; rw [LINE_eq] at this; exact this, fun t ht => ?_⟩
        exact Po.ret (Po.mono (ext_new (t := [t]) (o := .lst (List.replicate k.toNat vs).flatten) ht) po) (sm.newL ht (r1.flat _)) (Rep.newL sm)
      · rw [if_neg hl] at po; exact po.elim
  case tup.int a k =>
    dsimp only [mulD] at po
    rw [Rep] at rd
    rw [Rep] at re
    obtain ⟨p, vs, rfl, h1, h2⟩ := rd
    by_cases hc : 0 < a.length ∧ a.length ≤ 1000 ∧ 2 ≤ k ∧ k ≤ 1000
    · rw [if_pos hc] at po
      refine op_rep2 pins s σ H _ _ v u Q I rx ry ⟨p, k, vs, rfl, re, h1.sq, fun e => by rw [← h2.length, e] at hc; exact absurd hc.1 (by decide), hc.2.2.1, hc.2.2.2, by rw [h2.length]; exact hc.2.1, fun t ht => ?_⟩
      exact sm.newTup ht (h2.flat _) po
    · rw [if_neg hc] at po; exact po.elim
theorem no_fdiv : NoEx fdivD := by intro d e S c S'; unfold fdivD; split <;> (try split) <;> simp
theorem zo_fdiv : OpR X (binaryOp .FloorDiv) (r2 X fdivD) := by
  intro pins s σ H x y v u Q I rx ry ⟨ι, S, d, e, sm, rd, re, po⟩
  cases d <;> cases e <;> first
    | exact False.elim po
    | skip
  case int.int i j =>
    rw [Rep] at rd re
    dsimp only [fdivD] at po
    by_cases hc : 0 < j ∧ j.natAbs.log2 < 9000
    · rw [if_pos hc] at po
      exact op_fdivW pins s σ H _ _ v u Q I rx ry ⟨i, j, rd, re, hc, Po.ret po sm (by rw [Rep])⟩
    · rw [if_neg hc] at po; exact po.elim
theorem no_mod : NoEx modD := by intro d e S c S'; unfold modD; split <;> (try split) <;> simp
theorem zo_mod : OpR X (binaryOp .Mod) (r2 X modD) := by
  intro pins s σ H x y v u Q I rx ry ⟨ι, S, d, e, sm, rd, re, po⟩
  cases d <;> cases e <;> first
    | exact False.elim po
    | skip
  case int.int i j =>
    rw [Rep] at rd re
    dsimp only [modD] at po
    by_cases hc : 0 < j
    · rw [if_pos hc] at po
      exact op_mod pins s σ H _ _ v u Q I rx ry ⟨i, j, rd, re, hc, Po.ret po sm (by rw [Rep])⟩
    · rw [if_neg hc] at po; exact po.elim
theorem no_pow : NoEx powD := by intro d e S c S'; unfold powD; split <;> (try split) <;> simp
theorem zo_pow : OpR X (binaryOp .Pow) (r2 X powD) := by
  intro pins s σ H x y v u Q I rx ry ⟨ι, S, d, e, sm, rd, re, po⟩
  cases d <;> cases e <;> first
    | exact False.elim po
    | skip
  case int.int i j =>
    rw [Rep] at rd re
    dsimp only [powD] at po
    by_cases hc : 0 ≤ j ∧ j ≤ 1000000 ∧ small i
    · rw [if_pos hc] at po
      have h3 := hc.2.2
      rw [small_iff] at h3
      exact op_pow pins s σ H _ _ v u Q I rx ry ⟨i, j, rd, re, ⟨hc.1, hc.2.1, by omega⟩, Po.ret po sm (by rw [Rep])⟩
    · rw [if_neg hc] at po; exact po.elim
theorem no_neg : ∀ d S c S', negD d S ≠ some (.ex c S') := by intro d S c S'; unfold negD; split <;> simp
theorem zo_neg : UnR X (unaryOp .USub) (fun x H Q => ∃ ι S d, Sim X.KW ι S H ∧ Rep X.KW ι H d x ∧ Po (Rep X.KW) X.KW X.mg ι H Q (fun _ _ _ => False) (negD d S)) := by
  intro pins s σ H x v Q I rx ⟨ι, S, d, sm, rd, po⟩
  cases d <;> first
    | exact False.elim po
    | skip
  case int i =>
    rw [Rep] at rd
    exact un_neg pins s σ H _ v Q I rx ⟨i, rd, Po.ret po sm (by rw [Rep])⟩
theorem zo_cmp {op : CmpOp} {f : D → D → Store → M D} {p : Int → Int → Bool} (hop : OpR X (compareOp op) (rI0 fun i j => .bl (p i j))) (h : ∀ i j S, f (.int i) (.int j) S = some (.ok (.bl (p i j)) S))
    (h' : ∀ d e S, f d e S ≠ none → ∃ i j, d = .int i ∧ e = .int j) : OpR X (compareOp op) (r2 X f) := by
  intro pins s σ H x y v u Q I rx ry ⟨ι, S, d, e, sm, rd, re, po⟩
  obtain ⟨i, j, rfl, rfl⟩ := h' d e S fun z => by rw [z] at po; exact po
  rw [h] at po
  rw [Rep] at rd re
  exact hop pins s σ H _ _ v u Q I rx ry ⟨i, j, rd, re, Po.ret po sm (by rw [Rep])⟩
theorem no_lt : NoEx ltD := by intro d e S c S'; unfold ltD; split <;> simp
theorem no_le : NoEx leD := by intro d e S c S'; unfold leD; split <;> simp
theorem no_gt : NoEx gtD := by intro d e S c S'; unfold gtD; split <;> simp
theorem zo_lt : OpR X (compareOp .Lt) (r2 X ltD) := zo_cmp op_lt (fun _ _ _ => rfl) fun d e S h => by cases d <;> cases e <;> first | exact absurd rfl h | exact ⟨_, _, rfl, rfl⟩
theorem zo_le : OpR X (compareOp .LtE) (r2 X leD) := zo_cmp op_le (fun _ _ _ => rfl) fun d e S h => by cases d <;> cases e <;> first | exact absurd rfl h | exact ⟨_, _, rfl, rfl⟩
theorem zo_gt : OpR X (compareOp .Gt) (r2 X gtD) := zo_cmp op_gt (fun _ _ _ => rfl) fun d e S h => by cases d <;> cases e <;> first | exact absurd rfl h | exact ⟨_, _, rfl, rfl⟩
theorem no_eq : NoEx eqD := by intro d e S c S'; unfold eqD; split <;> (try split) <;> simp
theorem no_neL : NoEx neL := by
  intro d e S c S' h
  unfold neL at h
  split at h
  · split at h
    · split at h <;> cases h
    · cases h
  · cases h
theorem no_ne : NoEx neD := by
  intro d e S c S' h
  unfold neD at h
  split at h
  · split at h
    · cases h
    · exact no_neL _ _ _ _ _ h
  · cases h
theorem neL_inv {d e : D} {S : Store} (h : neL d e S ≠ none) : ∃ (n m : Nat) (xs ys : List D), d = .ref n ∧ e = .ref m ∧ S[n]? = some (.lst xs) ∧ S[m]? = some (.lst ys) ∧ ¬ xs.length = ys.length ∧ neL d e S = some (.ok (.bl true) S) := by
  unfold neL at h ⊢
  split at h
  · rename_i n m
    split at h
    · rename_i xs ys g1 g2
      split at h
      · exact absurd rfl h
      · rename_i hl
        refine ⟨n, m, xs, ys, rfl, rfl, g1, g2, hl, ?_⟩
        rw [if_neg hl]
    · exact absurd rfl h
  · exact absurd rfl h
theorem zo_eq (hu : X.A.units + 64 < cLine) : OpR X (compareOp .Eq) (r2 X eqD) := by
  intro pins s σ H x y v u Q I rx ry ⟨ι, S, d, e, sm, rd, re, po⟩
  unfold eqD at po
  match g1 : dat S d, g2 : dat S e, po with
  | some a, some b, po =>
    dsimp only at po
    by_cases hc : a.dep ≤ 64 ∧ b.dep ≤ 64
    · rw [if_pos hc] at po
      obtain ⟨q1, q2⟩ := dat_ok sm rd g1
      obtain ⟨q3, q4⟩ := dat_ok sm re g2
      refine op_eqD hu pins s σ H _ _ v u Q I rx ry ⟨_, _, q1, q3, py_shaped q2 hc.1, py_shaped q4 hc.2, ?_⟩
      rw [py_eqv]
      exact Po.ret po sm (by rw [Rep])
    · rw [if_neg hc] at po; exact po.elim
theorem zo_ne (hu : X.A.units + 64 < cLine) : OpR X (compareOp .NotEq) (r2 X neD) := by
  intro pins s σ H x y v u Q I rx ry ⟨ι, S, d, e, sm, rd, re, po⟩
  unfold neD at po
  match g1 : dat S d, g2 : dat S e, po with
  | some a, some b, po =>
    dsimp only at po
    by_cases hc : a.dep ≤ 64 ∧ b.dep ≤ 64
    · rw [if_pos hc] at po
      obtain ⟨q1, q2⟩ := dat_ok sm rd g1
      obtain ⟨q3, q4⟩ := dat_ok sm re g2
      refine op_neD hu pins s σ H _ _ v u Q I rx ry ⟨_, _, q1, q3, py_shaped q2 hc.1, py_shaped q4 hc.2, ?_⟩
      rw [py_eqv]
      exact Po.ret po sm (by rw [Rep])
    · rw [if_neg hc] at po
      obtain ⟨n, m, xs, ys, rfl, rfl, g3, g4, hne, hr⟩ := neL_inv (fun z => by rw [z] at po; exact po)
      rw [hr] at po
      obtain ⟨p1, vs, rfl, i1, e1, r1⟩ := lst_ok sm rd g3
      obtain ⟨p2, us, rfl, i2, e2, r2⟩ := lst_ok sm re g4
      cases rx
      cases ry
      obtain ⟨its, rv, pl, _⟩ := I.list (SqL.of e1)
      obtain ⟨its2, rv2, pl2, _⟩ := I.list (SqL.of e2)
      have hsz : (its.toArray.size != its2.toArray.size) = true := by
        have q1 := rv.length
        have q2 := rv2.length
        have q3 := r1.length
        have q4 := r2.length
        simp
        omega
      exact (SeqAt.RcNeAt.lists_lengths pl.isList pl2.isList hsz (by omega)) _ _ _ _ ⟨.bl true, H, I, rfl, Po.ret po sm (by rw [Rep])⟩
end
end Z
namespace Z
open PySem PySem.Spec PyProof.Rows L2
section
variable {X : Cx} {W : WX} {a b c e : Expr} {ma mb mc : SE} {pos : Pos}
theorem atI_eq {α : Type} (xs : List α) (i : Int) : L2.atI xs i = Z.atI xs i := rfl
theorem no_ix : NoEx ixD := by
  intro d e S c S'
  unfold ixD
  split <;> (try split) <;> (try split) <;> (try split) <;> (try split) <;> simp
theorem RepL.atI {K : KW} {ι : List Addr} {H : Hp} {ds : List D} {vs : List V} {i : Int} {d : D} (r : RepL K ι H ds vs) (h : Z.atI ds i = some d) : ∃ v, L2.atI vs i = some v ∧ Rep K ι H d v := by
  unfold Z.atI at h
  obtain ⟨j, h1, h2⟩ := Option.bind_eq_some_iff.mp h
  obtain ⟨v, h3, h4⟩ := r.get h2
  refine ⟨v, ?_, h4⟩
  unfold L2.atI
  rw [r.length]
  show (Z.ixN ds.length i).bind _ = _
  rw [h1]
  exact h3
theorem zx_ix : IxR X (r2 X ixD) := by
  intro value slice pins s σ H x y v u Q I rx ry ⟨ι, S, d, e, sm, rd, re, po⟩ hs
  unfold ixD at po
  split at po
  · rename_i i
    rw [Rep] at re
    split at po
    · rename_i z
      split at po
      · rename_i hl
        split at po
        · rename_i c hc
          obtain ⟨rfl, h2⟩ := rd.str
          have hm : c ∈ z := by
            unfold Z.atI at hc
            obtain ⟨j, _, q⟩ := Option.bind_eq_some_iff.mp hc
            exact List.mem_of_getElem? q
          exact ix_str value slice pins s σ H _ _ v u Q I rx ry ⟨_, i, c, rfl, re, by rw [LINE_eq] at hl; simpa [Str.length, sizeLine] using hl, by simpa [atI_eq] using hc, Po.ret po sm (by rw [Rep]; exact ⟨rfl, fun k hk => by simp at hk; subst hk; exact h2 _ hm⟩)⟩ hs
        · exact po.elim
      · exact po.elim
    · split at po
      · rename_i xs hx
        split at po
        · rename_i w hw
          obtain ⟨p, vs, rfl, h1, h2⟩ := seq_ok sm rd hx
          obtain ⟨t, h3, h4⟩ := h2.atI hw
          rcases h1 with h1 | h1
          · exact ix_list value slice pins s σ H _ _ v u Q I rx ry ⟨p, vs, i, t, rfl, re, h1, h3, Po.ret po sm h4⟩ hs
          · exact ix_tup value slice pins s σ H _ _ v u Q I rx ry ⟨p, vs, i, t, rfl, re, h1.sq, h3, Po.ret po sm h4⟩ hs
        · exact po.elim
      · exact po.elim
  · exact po.elim
theorem ge_ix (ha : GE X W a ma) (hb : GE X W b mb) (hs : PlainIx b := by exact fun _ _ => rfl) : GE X W (.Subscript a b pos) (e2 ixD ma mb) := (pe_ix zx_ix ha hb hs).imp fun σ H Q h => e2_read no_ix h
/-- a slice's part -/
def prt : Option SE → Env → Store → M (Option Int)
  | none, _, S => some (.ok none S)
  | some m, ρ, S => Z.bd (m ρ S) fun x S2 => match x with | .int i => some (.ok (some i) S2) | _ => none
def tO (K : KW) (mg : Mg) (W : WX) (o : Option SE) : TO := fun σ H Q => ∃ ι ρ S, Sim K ι S H ∧ EnvR K ι H ρ σ ∧ Po (fun _ _ a b => b = a) K mg ι H Q (fun cls d H' => W cls d σ H') (prt o ρ S)
def GO (X : Cx) (W : WX) (e : Option Expr) (o : Option SE) : Prop := PO X e (tO X.KW X.mg W o)
theorem go_none : GO X W none none := ⟨fun pins s σ H Q I ⟨ι, ρ, S, sm, r, p⟩ => (po_none (X := X)).run pins s σ H Q I (Po.ret p sm rfl)⟩
theorem go_some (h : GE X W e ma) : GO X W (some e) (some ma) := ⟨fun pins s σ H Q I ⟨ι, ρ, S, sm, r, p⟩ => (po_some h).run pins s σ H Q I ⟨ι, ρ, S, sm, r, Po.bd p fun d S1 ι1 H1 x e1 s1 r1 p1 => by
  cases d with
  | int i => rw [Rep] at r1; exact ⟨i, r1, Po.ret p1 s1 rfl⟩
  | _ => exact p1.elim⟩⟩
theorem zs_sl : SlR X (fun x lo hi H Q => ∃ ι S d, Sim X.KW ι S H ∧ Rep X.KW ι H d x ∧ Po (Rep X.KW) X.KW X.mg ι H Q (fun _ _ _ => False) (slD lo hi d S)) := by
  intro pins s σ H x v vl vu lo hi sl Q I rx hs pl pu ⟨ι, S, d, sm, rd, po⟩
  unfold slD at po
  split at po
  · rename_i z
    split at po
    · rename_i hl
      obtain ⟨rfl, h2⟩ := rd.str
      refine sl_str pins s σ H _ v vl vu lo hi sl Q I rx hs pl pu ⟨_, rfl, by rw [LINE_eq] at hl; simpa [Str.length, sizeLine] using hl, Po.ret po sm ?_⟩
      rw [Rep]
      refine ⟨?_, fun k hk => h2 k ?_⟩
      · unfold cutS cut
        have e : ∀ n d o, Z.sIx n d o = HT.sIx n d o := fun n d o => by cases o <;> rfl
        simp only [e, Str.length]
        simp
      · unfold cut at hk
        exact List.mem_of_mem_drop (List.mem_of_mem_take hk)
    · exact po.elim
  · rename_i xs
    rw [Rep] at rd
    obtain ⟨p, vs, rfl, h1, h2⟩ := rd
    refine sl_tup2 pins s σ H _ v vl vu lo hi sl Q I rx hs pl pu ⟨p, vs, rfl, h1.sq, fun hw => ?_, fun _ t ht => ?_⟩
    · have hc : cutV vs lo hi = vs := by unfold cutV; rw [hw.1, hw.2]; simp
      refine Po.ret po sm ?_
      rw [Rep]
      have hcx : cut xs lo hi = xs := by
        have e : ∀ n d o, Z.sIx n d o = HT.sIx n d o := fun n d o => by cases o <;> rfl
        have hl := h2.length
        unfold cut
        rw [hl] at hw
        rw [e, e, hw.1, hw.2]
        simp
      rw [hcx]
      exact ⟨p, vs, rfl, h1, h2⟩
    · exact sm.newTup ht (h2.cut lo hi) po
  · split at po
    · rename_i g
      obtain ⟨p, vs, rfl, i1, e1, r1⟩ := lst_ok sm rd g
      refine sl_list pins s σ H _ v vl vu lo hi sl Q I rx hs pl pu ⟨p, vs, rfl, SqL.of e1, fun t ht => ?_⟩
      exact Po.ret (Po.mono (ext_new (t := [t]) (o := .lst (cutV vs lo hi)) ht) po) (sm.newL ht (r1.cut lo hi)) (Rep.newL sm)
    · exact po.elim
  · exact po.elim
theorem no_sl (lo hi : Option Int) (d : D) (S : Store) (c : String) (S' : Store) : slD lo hi d S ≠ some (.ex c S') := by
  unfold slD
  split <;> (try split) <;> simp [new1]
theorem ge_sl {lo hi : Option Expr} {ol oh : Option SE} {p2 : Pos} (he : GE X W e ma) (hl : GO X W lo ol) (hh : GO X W hi oh) : GE X W (.Subscript e (.Slice lo hi none p2) pos) (eSl ma ol oh) :=
  (pe_slice zs_sl he hl hh).imp fun σ H Q ⟨ι, ρ, S, s, r, p⟩ => by
    refine ⟨ι, ρ, S, s, r, Po.bd p fun d S1 ι1 H1 x e1 s1 r1 p1 => ?_⟩
    have p1 : Po (Rep X.KW) X.KW X.mg ι1 H1 Q (fun cls d H' => W cls d σ H') (Z.bd (prt ol ρ S1) fun l S3 => Z.bd (prt oh ρ S3) fun h S5 => slD l h d S5) := by
      cases ol <;> cases oh <;> exact p1
    refine ⟨ι1, ρ, S1, s1, r.ext e1, Po.bd p1 fun l S2 ι2 H2 y e2 s2 r2 p2 => ?_⟩
    obtain rfl : y = l := r2
    refine ⟨ι2, ρ, S2, s2, (r.ext e1).ext e2, Po.bd p2 fun h S3 ι3 H3 z e3 s3 r3 p3 => ?_⟩
    obtain rfl : z = h := r3
    exact ⟨ι3, S3, d, s3, Rep.ext e3 _ _ (Rep.ext e2 _ _ r1), p3.noex fun c S' => no_sl _ _ _ _ c S'⟩
theorem one_of {ds : List D} {vs : List V} {d : D} {K : KW} {ι : List Addr} {H : Hp} (r : RepL K ι H [d] vs) : ∃ v, vs = [v] ∧ Rep K ι H d v := by
  obtain ⟨v, t, rfl, h1, h2⟩ := r.cons
  rw [h2.nil]
  exact ⟨v, rfl, h1⟩
theorem no_len : NoExF lenF := by intro ds S c S'; unfold lenF; split <;> (try split) <;> simp
theorem zc_len : CallR X (.builtin "len") (rB X lenF) := by
  intro pins s σ H xs us Q I r ⟨ι, S, ds, sm, rd, po⟩
  unfold lenF at po
  split at po
  · rename_i z
    obtain ⟨v, rfl, h⟩ := one_of (ds := []) rd
    obtain ⟨rfl, _⟩ := h.str
    split at po
    · rename_i hl
      refine call_len_str pins s σ H _ us Q I r ⟨_, rfl, by rw [LINE_eq] at hl; simpa [Str.length, sizeLine] using hl, ?_⟩
      exact Po.ret po sm (by rw [Rep]; simp [Str.length])
    · exact po.elim
  · obtain ⟨v, rfl, h⟩ := one_of (ds := []) rd
    split at po
    · rename_i xs hx
      obtain ⟨p, vs, rfl, h1, h2⟩ := seq_ok sm h hx
      refine call_len_seq pins s σ H _ us Q I r ⟨p, vs, rfl, h1.imp id TupAt.sq, ?_⟩
      exact Po.ret po sm (by rw [Rep, h2.length])
    · exact po.elim
  · exact po.elim
theorem no_tuple : NoExF tupleF := by intro ds S c S'; unfold tupleF; split <;> (try split) <;> simp
theorem zc_tuple : CallR X (.type "tuple") (rB X tupleF) := by
  intro pins s σ H xs us Q I r ⟨ι, S, ds, sm, rd, po⟩
  unfold tupleF at po
  split at po
  · obtain ⟨v, rfl, h⟩ := one_of (ds := []) rd
    split at po
    · rename_i xs hx
      obtain ⟨p, vs, rfl, h1, h2⟩ := seq_ok sm h hx
      refine call_tuple2 pins s σ H _ us Q I r ⟨p, vs, rfl, ?_⟩
      rcases h1 with h1 | h1
      · refine .inl ⟨h1, fun t ht => ?_⟩
        exact sm.newTup ht h2 po
      · exact .inr ⟨h1.sq, Po.ret po sm (by rw [Rep]; exact ⟨p, vs, rfl, h1, h2⟩)⟩
    · exact po.elim
  · exact po.elim
def Ty.nm : Ty → String
  | .str => "str" | .int => "int" | .bool => "bool" | .tuple => "tuple" | .list => "list"
def rM (X : Cx) (F : Fn) : V → List V → Hp → VK → Prop := fun x vs H Q => ∃ ι S d ds, Sim X.KW ι S H ∧ Rep X.KW ι H d x ∧ RepL X.KW ι H ds vs ∧ Po (Rep X.KW) X.KW X.mg ι H Q (fun _ _ _ => False) (F (d :: ds) S)
def Rc.nm : Rc → String
  | .list => "list" | .str => "str" | .dict => "dict"
theorem rc_ok {K : KW} {ι : List Addr} {H : Hp} {S : Store} {d : D} {v : V} {t : Rc} (s : Sim K ι S H) (r : Rep K ι H d v) (h : rcB S t d = true) : tyV K t.nm v H := by
  unfold rcB at h
  split at h
  · obtain ⟨rfl, _⟩ := r.str
    cases t <;> first | rfl | cases h
  · split at h
    · rename_i g
      obtain ⟨p, vs, rfl, i1, e1, r1⟩ := lst_ok s r g
      exact .inl ⟨rfl, _, SqL.of e1⟩
    · rename_i g
      rw [Rep] at r
      obtain ⟨a, rfl, r1⟩ := r
      obtain ⟨ks, e, _⟩ := s.get r1 g
      exact .inr (.inr (.inl ⟨rfl, .inr ⟨ks, e⟩⟩))
    · cases h
  · cases h
theorem ge_mt (t : Rc) {id : String} {F : Fn} {o : Expr} {es : List Expr} {ms : List SE} {name : Str} {apos : Pos} (n : NoExF F) (pa : PlainAttrs t.nm) (slot : Slot t.nm name id) (hty : typeOf (.builtin id) = pure (.type "method_descriptor")) (hm : MtR X id (rM X F)) (ho : GE X W o ma) (ha : GA X W (e :: es) ms)
    (hbase : attributeBase o name X.env (eval o X.env) = eval o X.env := by rfl)
    (hfew : ((backTo pos (starEach (e :: es) X.env)).all (fun x => !x.1) && (backToKw pos (keywordEach [] X.env)).all (fun x => x.1.isSome)
      && decide ((e :: es).length + ([] : List Keyword).length + (if ([] : List Keyword).isEmpty then 0 else 1) < 30)) = true := by rfl)
    (hline : (apos.endLine == pos.line) = true := by rfl) (hs : starEach (e :: es) X.env = (false, eval e X.env) :: starEach es X.env := by rfl) (hplain : (backTo pos (starEach es X.env)).any (·.1) = false := by rfl) :
    GE X W (.Call (.Attribute o name apos) (e :: es) [] pos) (eMt t F ma ms) := (pe_bm pa slot hty hm ho ha hbase hfew hline hs hplain).imp fun σ H Q ⟨ι, ρ, S, s, r, p⟩ => by
  refine ⟨ι, ρ, S, s, r, Po.bd p fun d S1 ι1 H1 x e1 s1 r1 p1 => ?_⟩
  by_cases hr : rcB S1 t d = true
  · rw [if_pos hr] at p1
    refine ⟨rc_ok s1 r1 hr, ι1, ρ, S1, s1, r.ext e1, Po.evL p1 fun ds S2 ι2 H2 vs hd e2 s2 r2 p2 => ?_⟩
    exact ⟨ι2, S2, d, ds, s2, Rep.ext e2 _ _ r1, r2, p2.noex fun c S' => n _ _ _ _⟩
  · rw [if_neg hr] at p1; exact p1.elim
theorem no_append : NoExF appendF := by intro ds S c S'; unfold appendF; split <;> (try split) <;> (try split) <;> simp
theorem zm_append : MtR X "list.append" (rM X appendF) := by
  intro pins s σ H x xs v us Q I rx r ⟨ι, S, d, ds, sm, rd, rds, po⟩
  unfold appendF at po
  split at po
  · rename_i n y heq
    cases heq
    obtain ⟨w, rfl, hw⟩ := one_of (ds := []) rds
    split at po
    · rename_i ys g
      obtain ⟨p, vs, rfl, i1, e1, r1⟩ := lst_ok sm rd g
      split at po
      · rename_i hl
        have em : Ext ι H ι (upd H p (.lst (vs ++ [w]))) := ext_mut e1 trivial
        refine mt_append pins s σ H _ _ v us Q I rx r ⟨p, vs, w, rfl, rfl, e1, by rw [r1.length]; rw [LINE_eq] at hl; exact hl, ?_⟩
        exact Po.ret (Po.mono em po) (sm.put i1 ⟨_, upd_same, RepL.ext em _ _ (r1.append (RepL.one hw))⟩ ⟨_, e1, trivial⟩) (by rw [Rep])
      · exact po.elim
    · exact po.elim
  · exact po.elim
theorem RepL.dropLast {K : KW} {ι : List Addr} {H : Hp} {ds : List D} {vs : List V} (r : RepL K ι H ds vs) : RepL K ι H ds.dropLast vs.dropLast := by
  rw [List.dropLast_eq_take, List.dropLast_eq_take, r.length]
  exact r.take _
theorem Po.ritm {K : KW} {mg : Mg} {ι : List Addr} {H : Hp} {R : It → Hp → Prop} {E : XK} {J : Itm} {S : Store} {j : It} (h : Po (RItm K) K mg ι H R E (some (.ok J S))) (s : Sim K ι S H) (r : RItm K ι H J j) : R j H := h ι H j .refl s r
theorem ritm_seq {K : KW} {ι : List Addr} {H : Hp} {xs : List D} {n : Nat} {a : Addr} (ha : ι[n]? = some a) : RItm K ι H ⟨xs, fun S => S[n]? = some (.lst xs)⟩ (Itl K a) := fun ι' H' S' e s c => by
  obtain ⟨vs, h1, h2⟩ := s.get (e.at ha) c
  refine ⟨fun i x hx => ?_, vs, SqL.of h1, by rw [h2.length]; exact Nat.le_refl _⟩
  obtain ⟨v, h3, h4⟩ := h2.get hx
  refine ⟨⟨vs, v, SqL.of h1, h3⟩, fun w H'' y => ?_⟩
  obtain ⟨rfl, y⟩ := y
  have := y vs (SqL.of h1)
  rw [h3] at this
  cases this
  exact ⟨.refl, s, h4⟩
theorem ritm_tup {K : KW} {ι : List Addr} {H : Hp} {xs : List D} {vs : List V} {a : Addr} (h1 : SqT K H a vs) (h2 : RepL K ι H xs vs) : RItm K ι H ⟨xs, fun _ => True⟩ (Itt K a) := fun ι' H' S' e s c => by
  have h1 := e.sqT h1
  have h2 := RepL.ext e _ _ h2
  refine ⟨fun i x hx => ?_, vs, h1, by rw [h2.length]; exact Nat.le_refl _⟩
  obtain ⟨v, h3, h4⟩ := h2.get hx
  refine ⟨⟨vs, v, h1, h3⟩, fun w H'' y => ?_⟩
  obtain ⟨rfl, y⟩ := y
  have := y vs h1
  rw [h3] at this
  cases this
  exact ⟨.refl, s, h4⟩
theorem ritm_fl {K : KW} {ι : List Addr} {H : Hp} {xs : List D} {vs : List V} {a : Addr} (h1 : FzL K H a vs) (h2 : RepL K ι H xs vs) : RItm K ι H ⟨xs, fun _ => True⟩ (Itl K a) := fun ι' H' S' e s c => by
  have h1 := e.fzL h1
  have h2 := RepL.ext e _ _ h2
  refine ⟨fun i x hx => ?_, vs, h1.seq, by rw [h2.length]; exact Nat.le_refl _⟩
  obtain ⟨v, h3, h4⟩ := h2.get hx
  refine ⟨⟨vs, v, h1.seq, h3⟩, fun w H'' y => ?_⟩
  obtain ⟨rfl, y⟩ := y
  have := y vs h1.seq
  rw [h3] at this
  cases this
  exact ⟨.refl, s, h4⟩
end
end Z
namespace Z
open PySem PySem.Spec PyProof.Rows L2
section
variable {X : Cx} {W : WX} {e tg : Expr} {m : SE} {pos : Pos}
theorem new_it {pins : List (Addr × Obj)} {σ : L2.St} {H : Hp} {sh : Shared} {R : It → Hp → Prop} (J : L2.Inv X pins σ H sh) (ob : Obj) {tn : Nat → Heap → Prop} {j : It}
    (tu : Turn X.prog X.w X.KW tg j [sh.heap.objs.size] sh.heap.objs.size tn) (t0 : tn 0 (sh.heap.push ob)) (q : R j H) : PIE X pins σ tg R (.ref sh.heap.objs.size) { sh with heap := sh.heap.push ob } := by
  refine ⟨_, _, tn, j, H, rfl, J.kept (t' := sh.toks) (fun b o g => Heap.get?_push_of_some _ g), tu, t0, fun b hb => ?_, q⟩
  obtain rfl : b = sh.heap.objs.size := by simpa using hb
  exact J.fpOk (Nat.le_refl _) (J.hok.fresh (Nat.le_refl _))
theorem ritm_str {K : KW} {ι : List Addr} {H : Hp} {s : List Nat} (ha : ∀ c ∈ s, c < 128) : RItm K ι H ⟨s.map fun c => .str [c], fun _ => True⟩ (Its (Z.str s)) := fun ι' H' S' ex sm c => by
  refine ⟨fun i x hx => ?_, by show (Z.str s).cps.size ≤ _; simp⟩
  rw [List.getElem?_map] at hx
  obtain ⟨k, hk, rfl⟩ := Option.map_eq_some_iff.mp hx
  have hi := (List.getElem?_eq_some_iff.mp hk).1
  refine ⟨by show i < (Z.str s).cps.size; simpa using hi, fun v H2 y => ?_⟩
  obtain ⟨rfl, c, h1, rfl⟩ := y
  have h1 : s[i]? = some c := by simpa using h1
  rw [hk] at h1; cases h1
  exact ⟨.refl, sm, by rw [Rep]; exact ⟨rfl, fun d hd => by simp at hd; subst hd; exact ha _ (List.mem_of_getElem? hk)⟩⟩
/-- what is walked, by its value -/
theorem iter_val {pins : List (Addr × Obj)} {σ : L2.St} {H : Hp} {sh : Shared} {R : It → Hp → Prop} {E : XK} {v : Value} {x : V} {ι : List Addr} {S : Store} {d : D} (J : L2.Inv X pins σ H sh) (rx : L2.RelV x v) (sm : Sim X.KW ι S H) (rd : Rep X.KW ι H d x)
    (p : Po (RItm X.KW) X.KW X.mg ι H R E (itmOf d S)) : wpAny (model X.prog X.w) X.A (pyIter v) (PIE X pins σ tg R) X.xe sh := by
  unfold itmOf at p
  split at p
  · split at p
    · rename_i xs g
      obtain ⟨a, vs, rfl, i1, e1, r1⟩ := lst_ok sm rd g
      obtain rfl : v = Value.ref a := rx
      obtain ⟨its, rv, pl, _⟩ := J.list (SqL.of e1)
      exact wpAny_pyIter_list pl.isList (new_it J _ (turn_list a _) ⟨_, Heap.get?_push_size _ rfl, rfl, rfl⟩ (Po.ritm p sm (ritm_seq i1)))
    · exact p.elim
  · rw [Rep] at rd
    obtain ⟨a, vs, rfl, h1, h2⟩ := rd
    obtain rfl : v = Value.ref a := rx
    obtain ⟨its, rv, pl, _⟩ := J.tuple h1.sq
    exact wpAny_pyIter_tuple (show sh.heap.IsTuple a its.toArray from pl) (new_it J _ (turn_tuple a _) ⟨_, Heap.get?_push_size _ rfl, rfl, rfl⟩ (Po.ritm p sm (ritm_tup h1.sq h2)))
  · rw [Rep] at rd
    obtain ⟨a, vs, rfl, h1, h2⟩ := rd
    obtain rfl : v = Value.ref a := rx
    obtain ⟨its, rv, pl, _⟩ := J.list h1.seq
    exact wpAny_pyIter_list pl.isList (new_it J _ (turn_list a _) ⟨_, Heap.get?_push_size _ rfl, rfl, rfl⟩ (Po.ritm p sm (ritm_fl h1 h2)))
  · rename_i s
    obtain ⟨rfl, ha⟩ := rd.str
    obtain ⟨t, rfl⟩ := rx
    have hall : (Z.str s).cps.all (· < 128) = true := by
      rw [Array.all_eq_true']
      intro c hc
      exact decide_eq_true (ha c (by simpa using hc))
    exact wpAny_pyIter_ascii hall (new_it J _ (turn_str _ _ t "str_ascii_iterator" (.inl rfl)) ⟨_, Heap.get?_push_size _ rfl, rfl, rfl⟩ (Po.ritm p sm (ritm_str ha)))
  · exact p.elim
theorem gi_any (h : GE X W e m) : GI X W tg e (iAny m) := by
  refine ⟨fun pins sh σ H R J ⟨ι, ρ, S, sm, r, p⟩ => ?_⟩
  have p : Po (RItm X.KW) X.KW X.mg ι H R (fun cls d H' => W cls d σ H') (Z.bd (m ρ S) itmOf) := p
  refine L2.thn (h.run pins sh σ H (fun x H1 => ∃ ι1 S1 d, Sim X.KW ι1 S1 H1 ∧ Rep X.KW ι1 H1 d x ∧ Po (RItm X.KW) X.KW X.mg ι1 H1 R (fun cls d H' => W cls d σ H') (itmOf d S1)) J ⟨ι, ρ, S, sm, r, Po.bd p fun d S1 ι1 H1 x e1 s1 r1 p1 => ⟨ι1, S1, d, s1, r1, p1⟩⟩) ?_
  rintro v sh1 ⟨x, H1, J1, rx, ι1, S1, d, s1, r1, p1⟩
  exact iter_val J1 rx s1 r1 p1
theorem ritm_range {K : KW} {ι : List Addr} {H : Hp} {lo : Int} {n : Nat} : RItm K ι H ⟨(List.range n).map fun (k : Nat) => .int (lo + k), fun _ => True⟩ (Itr lo n) := fun ι' H' S' ex sm c => by
  refine ⟨fun i x hx => ?_, by show n ≤ _; simp⟩
  rw [List.getElem?_map] at hx
  obtain ⟨k, hk, rfl⟩ := Option.map_eq_some_iff.mp hx
  have hi : i < n := by simpa using (List.getElem?_eq_some_iff.mp hk).1
  rw [List.getElem?_range hi] at hk
  cases hk
  refine ⟨hi, fun v H2 y => ?_⟩
  obtain ⟨rfl, rfl⟩ := y
  exact ⟨.refl, sm, by rw [Rep]⟩
/-- range(n) -/
theorem gi_r1 {a : Expr} {p : Pos} (ha : GE X W a m) (hg : Gl X "range") (hm : X.mg "range" = none) (hs : starEach [a] X.env = [(false, eval a X.env)] := by rfl) (hs2 : starEach [a] X.env = (false, eval a X.env) :: starEach [] X.env := by rfl) :
    GI X W tg (.Call (.Name "range" p) [a] [] pos) (iR1 m) := (pi_range1 hg hm (pa_cons ha pa_nil hs2) hs).imp fun σ H R ⟨ι, ρ, S, sm, r, p⟩ => by
  refine ⟨ι, ρ, S, sm, r, Po.bd p fun d S1 ι1 H1 x e1 s1 r1 p1 => ?_⟩
  cases d with
  | int n =>
    rw [Rep] at r1
    subst r1
    dsimp only at p1
    by_cases hc : r62 n
    · rw [if_pos hc] at p1
      rw [r62_iff] at hc
      refine ⟨n, rfl, by omega, by omega, Po.ritm p1 s1 ?_⟩
      have := ritm_range (K := X.KW) (ι := ι1) (H := H1) (lo := 0) (n := n.toNat)
      simpa using this
    · rw [if_neg hc] at p1; exact p1.elim
  | _ => exact p1.elim
end
end Z
namespace Z
/-- a def's outcome -/
def endF : Option Out → M D
  | some (.rt d S) => some (.ok d S)
  | some (.nx _ S) => some (.ok .non S)
  | some (.ex c _ S) => some (.ex c S)
  | _ => none
@[simp] theorem endF_rt (d : D) (S : Store) : endF (some (.rt d S)) = some (.ok d S) := rfl
@[simp] theorem endF_nx (ρ : Env) (S : Store) : endF (some (.nx ρ S)) = some (.ok .non S) := rfl
@[simp] theorem endF_ex (c : String) (ρ : Env) (S : Store) : endF (some (.ex c ρ S)) = some (.ex c S) := rfl
/-- a def by its body: n parameters, N names -/
def runF (n N : Nat) (b : SS) : Fn := fun ds S => if ds.length = n then endF (b (env0 N ds) S) else none
theorem runF_len {n N : Nat} {b : SS} {ds : List D} {S : Store} (h : runF n N b ds S ≠ none) : ds.length = n := by
  unfold runF at h
  by_cases e : ds.length = n
  · exact e
  · rw [if_neg e] at h; exact absurd rfl h
theorem run_eq {n : Nat} (N : Nat) {b : SS} {ds : List D} (S : Store) (h : ds.length = n) : runF n N b ds S = endF (b (ds.map some ++ List.replicate (N - n) none) S) := by unfold runF env0; rw [if_pos h, h]
section
variable {f g : D → D → Store → M D} {a b c : SE} {t t' : ST} {A B : SS} {ρ : Env} {S : Store}
@[simp] theorem x_var (i : Nat) : eVar i ρ S = match ρ[i]? with | some (some d) => some (.ok d S) | _ => none := rfl
@[simp] theorem x_c (d : D) : eC d ρ S = some (.ok d S) := rfl
@[simp] theorem x_1 (h : D → Store → M D) : e1 h a ρ S = bd (a ρ S) h := rfl
@[simp] theorem x_2 : e2 f a b ρ S = bd (a ρ S) fun x S1 => bd (b ρ S1) fun y S2 => f x y S2 := rfl
@[simp] theorem x_nil : evL [] ρ S = some (.ok [] S) := rfl
@[simp] theorem x_cons (r : List SE) : evL (a :: r) ρ S = bd (a ρ S) fun x S1 => bd (evL r ρ S1) fun xs S2 => some (.ok (x :: xs) S2) := rfl
@[simp] theorem x_tup (es : List SE) : eTup es ρ S = bd (evL es ρ S) fun xs S1 => some (.ok (.tup xs) S1) := rfl
@[simp] theorem x_lst (es : List SE) : eLst es ρ S = bd (evL es ρ S) fun xs S1 => some (.ok (.ref S1.length) (S1 ++ [.lst xs])) := rfl
@[simp] theorem x_call (F : Fn) (es : List SE) : eCall F es ρ S = bd (evL es ρ S) F := rfl
@[simp] theorem x_and : eAnd a b ρ S = bd (a ρ S) fun x S1 => match x with | .bl true => b ρ S1 | .bl false => some (.ok (.bl false) S1) | _ => none := rfl
@[simp] theorem x_or : eOr a b ρ S = bd (a ρ S) fun x S1 => match x with | .bl false => b ρ S1 | .bl true => some (.ok (.bl true) S1) | _ => none := rfl
@[simp] theorem x_not : eNot a ρ S = bd (a ρ S) fun x S1 => match x with | .bl b => some (.ok (.bl !b) S1) | _ => none := rfl
@[simp] theorem x_ch : eCh f g a b c ρ S = bd (a ρ S) fun x S1 => bd (b ρ S1) fun y S2 => bd (f x y S2) fun z S3 =>
  match z with | .bl true => bd (c ρ S3) fun w S4 => g y w S4 | .bl false => some (.ok (.bl false) S3) | _ => none := rfl
@[simp] theorem x_tval (e : SE) : tVal e ρ S = bd (e ρ S) fun x S1 => match x with | .bl b => some (.ok b S1) | _ => none := rfl
@[simp] theorem x_tand : tAnd t t' ρ S = bd (t ρ S) fun x S1 => if x = true then t' ρ S1 else some (.ok false S1) := rfl
@[simp] theorem x_tor : tOr t t' ρ S = bd (t ρ S) fun x S1 => if x = true then some (.ok true S1) else t' ρ S1 := rfl
@[simp] theorem x_tnot : tNot t ρ S = bd (t ρ S) fun x S1 => some (.ok (!x) S1) := rfl
@[simp] theorem x_tyes : tYes ρ S = some (.ok true S) := rfl
@[simp] theorem x_if : eIf t a b ρ S = bd (t ρ S) fun x S1 => if x = true then a ρ S1 else b ρ S1 := rfl
@[simp] theorem x_name (i : Nat) (d : D) : gName i d ρ S = some (ρ.set i (some d), S) := rfl
@[simp] theorem x_gall : gAll [] [] ρ S = some (ρ, S) := rfl
@[simp] theorem x_gcons (h : SG) (gs : List SG) (d : D) (ds : List D) : gAll (h :: gs) (d :: ds) ρ S = match h d ρ S with | some (ρ1, S1) => gAll gs ds ρ1 S1 | none => none := rfl
@[simp] theorem x_gtup (gs : List SG) (ds : List D) : gTup gs (.tup ds) ρ S = gAll gs ds ρ S := rfl
@[simp] theorem x_sq : sq A B ρ S = match A ρ S with | some (.nx ρ1 S1) => B ρ1 S1 | o => o := rfl
@[simp] theorem x_nx : sNx ρ S = some (.nx ρ S) := rfl
@[simp] theorem x_ct : sCt ρ S = some (.ct ρ S) := rfl
@[simp] theorem x_exp (e : SE) : sExp e ρ S = bo (e ρ S) ρ fun _ S1 => some (.nx ρ S1) := rfl
@[simp] theorem x_ret (e : SE) : sRet e ρ S = bo (e ρ S) ρ fun d S1 => some (.rt d S1) := rfl
@[simp] theorem x_sif : sIf t A B ρ S = bo (t ρ S) ρ fun x S1 => if x = true then A ρ S1 else B ρ S1 := rfl
@[simp] theorem x_asg (e : SE) (h : SG) : sAsg e h ρ S = bo (e ρ S) ρ fun d S1 => match h d ρ S1 with | some (ρ2, S2) => some (.nx ρ2 S2) | none => none := rfl
@[simp] theorem x_aug (i : Nat) (e : SE) : sAug i f e ρ S = bo (e2 f (eVar i) e ρ S) ρ fun d S1 => some (.nx (ρ.set i (some d)) S1) := rfl
@[simp] theorem x_any : iAny a ρ S = bd (a ρ S) itmOf := rfl
@[simp] theorem x_r1 : iR1 a ρ S = bd (a ρ S) fun d S1 => match d with
  | .int n => if r62 n then some (.ok ⟨(List.range n.toNat).map fun (k : Nat) => .int k, fun _ => True⟩ S1) else none
  | _ => none := rfl
@[simp] theorem x_for (it : SI) (h : SG) : sFor it h A ρ S = bo (it ρ S) ρ fun J S1 => forL J.chk h A J.xs ρ S1 := rfl
@[simp] theorem x_set (o i : SE) (d : D) : setF o i d ρ S = match bq (o ρ S) fun x S1 => bq (i ρ S1) fun y S2 => (match x, y with
    | .ref n, .int k => (match S2[n]? with
      | some (.lst xs) => (match ixN xs.length k with
        | some j => some (.ok () (S2.set n (.lst (xs.set j d))))
        | none => none)
      | _ => none)
    | _, _ => none) with
  | some (.ok _ S3) => some (ρ, S3)
  | _ => none := rfl
@[simp] theorem x_mt (ty : Rc) (F : Fn) (o : SE) (es : List SE) : eMt ty F o es ρ S = bd (o ρ S) fun d S1 => if rcB S1 ty d = true then bd (evL es ρ S1) fun ds S2 => F (d :: ds) S2 else none := rfl
@[simp] theorem x_sl (lo hi : Option SE) : eSl a lo hi ρ S = bd (a ρ S) fun d S1 =>
  bd (match lo with | none => some (.ok none S1) | some m => bd (m ρ S1) fun x S2 => match x with | .int i => some (.ok (some i) S2) | _ => none) fun l S3 =>
  bd (match hi with | none => some (.ok none S3) | some m => bd (m ρ S3) fun x S4 => match x with | .int i => some (.ok (some i) S4) | _ => none) fun h S5 => slD l h d S5 := rfl
end
section
variable {S : Store}
@[simp] theorem o_add (i j : Int) : addD (.int i) (.int j) S = some (.ok (.int (i + j)) S) := rfl
@[simp] theorem o_adds (a b : List Nat) : addD (.str a) (.str b) S = if a.length + b.length ≤ LINE then some (.ok (.str (a ++ b)) S) else none := rfl
@[simp] theorem o_addt (a b : List D) : addD (.tup a) (.tup b) S = if a.length + b.length ≤ LINE then some (.ok (.tup (a ++ b)) S) else none := rfl
@[simp] theorem o_addr (m n : Nat) : addD (.ref m) (.ref n) S = match S[m]?, S[n]? with
    | some (.lst a), some (.lst b) => if a.length + b.length ≤ LINE then some (.ok (.ref S.length) (S ++ [.lst (a ++ b)])) else none
    | _, _ => none := rfl
@[simp] theorem o_mult (a : List D) (k : Int) : mulD (.tup a) (.int k) S = if 0 < a.length ∧ a.length ≤ 1000 ∧ 2 ≤ k ∧ k ≤ 1000 then some (.ok (.tup (List.replicate k.toNat a).flatten) S) else none := rfl
@[simp] theorem o_mulr (m : Nat) (k : Int) : mulD (.ref m) (.int k) S = match S[m]? with
    | some (.lst a) => if -9223372036854775808 ≤ k ∧ k < 9223372036854775808 ∧ a.length * k.toNat ≤ LINE then some (.ok (.ref S.length) (S ++ [.lst (List.replicate k.toNat a).flatten])) else none
    | _ => none := rfl
@[simp] theorem o_sub (i j : Int) : subD (.int i) (.int j) S = some (.ok (.int (i - j)) S) := rfl
@[simp] theorem o_mul (i j : Int) : mulD (.int i) (.int j) S = if (small i ∨ small j) ∨ i.natAbs.log2 + j.natAbs.log2 < 1000000 then some (.ok (.int (i * j)) S) else none := rfl
@[simp] theorem o_fdiv (i j : Int) : fdivD (.int i) (.int j) S = if 0 < j ∧ j.natAbs.log2 < 9000 then some (.ok (.int (i / j)) S) else none := rfl
@[simp] theorem o_mod (i j : Int) : modD (.int i) (.int j) S = if 0 < j then some (.ok (.int (i % j)) S) else none := rfl
@[simp] theorem o_pow (i j : Int) : powD (.int i) (.int j) S = if 0 ≤ j ∧ j ≤ 1000000 ∧ small i then some (.ok (.int (i ^ j.toNat)) S) else none := rfl
@[simp] theorem o_neg (i : Int) : negD (.int i) S = some (.ok (.int (-i)) S) := rfl
@[simp] theorem o_lt (i j : Int) : ltD (.int i) (.int j) S = some (.ok (.bl (decide (i < j))) S) := rfl
@[simp] theorem o_le (i j : Int) : leD (.int i) (.int j) S = some (.ok (.bl (decide (i ≤ j))) S) := rfl
@[simp] theorem o_gt (i j : Int) : gtD (.int i) (.int j) S = some (.ok (.bl (decide (j < i))) S) := rfl
@[simp] theorem o_ge (i j : Int) : geD (.int i) (.int j) S = some (.ok (.bl (decide (j ≤ i))) S) := rfl
@[simp] theorem o_eq (i j : Int) : eqD (.int i) (.int j) S = some (.ok (.bl (decide (i = j))) S) := by
  unfold eqD dat
  simp [D.pd, PD.dep, PD.eqv]
  rfl
@[simp] theorem o_eqs (a b : List Nat) : eqD (.str a) (.str b) S = some (.ok (.bl (decide (a = b))) S) := by
  unfold eqD dat
  simp [D.pd, PD.dep, PD.eqv]
  exact Bool.eq_iff_iff.mpr (by simp)
@[simp] theorem o_eqb (a b : Bool) : eqD (.bl a) (.bl b) S = some (.ok (.bl (decide (a = b))) S) := by
  unfold eqD dat
  simp [D.pd, PD.dep, PD.eqv]
  rfl
@[simp] theorem o_ne (i j : Int) : neD (.int i) (.int j) S = some (.ok (.bl (!decide (i = j))) S) := by
  unfold neD dat
  simp [D.pd, PD.dep, PD.eqv]
  rfl
@[simp] theorem o_nes (a b : List Nat) : neD (.str a) (.str b) S = some (.ok (.bl (!decide (a = b))) S) := by
  unfold neD dat
  simp [D.pd, PD.dep, PD.eqv]
  exact Bool.eq_iff_iff.mpr (by simp)
@[simp] theorem o_neb (a b : Bool) : neD (.bl a) (.bl b) S = some (.ok (.bl (!decide (a = b))) S) := by
  unfold neD dat
  simp [D.pd, PD.dep, PD.eqv]
  rfl
@[simp] theorem o_ixs (s : List Nat) (i : Int) : ixD (.str s) (.int i) S = if s.length ≤ LINE then (match atI s i with | some c => some (.ok (.str [c]) S) | none => none) else none := rfl
@[simp] theorem o_ixt (xs : List D) (i : Int) : ixD (.tup xs) (.int i) S = match atI xs i with | some x => some (.ok x S) | none => none := rfl
@[simp] theorem o_ixf (xs : List D) (i : Int) : ixD (.fl xs) (.int i) S = match atI xs i with | some x => some (.ok x S) | none => none := rfl
@[simp] theorem o_ixr (n : Nat) (i : Int) : ixD (.ref n) (.int i) S = match seqOf S (.ref n) with | some xs => (match atI xs i with | some x => some (.ok x S) | none => none) | none => none := rfl
@[simp] theorem o_sqt (xs : List D) : seqOf S (.tup xs) = some xs := rfl
@[simp] theorem o_sqf (xs : List D) : seqOf S (.fl xs) = some xs := rfl
@[simp] theorem o_sqr (n : Nat) : seqOf S (.ref n) = match S[n]? with | some (.lst xs) => some xs | _ => none := rfl
@[simp] theorem o_lens (s : List Nat) : lenF [.str s] S = if s.length ≤ LINE then some (.ok (.int s.length) S) else none := rfl
@[simp] theorem o_lent (xs : List D) : lenF [.tup xs] S = some (.ok (.int xs.length) S) := rfl
@[simp] theorem o_lenf (xs : List D) : lenF [.fl xs] S = some (.ok (.int xs.length) S) := rfl
@[simp] theorem o_lenr (n : Nat) : lenF [.ref n] S = match seqOf S (.ref n) with | some xs => some (.ok (.int xs.length) S) | none => none := rfl
@[simp] theorem o_abs (i : Int) : absF [.int i] S = some (.ok (.int (if i < 0 then -i else i)) S) := rfl
@[simp] theorem o_max (i j : Int) : maxF [.int i, .int j] S = some (.ok (.int (if j > i then j else i)) S) := rfl
@[simp] theorem o_min (i j : Int) : minF [.int i, .int j] S = some (.ok (.int (if j < i then j else i)) S) := rfl
@[simp] theorem o_list (d : D) : listF [d] S = match seqOf S d with | some xs => some (.ok (.ref S.length) (S ++ [.lst xs])) | none => none := rfl
@[simp] theorem o_tuple (d : D) : tupleF [d] S = match seqOf S d with | some xs => some (.ok (.tup xs) S) | none => none := rfl
@[simp] theorem o_app (n : Nat) (x : D) : appendF [.ref n, x] S = match S[n]? with
    | some (.lst xs) => if xs.length < LINE then some (.ok .non (S.set n (.lst (xs ++ [x])))) else none
    | _ => none := rfl
@[simp] theorem o_pop (n : Nat) (i : Int) : popF [.ref n, .int i] S = match S[n]? with
    | some (.lst xs) => (match ixN xs.length i with
      | some k => (match xs[k]? with | some x => some (.ok x (S.set n (.lst (xs.eraseIdx k)))) | none => none)
      | none => none)
    | _ => none := rfl
@[simp] theorem o_rcr (n : Nat) (t : Rc) : rcB S t (.ref n) = match S[n]?, t with | some (.lst _), .list => true | some (.st _), .dict => true | _, _ => false := rfl
@[simp] theorem o_rcs (s : List Nat) (t : Rc) : rcB S t (.str s) = match t with | .str => true | _ => false := rfl
@[simp] theorem o_itr (n : Nat) : itmOf (.ref n) S = match S[n]? with
    | some (.lst xs) => some (.ok ⟨xs, fun S => S[n]? = some (.lst xs)⟩ S)
    | _ => none := rfl
@[simp] theorem o_itt (xs : List D) : itmOf (.tup xs) S = some (.ok ⟨xs, fun _ => True⟩ S) := rfl
@[simp] theorem o_itf (xs : List D) : itmOf (.fl xs) S = some (.ok ⟨xs, fun _ => True⟩ S) := rfl
@[simp] theorem o_its (s : List Nat) : itmOf (.str s) S = some (.ok ⟨s.map fun c => .str [c], fun _ => True⟩ S) := rfl
@[simp] theorem lg_lt {n : Nat} (h : n < 18446744073709551616) : n.log2 < 9000 := by
  by_cases h0 : n = 0
  · subst h0; decide
  · exact Nat.lt_of_lt_of_le ((Nat.log2_lt h0).mpr (show n < 2 ^ 64 from h)) (by decide)
@[simp] theorem leLINE {n : Nat} (h : n ≤ 16777216) : n ≤ LINE := by rw [LINE_eq]; exact h
@[simp] theorem ltLINE {n : Nat} (h : n < 16777216) : n < LINE := by rw [LINE_eq]; exact h
@[simp] theorem r62_nat {n : Nat} (h : n ≤ 1000000000) : r62 (n : Int) := (r62_iff _).mpr (by omega)
@[simp] theorem r62_lit {i : Int} (h0 : -1000000000 ≤ i) (h1 : i ≤ 1000000000) : r62 i := (r62_iff _).mpr (by omega)
theorem r62_of {i : Int} (h0 : -1000000000 ≤ i) (h1 : i ≤ 1000000000) : r62 i := (r62_iff _).mpr (by omega)
@[simp] theorem r62_0 : r62 0 := r62_of (by decide) (by decide)
@[simp] theorem r62_1 : r62 1 := r62_of (by decide) (by decide)
@[simp] theorem small_0 : small 0 := (small_iff _).mpr (by decide)
@[simp] theorem small_1 : small 1 := (small_iff _).mpr (by decide)
@[simp] theorem small_nat {n : Nat} (h : n < 18446744073709551616) : small (n : Int) := (small_iff _).mpr (by omega)
@[simp] theorem small_lit {i : Int} (h0 : -1000000000000000000 ≤ i) (h1 : i ≤ 1000000000000000000) : small i := (small_iff _).mpr (by omega)
theorem at0 {α : Type} (x : α) (xs : List α) : atI (x :: xs) 0 = some x := by simp [atI, ixN]
@[simp] theorem ixN_lit (n : Nat) (k : Nat) : ixN n (OfNat.ofNat k) = if k < n then some k else none := by
  unfold ixN
  rw [if_pos (by exact Int.natCast_nonneg k)]
  by_cases h : k < n
  · rw [if_pos h, if_pos (by exact Int.ofNat_lt.mpr h)]; rfl
  · rw [if_neg h, if_neg (by exact fun g => h (Int.ofNat_lt.mp g))]
end
end Z
namespace Z
open PySem PySem.Spec PyProof.Rows L2
theorem _root_.L2.Room.u65 {k : Nat} {A : Around} (r : Room k A) : A.units + 65 < cLine := by have := r.un; omega
theorem _root_.L2.RoomG.u65 {k : Nat} {A : Around} (h : RoomG k A) : A.units + 65 < cLine := h.r.u65
theorem _root_.L2.RoomG.units {k : Nat} {A : Around} (h : RoomG k A) : A.units + 64 < cLine := h.r.units
theorem _root_.L2.RoomG.u1 {k : Nat} {A : Around} (h : RoomG k A) : A.units + 1 < cLine := by have := h.r.un; omega
theorem _root_.L2.RoomG.u3 {k : Nat} {A : Around} (h : RoomG k A) : A.units + 3 < cLine := by have := h.r.un; omega
section
variable {P : Program} {w : World} {K : PySem.W.Frag} {mg : Mg} {base : Heap}
/-- THE RULE for a def that is taken by its body -/
theorem fn_run {x qual : Str} {st : Stmt} {f : Addr} {fd : FuncData} {N ps : List Str} {k n : Nat} {b : SS} (Fu : Fun K x qual st f fd) (S : FnScope N ps (defScope st)) (hn : n = ps.length)
    (der : ∀ (cdv : Value) (A : Around) (outer : List PySem.Env) (s : Shared) (H : Hp) (E : XK), RoomG k (A.deeper (envOfC qual (defScope st) s.heap.objs.size f cdv)) → GSs (cx P w K mg base N qual st f cdv A outer s H E) (wE E) (defBody st) b) :
    FnG P w K mg base (L2.CX P w) (k + 1) f fd ps (spF ⟨K, P, w⟩ mg (runF n N.length b)) := by
  subst hn
  have hpl : ps.length ≤ N.length := by have := congrArg List.length S.pre; rw [List.length_take] at this; omega
  refine Fu.okG S (fun vs H Q E h => ?_) (fun cdv A outer s H vs Q E hr h => ?_)
  · obtain ⟨ι, S, ds, s, r, p⟩ := h
    rw [r.length]
    exact runF_len fun e => by rw [e] at p; exact p
  · refine ⟨_, der cdv A outer s H E hr, ?_⟩
    obtain ⟨ι, S0, ds, s0, r, p⟩ := h
    have hl : ds.length = ps.length := runF_len (fun e => by rw [e] at p; exact p)
    refine ⟨ι, env0 N.length ds, S0, s0, .start r (by rw [hl]; exact hpl), ?_⟩
    unfold runF at p
    rw [if_pos hl] at p
    match g : b (env0 N.length ds) S0, p with
    | none, p => exact p.elim
    | some (.rt d S'), p => exact fun ι1 H1 v e1 s1 r1 => p ι1 H1 v e1 s1 r1
    | some (.nx ρ S'), p => exact fun ι1 H1 σ1 e1 s1 r1 => p ι1 H1 .non e1 s1 (by rw [Rep])
    | some (.ex c ρ S'), p => exact fun ι1 H1 σ1 cls e1 s1 r1 g1 => p ι1 H1 cls e1 s1 g1
    | some (.bk ρ S'), p => exact p.elim
    | some (.ct ρ S'), p => exact p.elim
/-- the law's own promise -/
def spL (K : PySem.W.Frag) (R : Fn) : Sp := fun vs H Q _ => ∃ (a : Addr) (ns : List Int), vs = [.ref a] ∧ FzL K H a (ns.map V.int) ∧ Only H ∧ (∃ S', R [.fl (ns.map .int)] [] = some (.ok (.bl true) S')) ∧ ∀ H', Q (.bl true) H'
theorem repL_ints {K : KW} {ι : List Addr} {H : Hp} : ∀ ns : List Int, RepL K ι H (ns.map .int) (ns.map V.int)
  | [] => by rw [List.map_nil, RepL]; rfl
  | n :: r => by rw [List.map_cons, RepL]; exact ⟨_, _, rfl, by rw [Rep], repL_ints r⟩
theorem sim_nil {K : KW} {H : Hp} : Sim K [] [] H := ⟨rfl, List.Pairwise.nil, fun i o a h _ => by simp at h⟩
theorem law_ok {f : Addr} {fd : FuncData} {ps : List Str} {k : Nat} {R : Fn} (h : FnG P w K mg base (L2.CX P w) k f fd ps (spF ⟨K, P, w⟩ mg R)) : FnG P w K mg base (L2.CX P w) k f fd ps (spL K R) :=
  h.imp fun vs H Q E ⟨a, ns, e, hz, ho, ⟨S', hR⟩, q⟩ => by
    subst e
    refine ⟨[], [], [.fl (ns.map .int)], sim_nil, ?_, ?_⟩
    · rw [RepL]
      exact ⟨_, _, rfl, by rw [Rep]; exact ⟨a, _, rfl, hz, repL_ints ns⟩, by rw [RepL]⟩
    · rw [hR]
      intro ι' H' v e1 s1 r1
      rw [Rep] at r1
      subst r1
      exact q H'
theorem fz_only {H : Hp} {a : Addr} {xs : List V} (ho : Only H) (h : SqL K H a xs) : FzL K H a xs := by
  rcases h with (h | h) | h
  · rcases ho a with e | ⟨o, ys, e⟩
    · rw [e] at h; cases h
    · rw [e] at h; cases h
  · exact .inl h
  · exact .inr h
end
/-- THE END: R answers True at every script of at most n numbers -/
theorem walkZ {l : PySem.W.OpenLaw} {n k : Nat} {q : Program} {loose : List Str} {XP : (Str → Option Value) → Heap → Prop} {YP : World → Heap → Prop} {d : DefRec} {K : Params → PySem.W.Frag} {R : Fn}
    (hn : l.most = some n) (hn2 : n ≤ sizeLine) (hr : RoomG k callerA) (hdf : d.params.defaults = [])
    (hY : ∀ (w : World) (h : Heap), YP w h → (K w.params).In h)
    (hR : ∀ ns : List Int, ns.length ≤ n → (∀ z ∈ ns, Builtin.Int.intBits z ≤ 1048576) → ∃ S', R [.fl (ns.map .int)] [] = some (.ok (.bl true) S'))
    (F : ∀ (w : World) (mg : Str → Option Value) (fa : Addr) (h : Heap), (K w.params).In h → h.Ns mainGlobals mg → mg d.name = some (.ref fa) →
      ∃ fd : FuncData, (∀ (s : Shared) (u : Value), BindsTo s fd ⟨[u], []⟩ [("script", u)]) ∧ ∀ base : Heap, (K w.params).In base → base.Ns mainGlobals mg → FnG l.prog w (K w.params) mg base (L2.CX l.prog w) k fa fd ["script"] (spF ⟨K w.params, l.prog, w⟩ mg R)) :
    PySem.W.WalkO q loose XP YP l.row.toRowW d [] (fun f vs => PySem.call f vs) :=
  L2.walk_ofG (x := "script") (CX := fun w => L2.CX l.prog w) (sp := fun w => spL (K w.params) R) hn hn2 hdf hr hY
    (fun w mg fa h X G hm => let ⟨fd, hb, hF⟩ := F w mg fa h X G hm; ⟨fd, hb, fun base X' G' => law_ok (hF base X' G')⟩)
    (fun w H a ns hl hb hO hS => ⟨a, ns, rfl, fz_only hO hS, hO, hR ns hl hb, fun _ => rfl⟩)
    (fun w H s e s' ⟨_, _, _, _, _, _, _, _, _, _, _, _, h⟩ => h)
end Z
namespace Z
def intsL : List D → Option (List Int)
  | [] => some []
  | .int i :: r => (intsL r).map (i :: ·)
  | _ :: _ => none
def strsL : List D → Option (List (List Nat))
  | [] => some []
  | .str s :: r => (strsL r).map (s :: ·)
  | _ :: _ => none
def intF : Fn := fun ds S => match ds with
  | [.int i] => some (.ok (.int i) S)
  | [.bl b] => some (.ok (.int (if b = true then 1 else 0)) S)
  | _ => none
/-- a number's figures -/
def dec (i : Int) : List Nat := (toString i).toList.map Char.toNat
def strF : Fn := fun ds S => match ds with
  | [.int i] => if i.natAbs.log2 < 1920 then some (.ok (.str (dec i)) S) else none
  | [.str s] => some (.ok (.str s) S)
  | _ => none
def joinS (sep : List Nat) : List (List Nat) → List Nat
  | [] => []
  | [x] => x
  | x :: y :: r => x ++ sep ++ joinS sep (y :: r)
def joinF : Fn := fun ds S => match ds with
  | [.str sep, .ref n] => (match S[n]? with
    | some (.lst xs) => (match strsL xs with
      | some ys => if (ys.map List.length).sum + ys.length * sep.length ≤ 16777216 then some (.ok (.str (joinS sep ys)) S) else none
      | none => none)
    | _ => none)
  | _ => none
def sumF : Fn := fun ds S => match ds with
  | [.ref n] => (match S[n]? with
    | some (.lst xs) => (match intsL xs with
      | some ys => some (.ok (.int ys.sum) S)
      | none => none)
    | _ => none)
  | _ => none
def maxI : List Int → Option Int
  | [] => none
  | x :: r => some (r.foldl max x)
def maxLF : Fn := fun ds S => match ds with
  | [.ref n] => (match S[n]? with
    | some (.lst xs) => (match (intsL xs).bind maxI with
      | some y => some (.ok (.int y) S)
      | none => none)
    | _ => none)
  | _ => none
/-- the numbers lo, lo + c, .., n of them -/
def stepsL (lo c : Int) (n : Nat) : List D := (List.range n).map fun (k : Nat) => .int (lo + (k : Int) * c)
/-- range(a, b) -/
noncomputable def iR2 (a b : SE) : SI := fun ρ S => bd (a ρ S) fun d S1 => bd (b ρ S1) fun e S2 => match d, e with
  | .int i, .int j => if r62 i ∧ r62 j then some (.ok ⟨(List.range (j - i).toNat).map fun (k : Nat) => .int (i + k), fun _ => True⟩ S2) else none
  | _, _ => none
@[irreducible] def r24 (i j k : Int) : Prop := (0 ≤ i ∧ i < 16777216) ∧ (0 ≤ j ∧ j < 16777216) ∧ 0 < k ∧ k < 16777216
noncomputable instance (i j k : Int) : Decidable (r24 i j k) := Classical.propDecidable _
/-- range(a, b, c), c above 0 -/
noncomputable def iR3 (a b c : SE) : SI := fun ρ S => bd (a ρ S) fun d S1 => bd (b ρ S1) fun e S2 => bd (c ρ S2) fun f S3 => match d, e, f with
  | .int i, .int j, .int k => if r24 i j k then some (.ok ⟨stepsL i k (if i < j then ((j - i - 1) / k + 1).toNat else 0), fun _ => True⟩ S3) else none
  | _, _, _ => none
/-- list(range(n)) -/
noncomputable def eLR (a : SE) : SE := fun ρ S => bd (a ρ S) fun d S1 => match d with
  | .int n => if r62 n ∧ n.toNat ≤ LINE then new1 (.lst ((List.range n.toNat).map fun (k : Nat) => .int k)) S1 else none
  | _ => none
section
variable {S : Store} {ρ : Env}
@[simp] theorem o_int (i : Int) : intF [.int i] S = some (.ok (.int i) S) := rfl
@[simp] theorem o_intb (b : Bool) : intF [.bl b] S = some (.ok (.int (if b = true then 1 else 0)) S) := rfl
@[simp] theorem o_str (i : Int) : strF [.int i] S = if i.natAbs.log2 < 1920 then some (.ok (.str (dec i)) S) else none := rfl
@[simp] theorem o_join (sep : List Nat) (n : Nat) : joinF [.str sep, .ref n] S = match S[n]? with
    | some (.lst xs) => (match strsL xs with
      | some ys => if (ys.map List.length).sum + ys.length * sep.length ≤ 16777216 then some (.ok (.str (joinS sep ys)) S) else none
      | none => none)
    | _ => none := rfl
@[simp] theorem o_sum (n : Nat) : sumF [.ref n] S = match S[n]? with
    | some (.lst xs) => (match intsL xs with
      | some ys => some (.ok (.int ys.sum) S)
      | none => none)
    | _ => none := rfl
@[simp] theorem o_maxL (n : Nat) : maxLF [.ref n] S = match S[n]? with
    | some (.lst xs) => (match (intsL xs).bind maxI with
      | some y => some (.ok (.int y) S)
      | none => none)
    | _ => none := rfl
@[simp] theorem x_r2 (a b : SE) : iR2 a b ρ S = bd (a ρ S) fun d S1 => bd (b ρ S1) fun e S2 => match d, e with
  | .int i, .int j => if r62 i ∧ r62 j then some (.ok ⟨(List.range (j - i).toNat).map fun (k : Nat) => .int (i + k), fun _ => True⟩ S2) else none
  | _, _ => none := rfl
@[simp] theorem x_r3 (a b c : SE) : iR3 a b c ρ S = bd (a ρ S) fun d S1 => bd (b ρ S1) fun e S2 => bd (c ρ S2) fun f S3 => match d, e, f with
  | .int i, .int j, .int k => if r24 i j k then some (.ok ⟨stepsL i k (if i < j then ((j - i - 1) / k + 1).toNat else 0), fun _ => True⟩ S3) else none
  | _, _, _ => none := rfl
@[simp] theorem x_lr (a : SE) : eLR a ρ S = bd (a ρ S) fun d S1 => match d with
  | .int n => if r62 n ∧ n.toNat ≤ LINE then some (.ok (.ref S1.length) (S1 ++ [.lst ((List.range n.toNat).map fun (k : Nat) => .int k)])) else none
  | _ => none := rfl
end
end Z
namespace Z
/-- d[::-1] -/
def revD : D → Store → M D := fun d S => match d with
  | .ref n => (match S[n]? with
    | some (.lst xs) => new1 (.lst xs.reverse) S
    | _ => none)
  | _ => none
end Z
namespace Z
/-- text.split(c): cur, what stands ahead -/
def splitA (c : Nat) : List Nat → List Nat → List (List Nat)
  | cur, [] => [cur]
  | cur, x :: r => if x = c then cur :: splitA c [] r else splitA c (cur ++ [x]) r
def splitF : Fn := fun ds S => match ds with
  | [.str s, .str [c]] => if s.length + 2 ≤ 16777216 then new1 (.lst ((splitA c [] s).map .str)) S else none
  | _ => none
end Z
namespace Z
/-- int(word), a figure's too -/
def intTF : Fn := fun ds S => match ds with
  | [.str [k]] => if 48 ≤ k ∧ k ≤ 57 then some (.ok (.int ((k : Int) - 48)) S) else none
  | ds => intF ds S
@[simp] theorem o_intT (k : Nat) (S : Store) : intTF [.str [k]] S = if 48 ≤ k ∧ k ≤ 57 then some (.ok (.int ((k : Int) - 48)) S) else none := rfl
@[simp] theorem o_split (s : List Nat) (c : Nat) (S : Store) : splitF [.str s, .str [c]] S = if s.length + 2 ≤ 16777216 then some (.ok (.ref S.length) (S ++ [.lst ((splitA c [] s).map .str)])) else none := rfl
@[simp] theorem o_rev (n : Nat) (S : Store) : revD (.ref n) S = match S[n]? with
    | some (.lst xs) => some (.ok (.ref S.length) (S ++ [.lst xs.reverse]))
    | _ => none := rfl
end Z
namespace Z
/-- try: b, except the class x: h -/
def sTry (x : String) (b h : SS) : SS := fun ρ S => match b ρ S with
  | some (.ex c ρ1 S1) => if c = x then h ρ1 S1 else none
  | o => o
@[simp] theorem x_raise (c : String) (ρ : Env) (S : Store) : sRaise c ρ S = some (.ex c ρ S) := rfl
@[simp] theorem x_try (x : String) (b h : SS) (ρ : Env) (S : Store) : sTry x b h ρ S = match b ρ S with
    | some (.ex c ρ1 S1) => if c = x then h ρ1 S1 else none
    | o => o := rfl
end Z
namespace Z
def kEq0 : D → D → Bool
  | .int i, .int j => decide (i = j)
  | .str s, .str t => decide (s = t)
  | _, _ => false
def kEqL : List D → List D → Bool
  | [], [] => true
  | x :: xs, y :: ys => kEq0 x y && kEqL xs ys
  | _, _ => false
def tget (kvs : List (List D × D)) (k : List D) : Option D := (kvs.find? fun p => kEqL p.1 k).map (·.2)
def tput (kvs : List (List D × D)) (k : List D) (v : D) : List (List D × D) :=
  if (kvs.any fun p => kEqL p.1 k) = true then kvs.map (fun p => if kEqL p.1 k = true then (p.1, v) else p) else kvs ++ [(k, v)]
def eDctT : SE := fun _ S => new1 (.st []) S
/-- (a, ..) not in d -/
def eTNi (es : List SE) (d : SE) : SE := fun ρ S => bd (evL es ρ S) fun ks S1 => bd (d ρ S1) fun x S2 => match x with
  | .ref n => (match S2[n]? with
    | some (.st kvs) => if fK ks = true then some (.ok (.bl (!(tget kvs ks).isSome)) S2) else none
    | _ => none)
  | _ => none
/-- d[a, ..] -/
def eTGet (d : SE) (es : List SE) : SE := fun ρ S => bd (d ρ S) fun x S1 => bd (evL es ρ S1) fun ks S2 => match x with
  | .ref n => (match S2[n]? with
    | some (.st kvs) => if fK ks = true then (match tget kvs ks with | some v => some (.ok v S2) | none => none) else none
    | _ => none)
  | _ => none
/-- d[a, ..] = v -/
def sTPut (d : SE) (es : List SE) (v : SE) : SS := fun ρ S => bo (v ρ S) ρ fun w S1 => bo (d ρ S1) ρ fun x S2 => bo (evL es ρ S2) ρ fun ks S3 => match x with
  | .ref n => (match S3[n]? with
    | some (.st kvs) => if fK ks = true ∧ ks.length ≤ 1000 ∧ kvs.length < 16000000 then some (.nx ρ (S3.set n (.st (tput kvs ks w)))) else none
    | _ => none)
  | _ => none
section
variable {ρ : Env} {S : Store}
@[simp] theorem x_dctT : eDctT ρ S = some (.ok (.ref S.length) (S ++ [.st []])) := rfl
@[simp] theorem x_tni (es : List SE) (d : SE) : eTNi es d ρ S = bd (evL es ρ S) fun ks S1 => bd (d ρ S1) fun x S2 => match x with
  | .ref n => (match S2[n]? with
    | some (.st kvs) => if fK ks = true then some (.ok (.bl (!(tget kvs ks).isSome)) S2) else none
    | _ => none)
  | _ => none := rfl
@[simp] theorem x_tget (es : List SE) (d : SE) : eTGet d es ρ S = bd (d ρ S) fun x S1 => bd (evL es ρ S1) fun ks S2 => match x with
  | .ref n => (match S2[n]? with
    | some (.st kvs) => if fK ks = true then (match tget kvs ks with | some v => some (.ok v S2) | none => none) else none
    | _ => none)
  | _ => none := rfl
@[simp] theorem x_tput (es : List SE) (d v : SE) : sTPut d es v ρ S = bo (v ρ S) ρ fun w S1 => bo (d ρ S1) ρ fun x S2 => bo (evL es ρ S2) ρ fun ks S3 => match x with
  | .ref n => (match S3[n]? with
    | some (.st kvs) => if fK ks = true ∧ ks.length ≤ 1000 ∧ kvs.length < 16000000 then some (.nx ρ (S3.set n (.st (tput kvs ks w)))) else none
    | _ => none)
  | _ => none := rfl
end
end Z
namespace Z
/-- repr(i) -/
def reprIF : Fn := fun ds S => match ds with
  | [.int i] => if i.natAbs.log2 < 1920 then some (.ok (.str (dec i)) S) else none
  | _ => none
@[simp] theorem o_reprI (i : Int) (S : Store) : reprIF [.int i] S = if i.natAbs.log2 < 1920 then some (.ok (.str (dec i)) S) else none := rfl
end Z
namespace Z
def kvL : D → Option (List D)
  | .tup ks => if fK ks = true then some ks else none
  | _ => none
/-- a dict as it is read: it may be locked by a walk -/
def stAt (S : Store) : D → Option (List (List D × D))
  | .ref n => (match S[n]? with | some (.st kvs) => some kvs | some (.dct kvs) => some kvs | _ => none)
  | _ => none
def kIn (x y : D) (S : Store) : M D := match kvL x, stAt S y with
  | some ks, some kvs => some (.ok (.bl (tget kvs ks).isSome) S)
  | _, _ => none
def kNi (x y : D) (S : Store) : M D := match kvL x, stAt S y with
  | some ks, some kvs => some (.ok (.bl (!(tget kvs ks).isSome)) S)
  | _, _ => none
def kGet (y x : D) (S : Store) : M D := match kvL x, stAt S y with
  | some ks, some kvs => (match tget kvs ks with | some v => some (.ok v S) | none => none)
  | _, _ => none
/-- d[k] = v -/
def sKPut (d k v : SE) : SS := fun ρ S => bo (v ρ S) ρ fun w S1 => bo (d ρ S1) ρ fun y S2 => bo (k ρ S2) ρ fun x S3 => match y, kvL x with
  | .ref n, some ks => (match S3[n]? with
    | some (.st kvs) => if kvs.length < 16000000 then some (.nx ρ (S3.set n (.st (tput kvs ks w)))) else none
    | _ => none)
  | _, _ => none
/-- {k: v} -/
def eDct1 (k v : SE) : SE := fun ρ S => bd (k ρ (S ++ [.st []])) fun x S1 => bd (v ρ S1) fun w S2 => match kvL x, S2[S.length]? with
  | some ks, some (.st []) => some (.ok (.ref S.length) (S2.set S.length (.st [(ks, w)])))
  | _, _ => none
def prOf : List D → Option (List (List D × D))
  | [] => some []
  | .tup [k, v] :: r => (match kvL k, prOf r with | some ks, some t => some ((ks, v) :: t) | _, _ => none)
  | _ => none
/-- dict(xs), of a list of pairs -/
def dictF : Fn := fun ds S => match ds with
  | [.ref n] => (match S[n]? with
    | some (.lst xs) => (match prOf xs with
      | some kvs => if kvs.length < 16000000 then new1 (.st (kvs.foldl (fun acc p => tput acc p.1 p.2) [])) S else none
      | none => none)
    | _ => none)
  | _ => none
def i0 : D → Bool
  | .int _ => true
  | _ => false
/-- what is walked: the keys of a dict that is locked -/
def iKeyD (d : SE) : SI := fun ρ S => bd (d ρ S) fun y S1 => match y with
  | .ref n => (match S1[n]? with
    | some (.dct kvs) => if (kvs.all fun p => fK p.1 && p.1.all i0) = true then some (.ok ⟨kvs.map fun p => .tup p.1, fun S => S[n]? = some (.dct kvs)⟩ S1) else none
    | _ => none)
  | _ => none
section
variable {ρ : Env} {S : Store}
@[simp] theorem x_kput (d k v : SE) : sKPut d k v ρ S = bo (v ρ S) ρ fun w S1 => bo (d ρ S1) ρ fun y S2 => bo (k ρ S2) ρ fun x S3 => match y, kvL x with
  | .ref n, some ks => (match S3[n]? with
    | some (.st kvs) => if kvs.length < 16000000 then some (.nx ρ (S3.set n (.st (tput kvs ks w)))) else none
    | _ => none)
  | _, _ => none := rfl
@[simp] theorem x_dct1 (k v : SE) : eDct1 k v ρ S = bd (k ρ (S ++ [.st []])) fun x S1 => bd (v ρ S1) fun w S2 => match kvL x, S2[S.length]? with
  | some ks, some (.st []) => some (.ok (.ref S.length) (S2.set S.length (.st [(ks, w)])))
  | _, _ => none := rfl
@[simp] theorem x_keyD (d : SE) : iKeyD d ρ S = bd (d ρ S) fun y S1 => match y with
  | .ref n => (match S1[n]? with
    | some (.dct kvs) => if (kvs.all fun p => fK p.1 && p.1.all i0) = true then some (.ok ⟨kvs.map fun p => .tup p.1, fun S => S[n]? = some (.dct kvs)⟩ S1) else none
    | _ => none)
  | _ => none := rfl
@[simp] theorem o_kvL (ks : List D) : kvL (.tup ks) = if fK ks = true then some ks else none := rfl
@[simp] theorem o_stAt (n : Nat) : stAt S (.ref n) = (match S[n]? with | some (.st kvs) => some kvs | some (.dct kvs) => some kvs | _ => none) := rfl
@[simp] theorem o_kIn (x y : D) : kIn x y S = match kvL x, stAt S y with
  | some ks, some kvs => some (.ok (.bl (tget kvs ks).isSome) S)
  | _, _ => none := rfl
@[simp] theorem o_kNi (x y : D) : kNi x y S = match kvL x, stAt S y with
  | some ks, some kvs => some (.ok (.bl (!(tget kvs ks).isSome)) S)
  | _, _ => none := rfl
@[simp] theorem o_kGet (x y : D) : kGet y x S = match kvL x, stAt S y with
  | some ks, some kvs => (match tget kvs ks with | some v => some (.ok v S) | none => none)
  | _, _ => none := rfl
@[simp] theorem o_dictF (n : Nat) : dictF [.ref n] S = (match S[n]? with
    | some (.lst xs) => (match prOf xs with
      | some kvs => if kvs.length < 16000000 then some (.ok (.ref S.length) (S ++ [.st (kvs.foldl (fun acc p => tput acc p.1 p.2) [])])) else none
      | none => none)
    | _ => none) := rfl
end
end Z
namespace Z
def fget (kvs : List (D × D)) (k : D) : Option D := (kvs.find? fun p => kEq0 p.1 k).map (·.2)
def fput (kvs : List (D × D)) (k v : D) : List (D × D) :=
  if (kvs.any fun p => kEq0 p.1 k) = true then kvs.map (fun p => if kEq0 p.1 k = true then (p.1, v) else p) else kvs ++ [(k, v)]
def dkAt (S : Store) : D → Option (List (D × D))
  | .ref n => (match S[n]? with | some (.dk kvs) => some kvs | some (.dkl kvs) => some kvs | _ => none)
  | _ => none
def fIn (x y : D) (S : Store) : M D := match dkAt S y with
  | some kvs => if k0 x = true then some (.ok (.bl (fget kvs x).isSome) S) else none
  | none => none
def fNi (x y : D) (S : Store) : M D := match dkAt S y with
  | some kvs => if k0 x = true then some (.ok (.bl (!(fget kvs x).isSome)) S) else none
  | none => none
def fGet (y x : D) (S : Store) : M D := match dkAt S y with
  | some kvs => if k0 x = true then (match fget kvs x with | some v => some (.ok v S) | none => none) else none
  | none => none
/-- d[k] = v -/
def sFPut (d k v : SE) : SS := fun ρ S => bo (v ρ S) ρ fun w S1 => bo (d ρ S1) ρ fun y S2 => bo (k ρ S2) ρ fun x S3 => match y with
  | .ref n => (match S3[n]? with
    | some (.dk kvs) => if kvs.length < 16000000 ∧ k0 x = true then some (.nx ρ (S3.set n (.dk (fput kvs x w)))) else none
    | _ => none)
  | _ => none
/-- {} -/
def eDctF : SE := fun _ S => new1 (.dk []) S
/-- {k: v} -/
def eFDct1 (k v : SE) : SE := fun ρ S => bd (k ρ (S ++ [.dk []])) fun x S1 => bd (v ρ S1) fun w S2 => match S2[S.length]? with
  | some (.dk []) => if k0 x = true then some (.ok (.ref S.length) (S2.set S.length (.dk [(x, w)]))) else none
  | _ => none
def fOf : List D → Option (List (D × D))
  | [] => some []
  | .tup [k, v] :: r => (match fOf r with | some t => if k0 k = true then some ((k, v) :: t) else none | none => none)
  | _ => none
/-- dict(xs), of a tuple of pairs -/
def dictTF : Fn := fun ds S => match ds with
  | [.tup xs] => (match fOf xs with
      | some kvs => if kvs.length < 16000000 then new1 (.dk (kvs.foldl (fun acc p => fput acc p.1 p.2) [])) S else none
      | none => none)
  | _ => none
/-- d.get(k, v) -/
def eFGet2 (d k v : SE) : SE := fun ρ S => bd (d ρ S) fun y S1 => match dkAt S1 y with
  | some _ => bd (k ρ S1) fun x S2 => bd (v ρ S2) fun w S3 => (match dkAt S3 y with
    | some kvs => if k0 x = true then some (.ok ((fget kvs x).getD w) S3) else none
    | none => none)
  | none => none
/-- len(d), d a dict -/
def dlenF : Fn := fun ds S => match ds with
  | [.ref n] => (match S[n]? with
    | some (.st kvs) => if kvs.length < 16000000 then some (.ok (.int kvs.length) S) else none
    | some (.dk kvs) => if kvs.length < 16000000 then some (.ok (.int kvs.length) S) else none
    | _ => none)
  | _ => none
@[simp] theorem o_dlen (n : Nat) (S : Store) : dlenF [.ref n] S = (match S[n]? with
    | some (.st kvs) => if kvs.length < 16000000 then some (.ok (.int kvs.length) S) else none
    | some (.dk kvs) => if kvs.length < 16000000 then some (.ok (.int kvs.length) S) else none
    | _ => none) := rfl
/-- enumerate(t), t a tuple -/
def enumL : Nat → List D → List D
  | _, [] => []
  | k, d :: ds => .tup [.int (k : Nat), d] :: enumL (k + 1) ds
def iEnum1 (a : SE) : SI := fun ρ S => bd (a ρ S) fun d S1 => match d with
  | .tup ds => some (.ok ⟨enumL 0 ds, fun _ => True⟩ S1)
  | _ => none
/-- t[::-1], a tuple -/
def revTD : D → Store → M D := fun d S => match d with
  | .tup xs => some (.ok (.tup xs.reverse) S)
  | _ => none
section
variable {ρ : Env} {S : Store}
@[simp] theorem x_enum1 (a : SE) : iEnum1 a ρ S = bd (a ρ S) fun d S1 => match d with
  | .tup ds => some (.ok ⟨enumL 0 ds, fun _ => True⟩ S1)
  | _ => none := rfl
@[simp] theorem o_revT (xs : List D) : revTD (.tup xs) S = some (.ok (.tup xs.reverse) S) := rfl
@[simp] theorem x_dctF : eDctF ρ S = some (.ok (.ref S.length) (S ++ [.dk []])) := rfl
@[simp] theorem o_dkAt (n : Nat) : dkAt S (.ref n) = (match S[n]? with | some (.dk kvs) => some kvs | some (.dkl kvs) => some kvs | _ => none) := rfl
@[simp] theorem o_fIn (x y : D) : fIn x y S = match dkAt S y with
  | some kvs => if k0 x = true then some (.ok (.bl (fget kvs x).isSome) S) else none
  | none => none := rfl
@[simp] theorem o_fNi (x y : D) : fNi x y S = match dkAt S y with
  | some kvs => if k0 x = true then some (.ok (.bl (!(fget kvs x).isSome)) S) else none
  | none => none := rfl
@[simp] theorem o_fGet (x y : D) : fGet y x S = match dkAt S y with
  | some kvs => if k0 x = true then (match fget kvs x with | some v => some (.ok v S) | none => none) else none
  | none => none := rfl
@[simp] theorem x_fput (d k v : SE) : sFPut d k v ρ S = bo (v ρ S) ρ fun w S1 => bo (d ρ S1) ρ fun y S2 => bo (k ρ S2) ρ fun x S3 => match y with
  | .ref n => (match S3[n]? with
    | some (.dk kvs) => if kvs.length < 16000000 ∧ k0 x = true then some (.nx ρ (S3.set n (.dk (fput kvs x w)))) else none
    | _ => none)
  | _ => none := rfl
@[simp] theorem x_fdct1 (k v : SE) : eFDct1 k v ρ S = bd (k ρ (S ++ [.dk []])) fun x S1 => bd (v ρ S1) fun w S2 => match S2[S.length]? with
  | some (.dk []) => if k0 x = true then some (.ok (.ref S.length) (S2.set S.length (.dk [(x, w)]))) else none
  | _ => none := rfl
@[simp] theorem x_fget2 (d k v : SE) : eFGet2 d k v ρ S = bd (d ρ S) fun y S1 => match dkAt S1 y with
  | some _ => bd (k ρ S1) fun x S2 => bd (v ρ S2) fun w S3 => (match dkAt S3 y with
    | some kvs => if k0 x = true then some (.ok ((fget kvs x).getD w) S3) else none
    | none => none)
  | none => none := rfl
@[simp] theorem o_k0i (i : Int) : k0 (.int i) = true := rfl
@[simp] theorem o_k0s (s : List Nat) : k0 (.str s) = true := rfl
theorem o_dictTF (xs : List D) : dictTF [.tup xs] S = (match fOf xs with
      | some kvs => if kvs.length < 16000000 then some (.ok (.ref S.length) (S ++ [.dk (kvs.foldl (fun acc p => fput acc p.1 p.2) [])])) else none
      | none => none) := rfl
end
end Z
namespace Z
open PySem PySem.Spec PyProof.Rows L2
section
variable {X : Cx} {W : WX} {a b c e tg : Expr} {ma mb mc m : SE} {pos : Pos}
theorem ge_lr {p p' pos' : Pos} (hc : X.calm = true) (hg : Gl X "list") (hm : X.mg "list" = none) (hg' : Gl X "range") (hm' : X.mg "range" = none) (ha : GE X W a ma) (na : starEach [a] X.env = (false, eval a X.env) :: starEach [] X.env := by rfl)
    (nb : starEach [.Call (.Name "range" p') [a] [] pos'] X.env = (false, eval (.Call (.Name "range" p') [a] [] pos') X.env) :: starEach [] X.env := by rfl) : GE X W (.Call (.Name "list" p) [.Call (.Name "range" p') [a] [] pos'] [] pos) (eLR ma) :=
  (pe_listRg hc hg hm (prg_1 hg' hm' ha na) nb).imp fun σ H Q ⟨ι, ρ, S, s, r, p⟩ => by
  refine ⟨ι, ρ, S, s, r, Po.bd p fun d S1 ι1 H1 x e1 s1 r1 p1 => ?_⟩
  split at p1
  · rename_i n
    rw [Rep] at r1
    subst r1
    split at p1
    · rename_i hb
      rw [r62_iff, LINE_eq] at hb
      refine ⟨n, rfl, ⟨by omega, by omega, by omega, by omega, by omega⟩, fun q hq => ?_⟩
      have hr : RepL X.KW ι1 H1 ((List.range n.toNat).map fun (k : Nat) => .int k) (rgV 0 n) := by
        refine RepL.of_get (by rw [rgV_length]; simp) fun i d v h1 h2 => ?_
        rw [List.getElem?_map] at h1
        unfold rgV at h2
        rw [List.getElem?_map] at h2
        obtain ⟨k, h3, rfl⟩ := Option.map_eq_some_iff.mp h1
        obtain ⟨k', h4, rfl⟩ := Option.map_eq_some_iff.mp h2
        have : n - 0 = n := by omega
        rw [this, h3] at h4
        cases h4
        rw [Rep]; simp
      exact Po.ret (Po.mono (ext_new (t := [q]) (o := .lst (rgV 0 n)) hq) p1) (s1.newL hq hr) (Rep.newL s1)
    · exact p1.elim
  · exact p1.elim
end
end Z
namespace Z
open PySem PySem.Spec PyProof.Rows L2
theorem _root_.L2.Room.u1 {k : Nat} {A : Around} (r : Room k A) : A.units + 1 < cLine := by have := r.un; omega
theorem keyD_eq : ∀ {x y : D} {k l : Key}, keyD x = some k → keyD y = some l → kEq0 x y = decide (k = l)
  | .int i, .int j, k, l, h, g => by cases h; cases g; simp [kEq0]
  | .str s, .str t, k, l, h, g => by
    cases h; cases g
    have : (Sum.inr (str s) : Key) = Sum.inr (str t) ↔ s = t := ⟨fun e => by have := Sum.inr.inj e; simpa using congrArg (fun z : Str => z.cps.toList) this, fun e => by rw [e]⟩
    simp only [kEq0]
    rw [Bool.eq_iff_iff]
    simp only [decide_eq_true_eq]
    exact this.symm
  | .int i, .str t, k, l, h, g => by cases h; cases g; simp [kEq0]
  | .str s, .int j, k, l, h, g => by cases h; cases g; simp [kEq0]
theorem keysD_eq : ∀ {xs ys : List D} {ks ls : List Key}, keysD xs = some ks → keysD ys = some ls → kEqL xs ys = decide (ks = ls)
  | [], [], ks, ls, h, g => by cases h; cases g; simp [kEqL]
  | [], y :: ys, ks, ls, h, g => by
    rw [keysD] at g
    split at g
    · cases h; cases g; simp [kEqL]
    · cases g
  | x :: xs, [], ks, ls, h, g => by
    rw [keysD] at h
    split at h
    · cases h; cases g; simp [kEqL]
    · cases h
  | x :: xs, y :: ys, ks, ls, h, g => by
    rw [keysD] at h g
    split at h
    · rename_i a as h1 h2
      split at g
      · rename_i b bs g1 g2
        cases h; cases g
        rw [kEqL, keyD_eq h1 g1, keysD_eq h2 g2, Bool.eq_iff_iff]
        simp
      · cases g
    · cases h
theorem keysD_ok : ∀ {xs : List D}, xs.all k0 = true → ∃ ks, keysD xs = some ks
  | [], _ => ⟨[], rfl⟩
  | x :: xs, h => by
    rw [List.all_cons, Bool.and_eq_true] at h
    obtain ⟨ks, e⟩ := keysD_ok h.2
    cases x with
    | int i => exact ⟨_, by rw [keysD, e]; rfl⟩
    | str s => exact ⟨_, by rw [keysD, e]; rfl⟩
    | _ => cases h.1
section
variable {K : KW} {ι : List Addr} {H : Hp}
theorem repL_keys : ∀ {xs : List D} {vs : List V} {ks : List Key}, RepL K ι H xs vs → keysD xs = some ks → vs = ks.map kV
  | [], vs, ks, r, h => by cases h; exact r.nil
  | x :: xs, vs, ks, r, h => by
    obtain ⟨v, t, rfl, r1, r2⟩ := r.cons
    rw [keysD] at h
    split at h
    · rename_i k ks' h1 h2
      cases h
      rw [repL_keys r2 h2, List.map_cons]
      cases x with
      | int i => cases h1; rw [Rep] at r1; rw [r1]; rfl
      | str s => cases h1; rw [Rep] at r1; rw [r1.1]; rfl
      | _ => cases h1
    · cases h
theorem tget_ok {k : List D} {ks : List Key} (hk : keysD k = some ks) : ∀ {kvs : List (List D × D)} {es : List (List Key × V)}, KsR keysD K ι H kvs es → match tget kvs k with
    | some d => ∃ v, valV es ks = some v ∧ Rep K ι H d v
    | none => valV es ks = none
  | [], es, h => by rw [KsR] at h; subst h; exact valV_nil
  | p :: r, es, h => by
    rw [KsR] at h
    obtain ⟨k', v, t, rfl, h1, h2, h3⟩ := h
    have e := keysD_eq h1 hk
    have ih := tget_ok hk h3
    by_cases c : k' = ks
    · have : kEqL p.1 k = true := by rw [e]; simp [c]
      have g : tget (p :: r) k = some p.2 := by simp [tget, List.find?_cons, this]
      rw [g]
      exact ⟨v, valV_pos (p := (k', v)) c, h2⟩
    · have : kEqL p.1 k = false := by rw [e]; simp [c]
      have g : tget (p :: r) k = tget r k := by simp [tget, List.find?_cons, this]
      rw [g, valV_neg (p := (k', v)) c]
      exact ih
theorem KsR.snoc {α κ : Type} {key : α → Option κ} {x : α} {d : D} {k : κ} {v : V} (hk : key x = some k) (r : Rep K ι H d v) : ∀ {kvs : List (α × D)} {es : List (κ × V)}, KsR key K ι H kvs es → KsR key K ι H (kvs ++ [(x, d)]) (es ++ [(k, v)])
  | [], es, h => by rw [KsR] at h; subst h; exact ⟨k, v, [], rfl, hk, r, rfl⟩
  | p :: q, es, h => by
    rw [KsR] at h
    obtain ⟨k', v', t, rfl, h1, h2, h3⟩ := h
    rw [List.cons_append, KsR]
    exact ⟨k', v', _, rfl, h1, h2, KsR.snoc hk r h3⟩
theorem any_ok {k : List D} {ks : List Key} (hk : keysD k = some ks) : ∀ {kvs : List (List D × D)} {es : List (List Key × V)}, KsR keysD K ι H kvs es → (kvs.any fun p => kEqL p.1 k) = es.any fun p => decide (p.1 = ks)
  | [], es, h => by rw [KsR] at h; subst h; rfl
  | p :: r, es, h => by
    rw [KsR] at h
    obtain ⟨k', v, t, rfl, h1, h2, h3⟩ := h
    rw [List.any_cons, List.any_cons, any_ok hk h3, keysD_eq h1 hk]
theorem map_ok {k : List D} {ks : List Key} (hk : keysD k = some ks) {d : D} {w : V} (rd : Rep K ι H d w) : ∀ {kvs : List (List D × D)} {es : List (List Key × V)}, KsR keysD K ι H kvs es → KsR keysD K ι H (kvs.map fun p => if kEqL p.1 k = true then (p.1, d) else p) (es.map fun p => if p.1 = ks then (p.1, w) else p)
  | [], es, h => by rw [KsR] at h; subst h; rfl
  | p :: r, es, h => by
    rw [KsR] at h
    obtain ⟨k', v, t, rfl, h1, h2, h3⟩ := h
    rw [List.map_cons, List.map_cons, KsR, keysD_eq h1 hk]
    by_cases c : k' = ks
    · exact ⟨k', w, _, by rw [if_pos c], by simp [c, h1], by simpa [c] using rd, map_ok hk rd h3⟩
    · exact ⟨k', v, _, by rw [if_neg c], by simp [c, h1], by simpa [c] using h2, map_ok hk rd h3⟩
theorem tput_ok {k : List D} {ks : List Key} (hk : keysD k = some ks) {d : D} {w : V} (rd : Rep K ι H d w) {kvs : List (List D × D)} {es : List (List Key × V)} (h : KsR keysD K ι H kvs es) : KsR keysD K ι H (tput kvs k d) (putK es ks w) := by
  unfold tput putK
  rw [any_ok hk h]
  split
  · exact map_ok hk rd h
  · exact KsR.snoc hk rd h
end
end Z
namespace Z
open PySem PySem.Spec PyProof.Rows L2
theorem _root_.L2.Room.u3 {k : Nat} {A : Around} (r : Room k A) : A.units + 3 < cLine := by have := r.un; omega
section
variable {K : KW} {ι : List Addr} {H : Hp}
theorem kv_ok {x : D} {y : V} {ks : List D} (r : Rep K ι H x y) (h : kvL x = some ks) : ∃ b kk, y = .ref b ∧ H b = some (.tup (kk.map kV)) ∧ keysD ks = some kk := by
  unfold kvL at h
  split at h
  · rename_i zs
    split at h
    · rename_i hk
      cases h
      rw [Rep] at r
      obtain ⟨a, vs, rfl, h1, h2⟩ := r
      rw [hk] at h1
      obtain ⟨kk, hkk⟩ := keysD_ok (fK_all hk)
      exact ⟨a, kk, rfl, by rw [← repL_keys h2 hkk]; exact h1, hkk⟩
    · cases h
  · cases h
theorem st_ok {S : Store} (s : Sim K ι S H) {x : D} {y : V} {kvs : List (List D × D)} (r : Rep K ι H x y) (h : stAt S x = some kvs) : ∃ a en, y = .ref a ∧ Rd H a (.dT en) ∧ KsR keysD K ι H kvs en := by
  unfold stAt at h
  split at h
  · rename_i n
    rw [Rep] at r
    obtain ⟨a, rfl, ha⟩ := r
    split at h
    · rename_i g
      cases h
      obtain ⟨en, he, hr⟩ := s.get ha g
      exact ⟨a, en, rfl, .inl he, hr⟩
    · rename_i g
      cases h
      obtain ⟨o, en, he, hr⟩ := s.get ha g
      exact ⟨a, en, rfl, .inr ⟨o, he⟩, hr⟩
    · cases h
  · cases h
end
section
variable {X : Cx} {W : WX} {a b o d k : Expr} {ma mb md mk mv : SE} {pos pos' : Pos}
theorem isSome_ok {K : KW} {ι : List Addr} {H : Hp} {ks : List D} {kk : List Key} (hk : keysD ks = some kk) {kvs : List (List D × D)} {en : List (List Key × V)} (h : KsR keysD K ι H kvs en) : (valV en kk).isSome = (tget kvs ks).isSome := by
  have t := tget_ok hk h
  cases c : tget kvs ks with
  | none => rw [c] at t; rw [t]; rfl
  | some w => rw [c] at t; obtain ⟨v, hv, _⟩ := t; rw [hv]; rfl
theorem kin_read {σ : L2.St} {H : Hp} {Q : VK} (h : tE X.KW X.mg W (e2 kIn ma mb) σ H Q) : tDIn (tE X.KW X.mg W ma) (tE X.KW X.mg W mb) σ H Q := by
  obtain ⟨ι, ρ, S, s, r, p⟩ := h
  refine ⟨ι, ρ, S, s, r, Po.bd p fun x S1 ι1 H1 y e1 s1 r1 p1 => ?_⟩
  refine ⟨ι1, ρ, S1, s1, r.ext e1, Po.bd p1 fun z S2 ι2 H2 w e2 s2 r2 p2 => ?_⟩
  have r1 := Rep.ext e2 _ _ r1
  unfold kIn at p2
  split at p2
  · rename_i ks kvs g1 g2
    obtain ⟨b, kk, rfl, h1, hk⟩ := kv_ok r1 g1
    obtain ⟨a, en, rfl, h2, hr⟩ := st_ok s2 r2 g2
    refine ⟨a, valV en kk, rfl, .inr ⟨en, kk, b, h2, rfl, h1, rfl⟩, ?_⟩
    rw [isSome_ok hk hr]
    exact Po.ret p2 s2 (by rw [Rep])
  · exact p2.elim
theorem gs_kput {value : Expr} (hu : X.A.units + 1 < cLine) (hv : GE X W value mv) (hd : GE X W d md) (hk : GE X W k mk)
    (hs : swapsWith value (some (.Subscript d k pos')) pos.line X.env = pure false := by rfl) : GS X W (.Assign [.Subscript d k pos'] value pos) (sKPut md mk mv) := (ps_dput hu hd hk hv hs).imp fun En σ H ⟨ι, ρ, S, s, r, p⟩ => by
  unfold sKPut at p
  refine ⟨ι, ρ, S, s, r, PoS.bo r p fun w S1 ι1 H1 v e1 s1 r1 rr1 p1 => ?_⟩
  refine ⟨ι1, ρ, S1, s1, rr1, PoS.bo rr1 p1 fun x S2 ι2 H2 y e2 s2 r2 rr2 p2 => ?_⟩
  refine ⟨ι2, ρ, S2, s2, rr2, PoS.bo rr2 p2 fun z S3 ι3 H3 t e3 s3 r3 rr3 p3 => ?_⟩
  split at p3
  · rename_i n ks g1
    split at p3
    · rename_i kvs g
      split at p3
      · rename_i hl
        obtain ⟨b, kk, rfl, h1, hk⟩ := kv_ok r3 g1
        have r2 := Rep.ext e3 _ _ r2
        rw [Rep] at r2
        obtain ⟨a, rfl, ha⟩ := r2
        obtain ⟨en, he, hr⟩ := s3.get ha g
        have rw3 : Rep X.KW ι3 H3 w v := Rep.ext e3 _ _ (Rep.ext e2 _ _ r1)
        refine ⟨a, upd H3 a (.dT (putK en kk v)), rfl, .inr ⟨en, kk, b, he, rfl, h1, by rw [hr.length, sizeLine_eq]; omega, rfl⟩, ?_⟩
        have em : Ext ι3 H3 ι3 (upd H3 a (.dT (putK en kk v))) := ext_mut he trivial
        exact p3 ι3 _ σ em (s3.put ha ⟨_, upd_same, KsR.ext em _ _ (tput_ok hk rw3 hr)⟩ ⟨_, he, trivial⟩) (rr3.ext em)
      · exact p3.elim
    · exact p3.elim
  · exact p3.elim
end
end Z
namespace L2
open PySem PySem.Spec PyProof.Rows
def tD1 (tk tv : TE) : TE := fun σ H Q => ∀ p, H p = none → tPairs [(tk, tv)] σ (upd H p (.dT [])) fun ps H2 => ∃ b ks y, ps = [(V.ref b, y)] ∧ H2 p = some (.dT []) ∧ H2 b = some (.tup (ks.map kV)) ∧ Q (.ref p) (upd H2 p (.dT [(ks, y)]))
theorem pe_dct1 {X : Cx} {pos : Pos} {k v : Expr} {tk tv : TE} (hu : X.A.units < cLine) (hk : PE X k tk) (hv : PE X v tv) : PE X (.Dict [some k] [v] pos) (tD1 tk tv) := by
  refine ⟨fun pins s σ H Q I q => ?_⟩
  have hn := I.hok.fresh (Nat.le_refl s.heap.objs.size)
  have I1 := I.laid (a := s.heap.objs.size) (o := .dT []) (h' := s.heap.push { cls := .type "dict", data := .dict #[] }) (t' := s.toks) (fun _ _ q => Heap.get?_push_of_some _ q) (Nat.le_refl _) (dt_empty s.heap I.big)
  rw [arm_eval_Dict, zip_pairTrees [some k] [v] X.env pos rfl rfl, dictDisplay_pairs (pairTrees [some k] [v] X.env pos) (by intro h; cases h) (Nat.le_of_ble_eq_true rfl)]
  refine wpAny_bind (wpAny_standAt (wpAny_bind (wpAny_subDictH (knd := tupleKind (mixKind X.prog X.w)) (Q := fun d s' => wpAny (model X.prog X.w) X.A (pure (Value.ref d)) _ _ s') hu (Nat.le_of_ble_eq_true rfl) ?_)))
  refine thn ((pps_cons hk hv pps_nil).run pins _ σ _ _ I1 (q _ hn)) fun ws s2 ⟨ps, H2, I2, rel, b, ks, y, ep, e, eb, q2⟩ => ?_
  subst ep
  obtain ⟨⟨u, w⟩, t, rfl, ⟨ru, rw'⟩, rt⟩ : ∃ c t, ws = c :: t ∧ (RelV (V.ref b) c.1 ∧ RelV y c.2) ∧ VV [] t := by
    cases rel with
    | cons h t => exact ⟨_, _, rfl, h, t⟩
  cases rt
  cases (show u = Value.ref b from ru)
  obtain ⟨z, hd, xs0, r0, dd⟩ := dt_of I2.hok e
  cases r0
  refine ⟨[(ks, b, w)], ⟨rfl, rfl, key_of I2.hok eb, trivial⟩, dd, fun h' tk dd' hs => wpAny_pure ⟨.ref s.heap.objs.size, _, ?_, rfl, q2⟩⟩
  obtain ⟨o, es, epc, ho, h2, h3, h4, _, h5⟩ := dd'
  refine d_write I2 (by rw [e]; exact True.intro) hs ⟨o, ho⟩ ⟨by rw [sizeLine_eq]; simp, hd, [(ks, b, w)], .cons ⟨rfl, ?_, rw'⟩ .nil, o, es, epc, ho, h2, h3, h4, h5⟩
  rw [upd_ne (ne_of eb e (fun z => nomatch z))]
  exact eb
end L2
namespace Z
open PySem PySem.Spec PyProof.Rows L2
section
variable {X : Cx} {W : WX} {e k v : Expr} {m mk mv : SE} {pos : Pos}
theorem ge_dct1 (hu : X.A.units + 3 < cLine) (hk : GE X W k mk) (hv : GE X W v mv) : GE X W (.Dict [some k] [v] pos) (eDct1 mk mv) := (pe_dct1 (by omega) hk hv).imp fun σ H Q ⟨ι, ρ, S, s, r, p⟩ => by
  intro pA hp
  have e0 : Ext ι H (ι ++ [pA]) (upd H pA (.dT [])) := ext_new hp
  have s0 : Sim X.KW (ι ++ [pA]) (S ++ [.st []]) (upd H pA (.dT [])) := s.new hp ⟨[], upd_same, rfl⟩
  have ha : (ι ++ [pA])[S.length]? = some pA := by rw [← s.len, List.getElem?_append_right (Nat.le_refl _)]; simp
  refine ⟨_, ρ, _, s0, r.ext e0, Po.bd (Po.mono e0 p) fun x S1 ι1 H1 y e1 s1 r1 p1 => ?_⟩
  refine ⟨ι1, ρ, S1, s1, (r.ext e0).ext e1, Po.bd p1 fun z S2 ι2 H2 w e2 s2 r2 p2 => ?_⟩
  split at p2
  · rename_i ks g1 g
    have r1 := Rep.ext e2 _ _ r1
    obtain ⟨b, kk, rfl, h1, hk⟩ := kv_ok r1 g1
    have ha2 := (e1.trans e2).at ha
    obtain ⟨en, he, hr⟩ := s2.get ha2 g
    rw [KsR] at hr
    subst hr
    refine ⟨b, kk, w, rfl, he, h1, ?_⟩
    have em : Ext ι2 H2 ι2 (upd H2 pA (.dT [(kk, w)])) := ext_mut he trivial
    exact Po.ret (Po.mono em p2) (s2.put ha2 ⟨_, upd_same, kk, w, [], rfl, hk, Rep.ext em _ _ r2, rfl⟩ ⟨_, he, trivial⟩) (by rw [Rep]; exact ⟨pA, rfl, ha2⟩)
  · exact p2.elim
/-- what stays when a dict is unlocked -/
structure Wk (H H' : Hp) : Prop where
  tup : ∀ a xs, H a = some (.tup xs) → H' a = some (.tup xs)
  frz : ∀ a o xs, H a = some (.frz o (.lst xs)) → H' a = some (.frz o (.lst xs))
  frzT : ∀ a o xs, H a = some (.frz o (.tup xs)) → H' a = some (.frz o (.tup xs))
  cod : ∀ a q, H a = some (LamX.CodeO a q) → H' a = some (LamX.CodeO a q)
theorem Wk.tupAt {H H' : Hp} (e : Wk H H') {a : Addr} {xs : List V} : ∀ {b : Bool}, TupAt H a xs b → TupAt H' a xs b
  | true, h => e.tup _ _ h
  | false, ⟨o, h1, h2⟩ => ⟨o, h1, e.frzT _ _ _ h2⟩
end
end Z
namespace L2
open PySem PySem.Spec PyProof.Rows
def wOf (e : Int × Value) : Str := match e.2 with | .str s _ => s | _ => Str.empty
def GoodW (P : Program) (w : World) (e : Int × Value) : Prop := ∃ s t, e.2 = Value.str s t ∧ e.1 = (strKind P w).hash s
def SetW (P : Program) (w : World) (h : Heap) (a : Addr) (L : List Str) : Prop :=
  ∃ o es ep t, h.get? a = some o ∧ o.ExactSet ∧ o.data = .set es ep t ∧ (∀ e ∈ es.toList, GoodW P w e) ∧ es.toList.map wOf = L ∧ L.Nodup ∧ es.size < scanBound ∧ t.fits es.size = true ∧ Ris t.place.toList ∧ (w.params.followText "set-order" = true ∨ t.led = true)
section
variable {P : Program} {w : World} {A : Around} {E : Value → Shared → Prop} {s : Shared} {a : Addr} {L : List Str}
theorem SetW.keep {h h' : Heap} (R : SetW P w h a L) (k : ∀ o, h.get? a = some o → h'.get? a = some o) : SetW P w h' a L := by
  obtain ⟨o, es, ep, t, ho, r⟩ := R
  exact ⟨o, es, ep, t, k o ho, r⟩
end
end L2
namespace Z
open PySem PySem.Spec PyProof.Rows L2
def un (y : Str) : List Nat := y.cps.toList
end Z
namespace L2
open PySem PySem.Spec PyProof.Rows
theorem pairsV_of {X : Cx} {pins : List (Addr × Obj)} {σ : St} {H : Hp} {s : Shared} (I : Inv X pins σ H s) : ∀ {ps : List Addr} {kvs : List (Key × V)}, Paired (fun p kv => SqT X.KW H p [kV kv.1, kv.2]) ps kvs →
    ∃ (vs : List (Value × Value)) (rs : List (Key × Value)), KV kvs rs ∧ vs.length = ps.length ∧ rs.length = ps.length ∧ ∀ (j : Nat) (u v : Value), vs[j]? = some (u, v) → ∃ (p : Addr) (k : Key), ps[j]? = some p ∧ IsTup s.heap p #[u, v] ∧ rs[j]? = some (k, v) ∧ keyIs k u = true
  | _, _, .nil => ⟨[], [], .nil, rfl, rfl, fun j u v e => by simp at e⟩
  | _, _, .cons (a := p) (b := kv) h t => by
    obtain ⟨vs, rs, r, hl, hl2, hp⟩ := pairsV_of I t
    obtain ⟨its, rv, ht, _⟩ := I.tuple h
    obtain ⟨u, y, ei, ru, ry⟩ := vals2 rv
    subst ei
    refine ⟨(u, y) :: vs, (kv.1, y) :: rs, .cons ⟨rfl, ry⟩ r, by rw [List.length_cons, List.length_cons, hl], by rw [List.length_cons, List.length_cons, hl2], fun j u' v' e => ?_⟩
    cases j with
    | zero =>
      have e' : (u, y) = (u', v') := Option.some.inj e
      cases e'
      exact ⟨p, kv.1, rfl, ht, rfl, kV_is (P := X.prog) (w := X.w) ru⟩
    | succ j =>
      obtain ⟨p', k', e1, e2, e3, e4⟩ := hp j u' v' (by simpa using e)
      exact ⟨p', k', by simpa using e1, e2, by simpa using e3, e4⟩
/-- dict(t), t a tuple of pairs (key, value) that is known to bear no dict -/
theorem call_dictPT {X : Cx} (hcalm : X.calm = true) : CallR X (.type "dict") (fun xs H Q => ∃ (a : Addr) (ob : Obj) (ps : List Addr) (kvs : List (Key × V)), xs = [.ref a] ∧ ob.dict = none ∧ H a = some (.frz ob (.tup (ps.map V.ref))) ∧ Paired (fun p kv => SqT X.KW H p [kV kv.1, kv.2]) ps kvs ∧
    ∀ p, H p = none → Q (.ref p) (upd H p (.dK (mergeK [] kvs)))) := by
  intro pins s σ H xs us Q I r q
  obtain ⟨a, ob, ps, kvs, ex, hdn, hq, hp, q⟩ := q
  subst ex
  obtain ⟨u, eu, rx⟩ := vals1 r
  subst eu
  cases rx
  obtain ⟨hob, hz, its, rv, o', ho', hc, n, hdat⟩ := (show ObjOk X.prog X.w H s.heap a (.frz ob (.tup (ps.map V.ref))) from I.hok a _ hq)
  rw [hob] at ho'
  cases ho'
  have ei := refs_at rv
  subst ei
  rw [List.length_map] at hz
  obtain ⟨vs, rs, rel, hl, hl2, hpr⟩ := pairsV_of I hp
  let Ts : Nat → Addr := fun j => ps.getD j 0
  have ok : PlainSeq "tuple" s.heap a (ps.map Value.ref).toArray ∧ PairItems s.heap (ps.map Value.ref).toArray Ts vs := by
    refine ⟨⟨ob, n, hob, hc, hdn, hdat⟩, by simp [hl], fun j k v e => ?_⟩
    obtain ⟨p, k', e1, e2, _⟩ := hpr j k v e
    have eT : Ts j = p := by simp [Ts, List.getD_eq_getElem?_getD, e1]
    refine ⟨by simp [e1, eT], .inl ?_⟩
    rw [eT]
    exact e2
  refine PySem.call_dict_pairs (knd := mixKind X.prog X.w) (kvs := rs) (PairArg.tuple a (ps.map Value.ref).toArray Ts vs) (I.ok.hd hcalm) ok ⟨by rw [hl, hl2], fun i key v e => ?_⟩ (by rw [hl]; exact hz) fun h' tk dd hk => ?_
  · obtain ⟨p, k, _, _, e3, e4⟩ := hpr i key v e
    exact ⟨k, e3, e4⟩
  · have hm : (s.heap.objs.size == sysModules) = false := beq_eq_false_iff_ne.mpr (Nat.ne_of_gt I.big)
    have hlen : (mergeK [] kvs).length ≤ sizeLine := by
      refine Nat.le_trans (length_mergeK kvs []) ?_
      rw [List.length_nil, Nat.zero_add, rel.length, hl2]
      exact hz
    exact ⟨.ref s.heap.objs.size, upd H s.heap.objs.size (.dK (mergeK [] kvs)), I.laid (t' := tk) (fun b o e => hk b o (by simp) e) (Nat.le_refl _) (show ObjOk X.prog X.w _ _ _ (.dK (mergeK [] kvs)) from ⟨hlen, hm, merged [] rs, KV.merge rel .nil, dd⟩), rfl, q _ (I.hok.fresh (Nat.le_refl _))⟩
end L2
namespace Z
open PySem PySem.Spec PyProof.Rows L2
theorem keyD_ok {x : D} (h : k0 x = true) : ∃ k, keyD x = some k := by
  cases x with
  | int i => exact ⟨_, rfl⟩
  | str s => exact ⟨_, rfl⟩
  | _ => cases h
section
variable {K : KW} {ι : List Addr} {H : Hp}
theorem rep_key {x : D} {y : V} {k : Key} (r : Rep K ι H x y) (h : keyD x = some k) : y = kV k := by
  cases x with
  | int i => cases h; rw [Rep] at r; rw [r]; rfl
  | str s => cases h; rw [Rep] at r; rw [r.1]; rfl
  | _ => cases h
theorem fget_ok {k : D} {ks : Key} (hk : keyD k = some ks) : ∀ {kvs : List (D × D)} {es : List (Key × V)}, KsR keyD K ι H kvs es → match fget kvs k with
    | some d => ∃ v, valV es ks = some v ∧ Rep K ι H d v
    | none => valV es ks = none
  | [], es, h => by rw [KsR] at h; subst h; exact valV_nil
  | p :: r, es, h => by
    rw [KsR] at h
    obtain ⟨k', v, t, rfl, h1, h2, h3⟩ := h
    have e := keyD_eq h1 hk
    have ih := fget_ok hk h3
    by_cases c : k' = ks
    · have : kEq0 p.1 k = true := by rw [e]; simp [c]
      have g : fget (p :: r) k = some p.2 := by simp [fget, List.find?_cons, this]
      rw [g]
      exact ⟨v, valV_pos (p := (k', v)) c, h2⟩
    · have : kEq0 p.1 k = false := by rw [e]; simp [c]
      have g : fget (p :: r) k = fget r k := by simp [fget, List.find?_cons, this]
      rw [g, valV_neg (p := (k', v)) c]
      exact ih
theorem fany_ok {k : D} {ks : Key} (hk : keyD k = some ks) : ∀ {kvs : List (D × D)} {es : List (Key × V)}, KsR keyD K ι H kvs es → (kvs.any fun p => kEq0 p.1 k) = es.any fun p => decide (p.1 = ks)
  | [], es, h => by rw [KsR] at h; subst h; rfl
  | p :: r, es, h => by
    rw [KsR] at h
    obtain ⟨k', v, t, rfl, h1, h2, h3⟩ := h
    rw [List.any_cons, List.any_cons, fany_ok hk h3, keyD_eq h1 hk]
theorem fmap_ok {k : D} {ks : Key} (hk : keyD k = some ks) {d : D} {w : V} (rd : Rep K ι H d w) : ∀ {kvs : List (D × D)} {es : List (Key × V)}, KsR keyD K ι H kvs es → KsR keyD K ι H (kvs.map fun p => if kEq0 p.1 k = true then (p.1, d) else p) (es.map fun p => if p.1 = ks then (p.1, w) else p)
  | [], es, h => by rw [KsR] at h; subst h; rfl
  | p :: r, es, h => by
    rw [KsR] at h
    obtain ⟨k', v, t, rfl, h1, h2, h3⟩ := h
    rw [List.map_cons, List.map_cons, KsR, keyD_eq h1 hk]
    by_cases c : k' = ks
    · exact ⟨k', w, _, by rw [if_pos c], by simp [c, h1], by simpa [c] using rd, fmap_ok hk rd h3⟩
    · exact ⟨k', v, _, by rw [if_neg c], by simp [c, h1], by simpa [c] using h2, fmap_ok hk rd h3⟩
theorem fput_ok {k : D} {ks : Key} (hk : keyD k = some ks) {d : D} {w : V} (rd : Rep K ι H d w) {kvs : List (D × D)} {es : List (Key × V)} (h : KsR keyD K ι H kvs es) : KsR keyD K ι H (fput kvs k d) (putK es ks w) := by
  unfold fput putK
  rw [fany_ok hk h]
  split
  · exact fmap_ok hk rd h
  · exact KsR.snoc hk rd h
theorem dk_ok {S : Store} (s : Sim K ι S H) {x : D} {y : V} {kvs : List (D × D)} (r : Rep K ι H x y) (h : dkAt S x = some kvs) : ∃ a en, y = .ref a ∧ Rd H a (.dK en) ∧ KsR keyD K ι H kvs en := by
  unfold dkAt at h
  split at h
  · rename_i n
    rw [Rep] at r
    obtain ⟨a, rfl, ha⟩ := r
    split at h
    · rename_i g
      cases h
      obtain ⟨en, he, hr⟩ := s.get ha g
      exact ⟨a, en, rfl, .inl he, hr⟩
    · rename_i g
      cases h
      obtain ⟨o, en, he, hr⟩ := s.get ha g
      exact ⟨a, en, rfl, .inr ⟨o, he⟩, hr⟩
    · cases h
  · cases h
theorem fSome_ok {ks : D} {kk : Key} (hk : keyD ks = some kk) {kvs : List (D × D)} {en : List (Key × V)} (h : KsR keyD K ι H kvs en) : (valV en kk).isSome = (fget kvs ks).isSome := by
  have t := fget_ok hk h
  cases c : fget kvs ks with
  | none => rw [c] at t; rw [t]; rfl
  | some w => rw [c] at t; obtain ⟨v, hv, _⟩ := t; rw [hv]; rfl
end
section
variable {X : Cx} {W : WX} {a b o d k v : Expr} {ma mb md mk mv : SE} {pos pos' : Pos}
theorem fin_read {σ : L2.St} {H : Hp} {Q : VK} (h : tE X.KW X.mg W (e2 fIn ma mb) σ H Q) : tDIn (tE X.KW X.mg W ma) (tE X.KW X.mg W mb) σ H Q := by
  obtain ⟨ι, ρ, S, s, r, p⟩ := h
  refine ⟨ι, ρ, S, s, r, Po.bd p fun x S1 ι1 H1 y e1 s1 r1 p1 => ?_⟩
  refine ⟨ι1, ρ, S1, s1, r.ext e1, Po.bd p1 fun z S2 ι2 H2 w e2 s2 r2 p2 => ?_⟩
  have r1 := Rep.ext e2 _ _ r1
  unfold fIn at p2
  split at p2
  · rename_i kvs g2
    split at p2
    · rename_i hk
      obtain ⟨kk, hkk⟩ := keyD_ok hk
      obtain ⟨a, en, rfl, h2, hr⟩ := dk_ok s2 r2 g2
      refine ⟨a, valV en kk, rfl, ?_, ?_⟩
      · rw [rep_key r1 hkk]; exact .inl ⟨en, kk, h2, rfl, rfl⟩
      · rw [fSome_ok hkk hr]
        exact Po.ret p2 s2 (by rw [Rep])
    · exact p2.elim
  · exact p2.elim
theorem ge_fin (hu : X.A.units + 1 < cLine) (ha : GE X W a ma) (hb : GE X W b mb) (hm : behindInMarks .In b = false := by first | exact nobehind _ (by decide) (by decide) | rfl) : GE X W (.Compare a [.In] [b] pos) (e2 fIn ma mb) :=
  (pe_cmp (pc_din hu ha hb) hm).imp fun σ H Q h => fin_read h
theorem ge_kin (hu : X.A.units + 1 < cLine) (ha : GE X W a ma) (hb : GE X W b mb) (hm : behindInMarks .In b = false := by first | exact nobehind _ (by decide) (by decide) | rfl) : GE X W (.Compare a [.In] [b] pos) (e2 kIn ma mb) :=
  (pe_cmp (pc_din hu ha hb) hm).imp fun σ H Q h => kin_read h
theorem ge_fget (hu : X.A.units + 1 < cLine) (hd : GE X W d md) (hk : GE X W k mk) (hs : NoSl k := by exact fun _ _ => rfl) : GE X W (.Subscript d k pos) (e2 fGet md mk) := (pe_dget hu hd hk hs).imp fun σ H Q ⟨ι, ρ, S, s, r, p⟩ => by
  refine ⟨ι, ρ, S, s, r, Po.bd p fun x S1 ι1 H1 y e1 s1 r1 p1 => ?_⟩
  refine ⟨ι1, ρ, S1, s1, r.ext e1, Po.bd p1 fun z S2 ι2 H2 w e2 s2 r2 p2 => ?_⟩
  have r1 := Rep.ext e2 _ _ r1
  unfold fGet at p2
  split at p2
  · rename_i kvs g2
    split at p2
    · rename_i hk
      obtain ⟨kk, hkk⟩ := keyD_ok hk
      obtain ⟨a, en, rfl, h2, hr⟩ := dk_ok s2 r1 g2
      have t := fget_ok hkk hr
      cases c : fget kvs z with
      | none => rw [c] at p2; exact p2.elim
      | some u =>
        rw [c] at p2 t
        obtain ⟨v, hv, rv⟩ := t
        refine ⟨a, v, rfl, ?_, Po.ret p2 s2 rv⟩
        rw [rep_key r2 hkk, ← hv]
        exact .inl ⟨en, kk, h2, rfl, rfl⟩
    · exact p2.elim
  · exact p2.elim
theorem gs_fput {value : Expr} (hu : X.A.units + 1 < cLine) (hv : GE X W value mv) (hd : GE X W d md) (hk : GE X W k mk)
    (hs : swapsWith value (some (.Subscript d k pos')) pos.line X.env = pure false := by rfl) : GS X W (.Assign [.Subscript d k pos'] value pos) (sFPut md mk mv) := (ps_dput hu hd hk hv hs).imp fun En σ H ⟨ι, ρ, S, s, r, p⟩ => by
  unfold sFPut at p
  refine ⟨ι, ρ, S, s, r, PoS.bo r p fun w S1 ι1 H1 v e1 s1 r1 rr1 p1 => ?_⟩
  refine ⟨ι1, ρ, S1, s1, rr1, PoS.bo rr1 p1 fun x S2 ι2 H2 y e2 s2 r2 rr2 p2 => ?_⟩
  refine ⟨ι2, ρ, S2, s2, rr2, PoS.bo rr2 p2 fun z S3 ι3 H3 t e3 s3 r3 rr3 p3 => ?_⟩
  split at p3
  · rename_i n
    split at p3
    · rename_i kvs g
      split at p3
      · rename_i hl
        obtain ⟨kk, hkk⟩ := keyD_ok hl.2
        have hy := rep_key r3 hkk
        have r2 := Rep.ext e3 _ _ r2
        rw [Rep] at r2
        obtain ⟨a, rfl, ha⟩ := r2
        obtain ⟨en, he, hr⟩ := s3.get ha g
        have rw3 : Rep X.KW ι3 H3 w v := Rep.ext e3 _ _ (Rep.ext e2 _ _ r1)
        refine ⟨a, upd H3 a (.dK (putK en kk v)), rfl, ?_, ?_⟩
        · rw [hy]; exact DPut.k he (by rw [hr.length, sizeLine_eq]; omega)
        have em : Ext ι3 H3 ι3 (upd H3 a (.dK (putK en kk v))) := ext_mut he trivial
        exact p3 ι3 _ σ em (s3.put ha ⟨_, upd_same, KsR.ext em _ _ (fput_ok hkk rw3 hr)⟩ ⟨_, he, trivial⟩) (rr3.ext em)
      · exact p3.elim
    · exact p3.elim
  · exact p3.elim
theorem ge_dctF : GE X W (.Dict [] [] pos) eDctF := pe_dnewK.imp fun σ H Q ⟨ι, ρ, S, s, r, p⟩ q hq => by
  have e := ext_new (ι := ι) (t := [q]) (o := HO.dK []) hq
  exact Po.ret (Po.mono e p) (s.new hq ⟨[], upd_same, rfl⟩) (Rep.newL s)
theorem ge_fdct1 (hu : X.A.units + 3 < cLine) (hk : GE X W k mk) (hv : GE X W v mv) : GE X W (.Dict [some k] [v] pos) (eFDct1 mk mv) := (pe_disp (pps_cons hk hv pps_nil) rfl rfl (by intro h; cases h) (Nat.le_of_ble_eq_true rfl)).imp fun σ H Q ⟨ι, ρ, S, s, r, p⟩ => by
  intro pA hp
  have e0 : Ext ι H (ι ++ [pA]) (upd H pA (.dK [])) := ext_new hp
  have s0 : Sim X.KW (ι ++ [pA]) (S ++ [.dk []]) (upd H pA (.dK [])) := s.new hp ⟨[], upd_same, rfl⟩
  have ha : (ι ++ [pA])[S.length]? = some pA := by rw [← s.len, List.getElem?_append_right (Nat.le_refl _)]; simp
  refine ⟨_, ρ, _, s0, r.ext e0, Po.bd (Po.mono e0 p) fun x S1 ι1 H1 y e1 s1 r1 p1 => ?_⟩
  refine ⟨ι1, ρ, S1, s1, (r.ext e0).ext e1, Po.bd p1 fun z S2 ι2 H2 w e2 s2 r2 p2 => ?_⟩
  split at p2
  · rename_i g
    split at p2
    · rename_i hk
      obtain ⟨kk, hkk⟩ := keyD_ok hk
      have r1 := Rep.ext e2 _ _ r1
      have hy := rep_key r1 hkk
      have ha2 := (e1.trans e2).at ha
      obtain ⟨en, he, hr⟩ := s2.get ha2 g
      rw [KsR] at hr
      subst hr
      refine ⟨he, [(kk, w)], by rw [hy]; rfl, Nat.le_of_ble_eq_true rfl, ?_⟩
      have em : Ext ι2 H2 ι2 (upd H2 pA (.dK [(kk, w)])) := ext_mut he trivial
      exact Po.ret (Po.mono em p2) (s2.put ha2 ⟨_, upd_same, kk, w, [], rfl, hkk, Rep.ext em _ _ r2, rfl⟩ ⟨_, he, trivial⟩) (by rw [Rep]; exact ⟨pA, rfl, ha2⟩)
    · exact p2.elim
  · exact p2.elim
theorem fOf_ok {K : KW} {ι : List Addr} {H : Hp} : ∀ {xs : List D} {vs : List V} {kvs : List (D × D)}, RepL K ι H xs vs → fOf xs = some kvs →
    ∃ (ps : List Addr) (en : List (Key × V)), vs = ps.map V.ref ∧ Paired (fun p kv => SqT K H p [kV kv.1, kv.2]) ps en ∧ KsR keyD K ι H kvs en
  | [], vs, kvs, r, h => by
    cases h
    exact ⟨[], [], r.nil, .nil, rfl⟩
  | x :: xs, vs, kvs, r, h => by
    obtain ⟨y, t, rfl, r1, r2⟩ := r.cons
    unfold fOf at h
    split at h
    · rename_i hh; cases hh
    · rename_i k' v' r' hh
      cases hh
      split at h
      · rename_i tl g2
        split at h
        · rename_i hk
          cases h
          obtain ⟨ps, en, e1, e2, e3⟩ := fOf_ok r2 g2
          rw [Rep] at r1
          obtain ⟨a, ws, rfl, h1, h2⟩ := r1
          obtain ⟨y1, t1, rfl, q1, q2⟩ := h2.cons
          obtain ⟨y2, t2, rfl, q3, q4⟩ := q2.cons
          have := q4.nil
          subst this
          obtain ⟨kk, hkk⟩ := keyD_ok hk
          have hy := rep_key q1 hkk
          subst hy
          exact ⟨a :: ps, (kk, y2) :: en, by rw [e1]; rfl, .cons h1.sq e2, kk, y2, en, rfl, hkk, q3, e3⟩
        · cases h
      · cases h
    · cases h
theorem ffold_ok {K : KW} {ι : List Addr} {H : Hp} : ∀ {kvs : List (D × D)} {en : List (Key × V)} {acc : List (D × D)} {ac : List (Key × V)}, KsR keyD K ι H kvs en → KsR keyD K ι H acc ac →
    KsR keyD K ι H (kvs.foldl (fun acc p => fput acc p.1 p.2) acc) (mergeK ac en)
  | [], en, acc, ac, h, g => by rw [KsR] at h; subst h; exact g
  | p :: kvs, en, acc, ac, h, g => by
    rw [KsR] at h
    obtain ⟨kk, y, t, rfl, h1, h2, h3⟩ := h
    have := ffold_ok h3 (fput_ok h1 h2 g)
    exact this
theorem no_dictTF : NoExF dictTF := by
  intro ds S c S'
  unfold dictTF
  split <;> (try split) <;> (try split) <;> (try split) <;> simp [new1]
theorem zc_dictTF (hc : X.calm = true) : CallR X (.type "dict") (rB X dictTF) := by
  intro pins s σ H xs us Q I r ⟨ι, S, ds, sm, rd, po⟩
  unfold dictTF at po
  split at po
  · rename_i zs
    obtain ⟨v, rfl, h⟩ := one_of (ds := []) rd
    split at po
    · rename_i kvs hk
      split at po
      · rename_i hl
        rw [Rep] at h
        obtain ⟨a, vs, rfl, h1, h2⟩ := h
        obtain ⟨ps, en, rfl, e2, e3⟩ := fOf_ok h2 hk
        have hflat : fK zs = false := by
          cases zs with
          | nil => rfl
          | cons z zs =>
            unfold fOf at hk
            split at hk
            · rename_i hh; cases hh
            · rename_i hh; cases hh; rfl
            · cases hk
        rw [hflat] at h1
        obtain ⟨ob, hdn, h1⟩ := h1
        refine call_dictPT hc pins s σ H _ us Q I r ⟨a, ob, ps, en, rfl, hdn, h1, e2, fun t ht => ?_⟩
        have ex : Ext ι H (ι ++ [t]) (upd H t (.dK (mergeK [] en))) := ext_new ht
        exact Po.ret (Po.mono ex po) (sm.new ht ⟨_, upd_same, KsR.ext ex _ _ (ffold_ok e3 rfl)⟩) (Rep.newL sm)
      · exact po.elim
    · exact po.elim
  · exact po.elim
end
end Z
namespace PySem
end PySem
namespace L2
open PySem PySem.Spec PyProof.Rows
end L2
namespace Z
open PySem PySem.Spec PyProof.Rows L2
mutual
/-- how many signs and things, by the kit's count -/
def PD.wgt : PD → Nat
  | .str s => s.length
  | .int i => i.natAbs.log2 + 1
  | .lst xs => wgtL xs
  | .tup xs => wgtL xs
  | _ => 0
def wgtL : List PD → Nat
  | [] => 0
  | x :: xs => PD.wgt x + 1 + wgtL xs
end
mutual
/-- no number in it is long -/
def PD.sml (B : Nat) : PD → Bool
  | .int i => decide (i.natAbs.log2 < B)
  | .lst xs => smlL B xs
  | .tup xs => smlL B xs
  | _ => true
def smlL (B : Nat) : List PD → Bool
  | [] => true
  | x :: xs => PD.sml B x && smlL B xs
end
end Z
namespace Z
open PySem PySem.Spec PyProof.Rows L2
section
variable {X : Cx} {W : WX} {i : Nat} {a : Addr} {e : Expr} {es : List Expr} {ma : SE} {ms : List SE} {pos : Pos}
/-- the name goes -/
def unI (i : Nat) : Option Out → Option Out
  | some (.nx ρ S) => some (.nx (ρ.set i none) S)
  | some (.bk ρ S) => some (.bk (ρ.set i none) S)
  | some (.ct ρ S) => some (.ct (ρ.set i none) S)
  | some (.rt d S) => some (.rt d S)
  | _ => none
def pickH (c : String) : List (String × SS) → Option SS
  | [] => none
  | (x, h) :: r => if c = x then some h else pickH c r
def sTryAs (i : Nat) (hs : List (String × SS)) (b : SS) : SS := fun ρ S => match b ρ S with
  | some (.ex c ρ1 S1) => (match pickH c hs with
    | some h => if i < ρ1.length then unI i (h (ρ1.set i none) S1) else none
    | none => none)
  | r => r
end
end Z
namespace Z
open PySem PySem.Spec PyProof.Rows L2
@[simp] theorem x_tryas (i : Nat) (hs : List (String × SS)) (b : SS) (ρ : Env) (S : Store) : sTryAs i hs b ρ S = match b ρ S with
  | some (.ex c ρ1 S1) => (match pickH c hs with
    | some h => if i < ρ1.length then unI i (h (ρ1.set i none) S1) else none
    | none => none)
  | r => r := rfl
end Z
namespace L2
open PySem PySem.Spec PyProof.Rows RZ
end L2
namespace Z
open PySem PySem.Spec PyProof.Rows L2
/-- pairs of the items of two tuples -/
def zipL : List D → List D → List D
  | d :: ds, e :: es => .tup [d, e] :: zipL ds es
  | _, _ => []
def iZip (a b : SE) : SI := fun ρ S => bd (a ρ S) fun d S1 => bd (b ρ S1) fun e S2 => match d, e with
  | .tup ds, .tup es => some (.ok ⟨zipL ds es, fun _ => True⟩ S2)
  | _, _ => none
@[simp] theorem x_zip (a b : SE) (ρ : Env) (S : Store) : iZip a b ρ S = bd (a ρ S) fun d S1 => bd (b ρ S1) fun e S2 => match d, e with
  | .tup ds, .tup es => some (.ok ⟨zipL ds es, fun _ => True⟩ S2)
  | _, _ => none := rfl
def smulD : D → D → Store → M D
  | .str s, .int k, S => if 2 ≤ k ∧ k ≤ 100000 ∧ 0 < s.length ∧ s.length ≤ 100 then some (.ok (.str (List.replicate k.toNat s).flatten) S) else none
  | _, _, _ => none
@[simp] theorem o_smul (s : List Nat) (k : Int) (S : Store) : smulD (.str s) (.int k) S = if 2 ≤ k ∧ k ≤ 100000 ∧ 0 < s.length ∧ s.length ≤ 100 then some (.ok (.str (List.replicate k.toNat s).flatten) S) else none := rfl
end Z
namespace L2
open PySem PySem.Spec PyProof.Rows
end L2
namespace Z
open PySem PySem.Spec PyProof.Rows L2
def insAt (c : String) (S : Store) (d : D) : Option (List (String × D)) := match d with
  | .ref n => (match S[n]? with | some (.ins c' fs) => if c' = c then some fs else none | _ => none)
  | _ => none
/-- o.f -/
def eFld (c f : String) (o : SE) : SE := fun ρ S => bd (o ρ S) fun d S1 => match insAt c S1 d with
  | some fs => (match fs.lookup f with | some v => some (.ok v S1) | none => none)
  | none => none
def putA (f : String) (v : D) : List (String × D) → List (String × D)
  | [] => [(f, v)]
  | (g, x) :: r => if g = f then (g, v) :: r else (g, x) :: putA f v r
/-- o.f = v -/
def sFld (c f : String) (o v : SE) : SS := fun ρ S => bo (v ρ S) ρ fun w S1 => bo (o ρ S1) ρ fun d S2 => match d with
  | .ref n => (match S2[n]? with | some (.ins c' fs) => if c' = c ∧ fs.length < 1000 then some (.nx ρ (S2.set n (.ins c (putA f w fs)))) else none | _ => none)
  | _ => none
/-- o.m(..) -/
def eMeth (c m : String) (F : Fn) (o : SE) (es : List SE) : SE := fun ρ S => bd (o ρ S) fun d S1 => match insAt c S1 d with
  | some fs => if (fs.lookup m).isNone = true then bd (evL es ρ S1) fun ds S2 => F (d :: ds) S2 else none
  | none => none
/-- C() -/
def eMake0 (c : String) (F : Fn) : SE := fun ρ S => match F [.ref S.length] (S ++ [.ins c []]) with
  | some (.ok .non S2) => some (.ok (.ref S.length) S2)
  | some (.ex x S2) => some (.ex x S2)
  | _ => none
section
variable {ρ : Env} {S : Store}
@[simp] theorem o_insAt (c : String) (n : Nat) : insAt c S (.ref n) = (match S[n]? with | some (.ins c' fs) => if c' = c then some fs else none | _ => none) := rfl
@[simp] theorem x_fld (c f : String) (o : SE) : eFld c f o ρ S = bd (o ρ S) fun d S1 => match insAt c S1 d with
  | some fs => (match fs.lookup f with | some v => some (.ok v S1) | none => none)
  | none => none := rfl
@[simp] theorem x_sfld (c f : String) (o v : SE) : Z.sFld c f o v ρ S = bo (v ρ S) ρ fun w S1 => bo (o ρ S1) ρ fun d S2 => match d with
  | .ref n => (match S2[n]? with | some (.ins c' fs) => if c' = c ∧ fs.length < 1000 then some (.nx ρ (S2.set n (.ins c (putA f w fs)))) else none | _ => none)
  | _ => none := rfl
@[simp] theorem x_meth (c m : String) (F : Fn) (o : SE) (es : List SE) : eMeth c m F o es ρ S = bd (o ρ S) fun d S1 => match insAt c S1 d with
  | some fs => if (fs.lookup m).isNone = true then bd (evL es ρ S1) fun ds S2 => F (d :: ds) S2 else none
  | none => none := rfl
@[simp] theorem x_make0 (c : String) (F : Fn) : eMake0 c F ρ S = match F [.ref S.length] (S ++ [.ins c []]) with
  | some (.ok .non S2) => some (.ok (.ref S.length) S2)
  | some (.ex x S2) => some (.ex x S2)
  | _ => none := rfl
end
def kOk : D → Bool
  | .int _ => true
  | .str s => s.all fun c => decide (c < 128)
  | _ => false
section
variable {X : Cx} {W : WX} {e : Expr} {m : SE}
/-- what is not told -/
def eNo : SE := fun _ _ => none
@[simp] theorem x_no (ρ : Env) (S : Store) : eNo ρ S = none := rfl
end
end Z
namespace L2
open PySem PySem.Spec PyProof.Rows
end L2
namespace Z
open PySem PySem.Spec PyProof.Rows L2
def joinTF : Fn := fun ds S => match ds with
  | [.str sep, .tup ds] => (match strsL ds with
    | some zs => if (zs.map List.length).sum + zs.length * sep.length ≤ 16777216 then some (.ok (.str (joinS sep zs)) S) else none
    | none => none)
  | _ => none
@[simp] theorem o_joinT (sep : List Nat) (ds : List D) (S : Store) : joinTF [.str sep, .tup ds] S = (match strsL ds with
    | some zs => if (zs.map List.length).sum + zs.length * sep.length ≤ 16777216 then some (.ok (.str (joinS sep zs)) S) else none
    | none => none) := rfl
def digV (cs : List Nat) : Nat := cs.foldl (fun acc c => acc * 10 + (c - 48)) 0
def digW (w : List Nat) : Bool := !w.isEmpty && (w.all fun c => decide (48 ≤ c) && decide (c ≤ 57)) && decide (w.length ≤ 600)
def intNF : Fn := fun ds S => match ds with
  | [.str w] => if digW w = true then some (.ok (.int (digV w : Nat)) S) else none
  | _ => none
@[simp] theorem o_intN (w : List Nat) (S : Store) : intNF [.str w] S = if digW w = true then some (.ok (.int (digV w : Nat)) S) else none := rfl
/-- x in (a, ..), texts -/
def inTD (x c : D) (S : Store) : M D := match x, c with
  | .str z, .tup ds => (match strsL ds with
    | some zs => some (.ok (.bl (decide (z ∈ zs))) S)
    | none => none)
  | _, _ => none
@[simp] theorem o_inT (z : List Nat) (ds : List D) (S : Store) : inTD (.str z) (.tup ds) S = (match strsL ds with
    | some zs => some (.ok (.bl (decide (z ∈ zs))) S)
    | none => none) := rfl
theorem str_injT {a b : List Nat} (h : str a = str b) : a = b := by
  injection h with h
  simpa using congrArg Array.toList h
abbrev Tab := List (List Nat × List (List Nat))
def tabAt : Tab → List Nat → Option (List (List Nat))
  | [], _ => none
  | p :: r, z => if p.1 = z then some p.2 else tabAt r z
def rowAt (tab : Tab) : D → Option (List (List Nat))
  | .str z => tabAt tab z
  | _ => none
/-- e not in ROWS -/
def eRowsNi (tab : Tab) (e : SE) : SE := fun ρ S => bd (e ρ S) fun d S1 => match d with
  | .str z => some (.ok (.bl (!(tabAt tab z).isSome)) S1)
  | _ => none
/-- len(ROWS[e]) -/
def eRowsLen (tab : Tab) (e : SE) : SE := fun ρ S => bd (e ρ S) fun d S1 => match rowAt tab d with
  | some ks => some (.ok (.int ks.length) S1)
  | none => none
/-- zip(ROWS[e], l) -/
def iZipRows (tab : Tab) (e l : SE) : SI := fun ρ S => bd (e ρ S) fun d S1 => match rowAt tab d with
  | some ks => bd (l ρ S1) fun y S2 => (match y with
    | .ref n => (match S2[n]? with
      | some (.lst ds) => if ds.all k0 = true then some (.ok ⟨zipL (ks.map .str) ds, fun S => S[n]? = some (.lst ds)⟩ S2) else none
      | _ => none)
    | _ => none)
  | none => none
/-- a tuple of texts among what stands -/
def KT (K : PySem.W.Frag) (t : Addr) (ks : List (List Nat)) : Prop :=
  (∃ (o : Obj) (its : Array Value) (n : Nat), K.lookup t = some o ∧ o.cls = .type "tuple" ∧ o.data = .seq its n ∧ its.size ≤ sizeLine ∧ Vals (ks.map fun k => V.str (str k)) its.toList) ∧ ∀ k ∈ ks, ∀ c ∈ k, c < 128
inductive RowsL (K : PySem.W.Frag) : Tab → List (Str × Value) → Prop
  | nil : RowsL K [] []
  | cons {cs : List Nat} {ks : List (List Nat)} {t : Addr} {x : Str} {tab : Tab} {kvs : List (Str × Value)} (hx : x = str cs) (h : KT K t ks) (r : RowsL K tab kvs) : RowsL K ((cs, ks) :: tab) ((x, .ref t) :: kvs)
theorem str_injR {a b : List Nat} (h : str a = str b) : a = b := by
  injection h with h
  simpa using congrArg Array.toList h
theorem RowsL.at {K : PySem.W.Frag} (z : List Nat) : ∀ {tab : Tab} {kvs : List (Str × Value)}, RowsL K tab kvs → match tabAt tab z with
    | some ks => ∃ t, kvs.lookup (str z) = some (.ref t) ∧ KT K t ks
    | none => kvs.lookup (str z) = none
  | _, _, .nil => rfl
  | _, _, .cons (cs := cs) (ks := ks) (t := t) (x := x) hx h r => by
    subst hx
    have ih := RowsL.at z r
    rw [tabAt]
    by_cases c : cs = z
    · subst c
      rw [if_pos rfl]
      exact ⟨t, by simp [List.lookup], h⟩
    · rw [if_neg c]
      have hb : (str z == str cs) = false := by
        rw [Bool.eq_false_iff]
        intro q
        exact c (str_injR (beq_iff_eq.mp q)).symm
      simp only [List.lookup, hb]
      exact ih
theorem KT.sqT {K : PySem.W.Frag} {H : Hp} {t : Addr} {ks : List (List Nat)} (h : KT K t ks) : SqT K H t (ks.map fun k => V.str (str k)) := .inr h.1
section
variable {ρ : Env} {S : Store} {tab : Tab}
@[simp] theorem x_rowsni (e : SE) : eRowsNi tab e ρ S = bd (e ρ S) fun d S1 => match d with
  | .str z => some (.ok (.bl (!(tabAt tab z).isSome)) S1)
  | _ => none := rfl
@[simp] theorem x_rowslen (e : SE) : eRowsLen tab e ρ S = bd (e ρ S) fun d S1 => match rowAt tab d with
  | some ks => some (.ok (.int ks.length) S1)
  | none => none := rfl
@[simp] theorem x_ziprows (e l : SE) : iZipRows tab e l ρ S = bd (e ρ S) fun d S1 => match rowAt tab d with
  | some ks => bd (l ρ S1) fun y S2 => (match y with
    | .ref n => (match S2[n]? with
      | some (.lst ds) => if ds.all k0 = true then some (.ok ⟨zipL (ks.map .str) ds, fun S => S[n]? = some (.lst ds)⟩ S2) else none
      | _ => none)
    | _ => none)
  | none => none := rfl
@[simp] theorem o_rowAt (z : List Nat) : rowAt tab (.str z) = tabAt tab z := rfl
end
end Z
namespace L2
open PySem PySem.Spec PyProof.Rows
end L2
namespace Z
open PySem PySem.Spec PyProof.Rows L2
/-- which of two, by a key -/
def byK (x : M D) (a b : M D) : M D := match x with
  | some (.ok (.tup _) _) => a
  | some (.ok _ _) => b
  | _ => none
@[simp] theorem byK_tup (ks : List D) (S : Store) (a b : M D) : byK (some (.ok (.tup ks) S)) a b = a := rfl
@[simp] theorem byK_int (i : Int) (S : Store) (a b : M D) : byK (some (.ok (.int i) S)) a b = b := rfl
@[simp] theorem byK_str (s : List Nat) (S : Store) (a b : M D) : byK (some (.ok (.str s) S)) a b = b := rfl
end Z
namespace L2
namespace DT
open PySem PySem.SetTable
def tab (m mask finger moves : Nat) (led plain : Bool) : SetTable := { mask, place := Array.range m, dummies := #[], finger, led, moves, plain }
section
variable {m mask finger moves : Nat} {led plain : Bool}
theorem bits_nat {k : Nat} (h : k < 2 ^ 64) : bits (k : Int) = k := by
  unfold bits
  rw [Int.emod_eq_of_lt (by omega) (by exact_mod_cast h)]
  rfl
theorem fits_tab (h : m ≤ mask) : (tab m mask finger moves led plain).fits m = true := by
  unfold fits tab fill
  simp [h]
end
/-- the slots of a table that holds 0 .. k - 1 -/
def own (mask k : Nat) : Array (Option Nat) := Array.ofFn (n := mask + 1) fun i => if i.val < k then some i.val else none
theorem own_zero (mask : Nat) : Array.replicate (mask + 1) (none : Option Nat) = own mask 0 := by
  unfold own
  refine Array.ext (by simp) fun i h1 h2 => by simp
theorem own_get (mask k i : Nat) (d : Option Nat) : (own mask k).getD i d = if i < mask + 1 then (if i < k then some i else none) else d := by
  unfold own
  by_cases h : i < mask + 1
  · rw [if_pos h]
    simp [Array.getD, h]
  · rw [if_neg h]
    simp [Array.getD, h]
theorem own_set (mask k : Nat) (h : k < mask + 1) : (own mask k).setIfInBounds k (some k) = own mask (k + 1) := by
  unfold own
  refine Array.ext (by simp) fun i h1 h2 => ?_
  rw [Array.getElem_setIfInBounds]
  by_cases c : k = i
  · subst c
    simp
  · rw [if_neg c]
    have hofn : ∀ (q : Nat) (hq : i < (Array.ofFn (n := mask + 1) fun i => if i.val < q then some i.val else none).size), (Array.ofFn (n := mask + 1) fun i => if i.val < q then some i.val else none)[i] = if i < q then some i else none := fun q hq => by simp
    rw [hofn, hofn]
    by_cases c2 : i < k
    · rw [if_pos c2, if_pos (by omega)]
    · rw [if_neg c2, if_neg (by omega)]
  · simpa using h1
theorem free_own {mask k : Nat} (h : k < 2 ^ 64) (hk : k ≤ mask) : layClean.free mask (own mask k) (turns mask) (bits (k : Int) % (mask + 1)) (bits (k : Int)) = some k := by
  have ht : turns mask = (turns mask - 1) + 1 := by unfold turns; omega
  rw [bits_nat h, Nat.mod_eq_of_lt (by omega), ht, layClean.free]
  have hr : 1 ≤ runEnd mask k + 1 - k := by unfold runEnd; split <;> omega
  have e : List.range (runEnd mask k + 1 - k) = 0 :: (List.range (runEnd mask k - k)).map (· + 1) := by
    have : runEnd mask k + 1 - k = (runEnd mask k - k) + 1 := by unfold runEnd; split <;> omega
    rw [this, List.range_succ_eq_map]
  have hf : ((own mask k).getD (k + 0) (some 0)).isNone = true := by
    rw [own_get, if_pos (by omega), if_neg (by omega)]
    rfl
  rw [e, List.find?_cons, hf]
  simp
theorem layClean_fold {mask : Nat} : ∀ (l : List Int) (k : Nat), (∀ i, i < l.length → l[i]? = some ((k + i : Nat) : Int)) → k + l.length ≤ mask + 1 → k + l.length < 2 ^ 64 →
    l.foldl (init := some (own mask k, k)) (fun acc h => do
      let (owner, k) ← acc
      let j ← layClean.free mask owner (turns mask) (bits h % (mask + 1)) (bits h)
      pure (owner.setIfInBounds j (some k), k + 1)) = some (own mask (k + l.length), k + l.length)
  | [], k, _, _, _ => rfl
  | x :: l, k, h, h1, h2 => by
    have hx : x = (k : Int) := by
      have := h 0 (by simp)
      simpa using this
    subst hx
    rw [List.length_cons] at h1 h2
    rw [List.foldl_cons]
    have hf := free_own (mask := mask) (k := k) (by omega) (by omega)
    have e : (do
      let (owner, k') ← some (own mask k, k)
      let j ← layClean.free mask owner (turns mask) (bits (k : Int) % (mask + 1)) (bits (k : Int))
      pure (owner.setIfInBounds j (some k'), k' + 1)) = some (own mask (k + 1), k + 1) := by
      simp only [Option.bind_eq_bind, Option.bind_some, hf, own_set mask k (by omega)]
      rfl
    rw [e, layClean_fold l (k + 1) (fun i hi => by
      have := h (i + 1) (by simp; omega)
      rw [List.getElem?_cons_succ] at this
      rw [this]
      congr 1
      omega) (by omega) (by omega)]
    rw [List.length_cons, show k + 1 + l.length = k + (l.length + 1) by omega]
theorem laid_range {mask finger moves : Nat} {led plain : Bool} {hs : Array Int} {m : Nat} (hm : hs.size = m) (h : ∀ i, i < m → hs[i]? = some (i : Int)) (h1 : m ≤ mask + 1) (h2 : m < 2 ^ 64) : laid mask finger moves led plain hs = some (tab m mask finger moves led plain, Array.range m) := by
  have hf := layClean_fold (mask := mask) hs.toList 0 (fun i hi => by
    rw [Array.length_toList] at hi
    rw [Array.getElem?_toList, h i (by omega)]
    simp) (by rw [Array.length_toList]; omega) (by rw [Array.length_toList]; omega)
  have hc : layClean mask hs = some (own mask m) := by
    unfold layClean
    rw [← Array.foldl_toList, own_zero, hf, Array.length_toList, Nat.zero_add, hm]
    rfl
  unfold laid
  rw [hc]
  have hl : (List.range (mask + 1)).filterMap (fun j => ((own mask m).getD j none).map (j, ·)) = (List.range m).map fun j => (j, j) := by
    have key : ∀ n, n ≤ mask + 1 → (List.range n).filterMap (fun j => ((own mask m).getD j none).map (j, ·)) = (List.range (min n m)).map fun j => (j, j) := by
      intro n
      induction n with
      | zero => intro _; simp
      | succ n ih =>
        intro hn
        rw [List.range_succ, List.filterMap_append, ih (by omega)]
        by_cases c : n < m
        · have e : ((own mask m).getD n none).map (n, ·) = some (n, n) := by rw [own_get, if_pos (by omega), if_pos c]; rfl
          rw [List.filterMap_cons, e, show min (n + 1) m = min n m + 1 by omega, List.range_succ, List.map_append, show min n m = n by omega]
          rfl
        · have e : ((own mask m).getD n none).map (n, ·) = none := by rw [own_get, if_pos (by omega), if_neg c]; rfl
          rw [List.filterMap_cons, e, show min (n + 1) m = min n m by omega]
          simp
    rw [key (mask + 1) (Nat.le_refl _), show min (mask + 1) m = m by omega]
  simp only [Option.bind_eq_bind, Option.bind_some, hl, List.map_map]
  unfold tab
  have e3 : (List.range m).map ((fun x => x.1) ∘ fun j => (j, j)) = List.range m := by
    rw [show ((fun x : Nat × Nat => x.1) ∘ fun j => (j, j)) = id from rfl, List.map_id]
  have e4 : (List.range m).map ((fun x => x.2) ∘ fun j => (j, j)) = List.range m := by
    rw [show ((fun x : Nat × Nat => x.2) ∘ fun j => (j, j)) = id from rfl, List.map_id]
  rw [e3, e4]
  simp [List.toArray_range]
theorem size_go : ∀ (fuel s n : Nat), s % 2 = 0 → 0 < s → n < s * 2 ^ fuel → (∀ B, s ≤ B → n < B → True) → sizeAbove.go n fuel s % 2 = 0 ∧ n < sizeAbove.go n fuel s
  | 0, s, n, h1, h2, h3, _ => by rw [sizeAbove.go]; exact ⟨h1, by simpa using h3⟩
  | fuel + 1, s, n, h1, h2, h3, _ => by
    rw [sizeAbove.go]
    by_cases c : s ≤ n
    · rw [if_pos c]
      exact size_go fuel (s * 2) n (by omega) (by omega) (by rw [Nat.mul_assoc, ← Nat.pow_succ']; exact h3) (fun _ _ _ => trivial)
    · rw [if_neg c]
      exact ⟨h1, by omega⟩
theorem size_pow (n : Nat) : ∀ (fuel j : Nat), ∃ i, sizeAbove.go n fuel (2 ^ j) = 2 ^ i
  | 0, j => ⟨j, by rw [sizeAbove.go]⟩
  | fuel + 1, j => by
    rw [sizeAbove.go]
    by_cases c : 2 ^ j ≤ n
    · rw [if_pos c, ← Nat.pow_succ]
      exact size_pow n fuel (j + 1)
    · rw [if_neg c]
      exact ⟨j, rfl⟩
theorem size_odd {n : Nat} (h : n < 2 ^ 60) : (sizeAbove n - 1) % 2 = 1 ∧ n ≤ sizeAbove n - 1 := by
  have := size_go 64 8 n (by decide) (by decide) (by omega) (fun _ _ _ => trivial)
  unfold sizeAbove
  omega
theorem grown_lt {m : Nat} (h : m ≤ 8000000) : grown m < 16777216 := by
  unfold grown
  split <;> omega
theorem grown_ge (m : Nat) : 2 * m ≤ grown m := by
  unfold grown
  split <;> omega
/-- not too full -/
structure Tb (t : SetTable) (m : Nat) : Prop where
  eq : t = tab m t.mask t.finger t.moves t.led t.plain
  odd : t.mask % 2 = 1
  room : m * 5 < t.mask * 3
  pw : ∃ j, t.mask + 1 = 2 ^ j
theorem Tb.fresh (finger moves : Nat) (led : Bool) : Tb (SetTable.fresh finger moves led) 0 := ⟨by unfold SetTable.fresh tab; rfl, by show 7 % 2 = 1; decide, by show 0 * 5 < 7 * 3; decide, ⟨3, rfl⟩⟩
/-- it is laid anew while small -/
theorem Tb.low {t : SetTable} {m : Nat} (h : Tb t m) (hm : m < 9500000) (g : t.mask * 3 ≤ (m + 1) * 5) : m + 1 ≤ 8000000 := by
  obtain ⟨j, hj⟩ := h.pw
  have hr := h.room
  rcases Nat.lt_or_ge j 24 with c | c
  · have : 2 ^ j ≤ 2 ^ 23 := Nat.pow_le_pow_right (by decide) (by omega)
    omega
  · have : 2 ^ 24 ≤ 2 ^ j := Nat.pow_le_pow_right (by decide) c
    omega
theorem Tb.fits {t : SetTable} {m : Nat} (h : Tb t m) : t.fits m = true := by
  have := h.room
  rw [h.eq]
  exact fits_tab (by omega)
theorem Tb.relaid {t : SetTable} {m mask finger moves : Nat} {led plain : Bool} (ht : t = tab m mask finger moves led plain) (hm : m ≤ 8000000) (h0 : 0 < m) {hs : Array Int} (hz : hs.size = m) (h : ∀ i, i < m → hs[i]? = some (i : Int)) : ∃ t', t.relaid hs (grown m) = some (t', Array.range m) ∧ Tb t' m := by
  have g1 := grown_lt hm
  have g2 := grown_ge m
  have o := size_odd (n := grown m) (by omega)
  refine ⟨tab m (sizeAbove (grown m) - 1) t.finger (t.movedTo (sizeAbove (grown m) - 1)) t.led t.plain, ?_, ⟨rfl, o.1, ?_, by obtain ⟨i, hi⟩ := size_pow (grown m) 64 3; refine ⟨i, ?_⟩; rw [← hi]; show sizeAbove (grown m) - 1 + 1 = sizeAbove (grown m); omega⟩⟩
  · unfold SetTable.relaid
    exact laid_range hz h (by omega) (by omega)
  · show m * 5 < (sizeAbove (grown m) - 1) * 3
    omega
end DT
end L2
namespace L2
open PySem PySem.Spec PyProof.Rows
/-- the entries: 0, 1, .. -/
structure DEs (es : Array (Int × Value)) (m : Nat) : Prop where
  size : es.size = m
  at' : ∀ i, i < m → ∃ tk, es[i]? = some ((i : Int), .int i tk)
theorem DEs.push {es : Array (Int × Value)} {m : Nat} (h : DEs es m) (tk : Tok) : DEs (es.push ((m : Int), .int m tk)) (m + 1) := by
  refine ⟨by simp [h.size], fun i hi => ?_⟩
  rw [Array.getElem?_push, h.size]
  by_cases c : i = m
  · subst c
    exact ⟨tk, by simp⟩
  · rw [if_neg c]
    exact h.at' i (by omega)
theorem DEs.hash {es : Array (Int × Value)} {m : Nat} (h : DEs es m) {i : Nat} (hi : i < m) : (es[i]?.map (·.1)).getD 0 = (i : Int) := by
  obtain ⟨tk, e⟩ := h.at' i hi
  rw [e]
  rfl
end L2
namespace L2
open PySem PySem.Spec PyProof.Rows
end L2
namespace PyProof.Rows
open PySem PySem.Spec L2
end PyProof.Rows
namespace PySem
open PyProof.Rows
end PySem
namespace L2
open PySem PySem.Spec PyProof.Rows
/-- as met: each number is one met already, or the next -/
def dnc : Nat → List Int → Option Nat
  | c, [] => some c
  | c, x :: r => if 0 ≤ x ∧ x ≤ c then dnc (if x = c then c + 1 else c) r else none
def okSet (ns : List Int) : Prop := (ns.foldl step_dedup []).length ≤ 4000 ∨ (ns.length ≤ 9500000 ∧ ∃ c, dnc 0 ns = some c)
end L2
namespace L2
open PySem PySem.Spec PyProof.Rows
end L2
namespace Z
open PySem PySem.Spec PyProof.Rows L2
def intsD : List D → Option (List Int)
  | [] => some []
  | .int i :: r => (match intsD r with | some t => some (i :: t) | none => none)
  | _ => none
/-- each once, as first met -/
def onceI (ns : List Int) : List Int := ns.foldl step_dedup []
open Classical in
/-- len(set(xs)) -/
noncomputable def lsetIF : Fn := fun ds S => match ds with
  | [.ref n] => (match S[n]? with
    | some (.lst xs) => (match intsD xs with
      | some ns => if okSet ns then some (.ok (.int (onceI ns).length) S) else none
      | none => none)
    | _ => none)
  | _ => none
open Classical in
@[simp] theorem o_lsetI (n : Nat) (S : Store) : lsetIF [.ref n] S = (match S[n]? with
    | some (.lst xs) => (match intsD xs with
      | some ns => if okSet ns then some (.ok (.int (onceI ns).length) S) else none
      | none => none)
    | _ => none) := rfl
end Z
namespace Z
open PySem PySem.Spec PyProof.Rows L2
def iEnL (a : SE) : SI := fun ρ S => bd (a ρ S) fun d S1 => match d with
  | .ref n => (match S1[n]? with
    | some (.lst ds) => if ds.all k0 = true then some (.ok ⟨enumL 0 ds, fun S => S[n]? = some (.lst ds)⟩ S1) else none
    | _ => none)
  | _ => none
@[simp] theorem x_enL (a : SE) (ρ : Env) (S : Store) : iEnL a ρ S = bd (a ρ S) fun d S1 => match d with
  | .ref n => (match S1[n]? with
    | some (.lst ds) => if ds.all k0 = true then some (.ok ⟨enumL 0 ds, fun S => S[n]? = some (.lst ds)⟩ S1) else none
    | _ => none)
  | _ => none := rfl
def tmerge (kvs more : List (List D × D)) : List (List D × D) := more.foldl (fun acc p => tput acc p.1 p.2) kvs
def updF : Fn := fun ds S => match ds with
  | [.ref n, .ref m] => (match S[n]?, S[m]? with
    | some (.st (p :: kvs)), some (.st more) => if n ≠ m ∧ (p :: kvs).length + more.length < 16000000 then some (.ok .non (S.set n (.st (tmerge (p :: kvs) more)))) else none
    | _, _ => none)
  | _ => none
@[simp] theorem o_upd (n m : Nat) (S : Store) : updF [.ref n, .ref m] S = (match S[n]?, S[m]? with
    | some (.st (p :: kvs)), some (.st more) => if n ≠ m ∧ (p :: kvs).length + more.length < 16000000 then some (.ok .non (S.set n (.st (tmerge (p :: kvs) more)))) else none
    | _, _ => none) := rfl
def countIF : Fn := fun ds S => match ds with
  | [.ref n, .int k] => (match S[n]? with
    | some (.lst xs) => (match intsD xs with
      | some ns => some (.ok (.int (ns.count k : Nat)) S)
      | none => none)
    | _ => none)
  | _ => none
@[simp] theorem o_countI (n : Nat) (k : Int) (S : Store) : countIF [.ref n, .int k] S = (match S[n]? with
    | some (.lst xs) => (match intsD xs with
      | some ns => some (.ok (.int (ns.count k : Nat)) S)
      | none => none)
    | _ => none) := rfl
end Z
namespace PySem
end PySem
namespace L2
open PySem PySem.Spec PyProof.Rows
end L2
namespace Z
open PySem PySem.Spec PyProof.Rows L2
/-- the items of a tuple by their places -/
def numT : Nat → List D → List (D × D)
  | _, [] => []
  | i, x :: r => (.int (i : Int), x) :: numT (i + 1) r
/-- dict(enumerate(xs)) -/
def dictEnF : Fn := fun ds S => match ds with
  | [.tup xs] => if xs.length < 16000000 then new1 (.dk ((numT 0 xs).foldl (fun acc p => fput acc p.1 p.2) [])) S else none
  | _ => none
@[simp] theorem o_dictEn (xs : List D) (S : Store) : dictEnF [.tup xs] S = if xs.length < 16000000 then some (.ok (.ref S.length) (S ++ [.dk ((numT 0 xs).foldl (fun acc p => fput acc p.1 p.2) [])])) else none := rfl
end Z
namespace Z
open PySem PySem.Spec PyProof.Rows L2
def indexIF : Fn := fun ds S => match ds with
  | [.ref n, .int k] => (match S[n]? with
    | some (.lst xs) => (match intsD xs with
      | some ns => if k ∈ ns then some (.ok (.int (ns.idxOf k : Nat)) S) else none
      | none => none)
    | _ => none)
  | _ => none
@[simp] theorem o_indexI (n : Nat) (k : Int) (S : Store) : indexIF [.ref n, .int k] S = (match S[n]? with
    | some (.lst xs) => (match intsD xs with
      | some ns => if k ∈ ns then some (.ok (.int (ns.idxOf k : Nat)) S) else none
      | none => none)
    | _ => none) := rfl
end Z
namespace Z
open PySem PySem.Spec PyProof.Rows L2
open Classical in
noncomputable def dget {β : Type} (kvs : List (D × β)) (k : D) : Option β := (kvs.find? fun p => decide (p.1 = k)).map (·.2)
open Classical in
noncomputable def dput (kvs : List (D × D)) (k v : D) : List (D × D) :=
  if (kvs.any fun p => decide (p.1 = k)) = true then kvs.map (fun p => if p.1 = k then (p.1, v) else p) else kvs ++ [(k, v)]
/-- a nested key: a tuple of numbers, texts, None and such tuples, at most eight deep -/
def nkOk : D → Bool
  | .tup xs => (match nkD (.tup xs) with | some k => decide (k.depth ≤ 8) | none => false)
  | _ => false
def nkAt (S : Store) : D → Option (List (D × D))
  | .ref n => (match S[n]? with | some (.nk kvs) => some kvs | some (.nkl kvs) => some kvs | _ => none)
  | _ => none
noncomputable def eNGet2 (d k v : SE) : SE := fun ρ S => bd (d ρ S) fun y S1 => match nkAt S1 y with
  | some _ => bd (k ρ S1) fun x S2 => bd (v ρ S2) fun w S3 => (match nkAt S3 y with
    | some kvs => if nkOk x = true then some (.ok ((dget kvs x).getD w) S3) else none
    | none => none)
  | none => none
noncomputable def sNPut (d k v : SE) : SS := fun ρ S => bo (v ρ S) ρ fun w S1 => bo (d ρ S1) ρ fun y S2 => bo (k ρ S2) ρ fun x S3 => match y with
  | .ref n => (match S3[n]? with
    | some (.nk kvs) => if nkOk x = true ∧ kvs.length < 16000000 then some (.nx ρ (S3.set n (.nk (dput kvs x w)))) else none
    | _ => none)
  | _ => none
def eDctN : SE := fun _ S => new1 (.nk []) S
end Z
namespace L2
open PySem PySem.Spec PyProof.Rows
mutual
theorem NK.mono {H H' : Hp} (e : ∀ b xs, Rd H b (.tup xs) → Rd H' b (.tup xs)) : ∀ (k : NestedKey) (v : V), NK H k v → NK H' k v
  | .none, v, h => by rw [NK] at h ⊢; exact h
  | .num i, v, h => by rw [NK] at h ⊢; exact h
  | .text x, v, h => by rw [NK] at h ⊢; exact h
  | .tup ks, v, h => by
    rw [NK] at h ⊢
    obtain ⟨a, vs, e1, h1, h2⟩ := h
    exact ⟨a, vs, e1, e _ _ h1, NKL.mono e ks vs h2⟩
theorem NKL.mono {H H' : Hp} (e : ∀ b xs, Rd H b (.tup xs) → Rd H' b (.tup xs)) : ∀ (ks : List NestedKey) (vs : List V), NKL H ks vs → NKL H' ks vs
  | [], vs, h => by rw [NKL] at h ⊢; exact h
  | k :: ks, vs, h => by
    rw [NKL] at h ⊢
    obtain ⟨v, r, e1, h1, h2⟩ := h
    exact ⟨v, r, e1, NK.mono e k v h1, NKL.mono e ks r h2⟩
end
end L2
namespace Z
open PySem PySem.Spec PyProof.Rows L2
theorem NkR.get {K : KW} {ι : List Addr} {H : Hp} : ∀ {kvs : List (D × D)} {xs : List NEnt} {i : Nat} {p : D × D} {x : NEnt}, NkR K ι H kvs xs → kvs[i]? = some p → xs[i]? = some x → Rep K ι H p.1 (.ref x.2.1)
  | [], _, _, _, _, _, h, _ => by simp at h
  | q :: r, xs, i, p, x, h, h1, h2 => by
    rw [NkR] at h
    obtain ⟨k, b, u, v, t, rfl, _, _, e4, _, _, e7⟩ := h
    cases i with
    | zero => simp at h1 h2; subst h1 h2; exact e4
    | succ i => exact NkR.get e7 (by simpa using h1) (by simpa using h2)
end Z
namespace L2
open PySem PySem.Spec PyProof.Rows
/-- every second one, from the first on -/
def evL {α : Type} : List α → List α
  | [] => []
  | [x] => [x]
  | x :: _ :: r => x :: evL r
theorem Vals.evL : ∀ {xs : List V} {us : List Value}, Vals xs us → Vals (L2.evL xs) (L2.evL us)
  | _, _, .nil => .nil
  | _, _, .cons h .nil => .cons h .nil
  | _, _, .cons h (.cons _ t) => .cons h (Vals.evL t)
end L2
namespace Z
open PySem PySem.Spec PyProof.Rows L2
/-- t[::2], t[1::2] -/
def stepTD (lo : Nat) (d : D) (S : Store) : M D := match d with
  | .tup xs => some (.ok (.tup (L2.evL (xs.drop lo))) S)
  | _ => none
@[simp] theorem o_stepT (lo : Nat) (xs : List D) (S : Store) : stepTD lo (.tup xs) S = some (.ok (.tup (L2.evL (xs.drop lo))) S) := rfl
def eMake (c : String) (F : Fn) (es : List SE) : SE := fun ρ S => bd (evL es ρ S) fun ds S1 => match F (.ref S1.length :: ds) (S1 ++ [.ins c []]) with
  | some (.ok .non S2) => some (.ok (.ref S1.length) S2)
  | some (.ex x S2) => some (.ex x S2)
  | _ => none
@[simp] theorem x_make (c : String) (F : Fn) (es : List SE) (ρ : Env) (S : Store) : eMake c F es ρ S = bd (evL es ρ S) fun ds S1 => match F (.ref S1.length :: ds) (S1 ++ [.ins c []]) with
  | some (.ok .non S2) => some (.ok (.ref S1.length) S2)
  | some (.ex x S2) => some (.ex x S2)
  | _ => none := rfl
end Z
namespace Z
open PySem PySem.Spec PyProof.Rows L2
def nlenF : Fn := fun ds S => match ds with
  | [.ref n] => (match S[n]? with
    | some (.nk kvs) => if kvs.length < 16000000 then some (.ok (.int kvs.length) S) else none
    | _ => none)
  | _ => none
@[simp] theorem o_nlen (n : Nat) (S : Store) : nlenF [.ref n] S = (match S[n]? with
    | some (.nk kvs) => if kvs.length < 16000000 then some (.ok (.int kvs.length) S) else none
    | _ => none) := rfl
noncomputable def nupdF : Fn := fun ds S => match ds with
  | [.ref n, .ref m] => (match S[n]?, S[m]? with
    | some (.nk (p :: kvs)), some (.nk more) => if n ≠ m ∧ (p :: kvs).length + more.length < 16000000 then some (.ok .non (S.set n (.nk (more.foldl (fun acc p => dput acc p.1 p.2) (p :: kvs))))) else none
    | _, _ => none)
  | _ => none
@[simp] theorem o_nupd (n m : Nat) (S : Store) : nupdF [.ref n, .ref m] S = (match S[n]?, S[m]? with
    | some (.nk (p :: kvs)), some (.nk more) => if n ≠ m ∧ (p :: kvs).length + more.length < 16000000 then some (.ok .non (S.set n (.nk (more.foldl (fun acc p => dput acc p.1 p.2) (p :: kvs))))) else none
    | _, _ => none) := rfl
end Z
namespace L2
open PySem PySem.Spec PyProof.Rows
end L2
namespace Z
open PySem PySem.Spec PyProof.Rows L2
noncomputable def eNUpd (d e : SE) : SE := fun ρ S => bd (d ρ S) fun y S1 => match nkAt S1 y with
  | some _ => bd (e ρ S1) fun z S2 => nupdF [y, z] S2
  | none => none
@[simp] theorem x_nupd (d e : SE) (ρ : Env) (S : Store) : eNUpd d e ρ S = bd (d ρ S) fun y S1 => match nkAt S1 y with
  | some _ => bd (e ρ S1) fun z S2 => nupdF [y, z] S2
  | none => none := rfl
def sPar (i j : Nat) (x y : SE) : SS := fun ρ S => bo (evL [x, y] ρ S) ρ fun ds S1 => match ds with
  | [d, e] => some (.nx ((ρ.set i (some d)).set j (some e)) S1)
  | _ => none
@[simp] theorem x_par (i j : Nat) (x y : SE) (ρ : Env) (S : Store) : sPar i j x y ρ S = bo (evL [x, y] ρ S) ρ fun ds S1 => match ds with
  | [d, e] => some (.nx ((ρ.set i (some d)).set j (some e)) S1)
  | _ => none := rfl
end Z
namespace PySem
end PySem
namespace L2
open PySem PySem.Spec PyProof.Rows
end L2
namespace Z
open PySem PySem.Spec PyProof.Rows L2
def MaskB (m : Nat) : Prop := m = 7 ∨ m = 31 ∨ m = 127 ∨ m = 511 ∨ m = 2047
/-- the slots that the round meets, as bits -/
def orbB (m : Nat) : Nat → Nat × Nat
  | 0 => (0, 0)
  | k + 1 => ((((orbB m k).1) * 5 + 1) % (m + 1), (orbB m k).2 ||| 2 ^ (orbB m k).1)
theorem orb_lcg (m : Nat) : ∀ k, (orbB m k).1 = lcgN m k
  | 0 => rfl
  | k + 1 => by rw [orbB, lcgN, orb_lcg m k]
theorem orb_bit (m : Nat) : ∀ k j, (orbB m k).2.testBit j = true → ∃ b, b < k ∧ lcgN m b = j
  | 0, j, h => by simp [orbB] at h
  | k + 1, j, h => by
    rw [orbB] at h
    simp only [Nat.testBit_or, Bool.or_eq_true] at h
    rcases h with h | h
    · obtain ⟨b, h1, h2⟩ := orb_bit m k j h
      exact ⟨b, by omega, h2⟩
    · rw [Nat.testBit_two_pow, decide_eq_true_eq] at h
      exact ⟨k, by omega, by rw [← orb_lcg]; exact h⟩
theorem orb7 : orbB 7 8 = (0, 2 ^ 8 - 1) := by decide +kernel
theorem orb31 : orbB 31 32 = (0, 2 ^ 32 - 1) := by decide +kernel
theorem orb127 : orbB 127 128 = (0, 2 ^ 128 - 1) := by decide +kernel
theorem orb511 : orbB 511 512 = (0, 2 ^ 512 - 1) := by decide +kernel
theorem orb2047 : orbB 2047 2048 = (0, 2 ^ 2048 - 1) := by decide +kernel
theorem MaskB.orb {m : Nat} (h : MaskB m) : orbB m (m + 1) = (0, 2 ^ (m + 1) - 1) := by
  rcases h with rfl | rfl | rfl | rfl | rfl
  · exact orb7
  · exact orb31
  · exact orb127
  · exact orb511
  · exact orb2047
theorem MaskB.odd {m : Nat} (h : MaskB m) : m % 2 = 1 ∧ m ≤ 2047 := by
  rcases h with rfl | rfl | rfl | rfl | rfl <;> decide
theorem MaskB.all {m : Nat} (hm : MaskB m) {j : Nat} (hj : j ≤ m) : ∃ b, b ≤ m ∧ lcgN m b = j := by
  obtain ⟨b, h1, h2⟩ := orb_bit m (m + 1) j (by rw [hm.orb, Nat.testBit_two_pow_sub_one]; exact decide_eq_true (by omega))
  exact ⟨b, by omega, h2⟩
theorem MaskB.round {m : Nat} (hm : MaskB m) (k : Nat) : lcgN m (m + 1 + k) = lcgN m k := by
  induction k with
  | zero =>
    have := orb_lcg m (m + 1)
    rw [hm.orb] at this
    exact this.symm
  | succ k ih => rw [← Nat.add_assoc, lcgN, ih, lcgN]
/-- each slot begins a run -/
theorem MaskB.runs {m : Nat} (hm : MaskB m) (h : Int) {j : Nat} (hj : j ≤ m) : ∃ n, n ≤ m + 12 ∧ runI m (SetTable.bits h) n = j := by
  obtain ⟨a, ha, ea⟩ := hm.all (runI_le m (SetTable.bits h) 12)
  obtain ⟨b, hb, eb⟩ := hm.all hj
  have hgo : ∀ k, lcgI m (runI m (SetTable.bits h) 12) k = lcgN m (a + k) := fun k => by rw [← ea, lcgN_add]
  by_cases c : a ≤ b
  · exact ⟨12 + (b - a), by omega, by rw [runI_tail (bits_lt h), hgo, show a + (b - a) = b by omega, eb]⟩
  · exact ⟨12 + (m + 1 + b - a), by omega, by rw [runI_tail (bits_lt h), hgo, show a + (m + 1 + b - a) = m + 1 + b by omega, hm.round, eb]⟩
theorem MaskB.meets {m : Nat} (hm : MaskB m) (h : Int) {j : Nat} (hj : j ≤ m) : ∃ k, k < 10 * SetTable.turns m ∧ way m h k = j := by
  obtain ⟨n, hn, e⟩ := hm.runs h hj
  obtain ⟨k, hk, e2⟩ := run_nth m (SetTable.bits h) n
  exact ⟨k, by unfold SetTable.turns; omega, (congrArg SetTable.Probe.j e2).trans e⟩
theorem way_in (m : Nat) (h : Int) (k : Nat) : way m h k ≤ m := by
  have hi : SetTable.bits h % (m + 1) ≤ m := Nat.le_of_lt_succ (Nat.mod_lt _ (Nat.succ_pos _))
  have r := runEnd_bd hi
  have := nth_in (m := m) k (runAt m (SetTable.bits h % (m + 1)) (SetTable.bits h)) (by
    show SetTable.bits h % (m + 1) + (SetTable.runEnd m (SetTable.bits h % (m + 1)) - SetTable.bits h % (m + 1)) ≤ m
    omega)
  exact Nat.le_trans (Nat.le_add_right _ _) this
/-- a table of n live slots -/
structure TabW (t : SetTable) (n : Nat) : Prop where
  ris : Ris t.place.toList
  dm : t.dummies = #[]
  sz : t.place.size = n
  mok : MaskB t.mask
  bd : ∀ x ∈ t.place.toList, x ≤ t.mask
theorem leastM {p : Nat → Prop} {n : Nat} (h : p n) : ∃ k, k ≤ n ∧ p k ∧ ∀ j, j < k → ¬ p j := by
  induction n using Nat.strongRecOn with
  | ind n ih =>
    by_cases c : ∃ j, j < n ∧ p j
    · obtain ⟨j, h1, h2⟩ := c
      obtain ⟨k, h3, h4⟩ := ih j h1 h2
      exact ⟨k, by omega, h4⟩
    · exact ⟨n, Nat.le_refl _, h, fun j hj g => c ⟨j, hj, g⟩⟩
theorem TabW.first {t : SetTable} {n : Nat} (T : TabW t n) (hn : n ≤ t.mask) (h : Int) : ∃ K, K < 10 * SetTable.turns t.mask ∧ way t.mask h K ∉ t.place.toList ∧ ∀ k, k < K → way t.mask h k ∈ t.place.toList := by
  obtain ⟨j, hj, hno⟩ := st_missing t.place.toList (t.mask + 1) (by rw [Array.length_toList, T.sz]; omega)
  obtain ⟨k, hk, e⟩ := T.mok.meets h (Nat.le_of_lt_succ hj)
  obtain ⟨K, h1, h2, h3⟩ := leastM (p := fun k => way t.mask h k ∉ t.place.toList) (n := k) (by rw [e]; exact hno)
  exact ⟨K, by omega, h2, fun k' hk' => Classical.not_not.mp (h3 k' hk')⟩
/-- how many slots are taken -/
def taken (m : Nat) (owner : Array (Option Nat)) : Nat := (List.range (m + 1)).countP fun j => (oAt owner j).isSome
structure OwnW (m n : Nat) (owner : Array (Option Nat)) : Prop where
  sz : owner.size = m + 1
  lt : ∀ j k, j ≤ m → oAt owner j = some k → k < n
  cnt : taken m owner = n
theorem countP_one {p q : Nat → Bool} {j : Nat} : ∀ (l : List Nat), l.Nodup → j ∈ l → p j = false → q j = true → (∀ i, i ≠ j → q i = p i) → l.countP q = l.countP p + 1
  | [], _, h, _, _, _ => nomatch h
  | x :: l, nd, h, hp, hq, he => by
    obtain ⟨h1, h2⟩ := List.nodup_cons.mp nd
    by_cases c : x = j
    · subst c
      have : l.countP q = l.countP p := List.countP_congr fun i hi => by rw [he i fun e => h1 (e ▸ hi)]
      rw [List.countP_cons, List.countP_cons, this, hp, hq]
      simp
    · have hj : j ∈ l := by
        rcases List.mem_cons.mp h with e | e
        · exact absurd e.symm c
        · exact e
      have := countP_one l h2 hj hp hq he
      rw [List.countP_cons, List.countP_cons, this, he x c]
      omega
theorem OwnW.hole {m n : Nat} {owner : Array (Option Nat)} (W : OwnW m n owner) (hn : n ≤ m) : ∃ j, j ≤ m ∧ oAt owner j = none := by
  by_cases c : ∃ j, j ≤ m ∧ oAt owner j = none
  · exact c
  · exfalso
    have : taken m owner = (List.range (m + 1)).length := List.countP_eq_length.mpr fun j hj => by
      have hj' : j ≤ m := Nat.le_of_lt_succ (List.mem_range.mp hj)
      cases h : oAt owner j with
      | none => exact absurd ⟨j, hj', h⟩ c
      | some k => rfl
    rw [W.cnt, List.length_range] at this
    omega
theorem OwnW.step {m n : Nat} (hm : MaskB m) {owner : Array (Option Nat)} (W : OwnW m n owner) (hn : n ≤ m) (h : Int) :
    ∃ j, SetTable.layClean.free m owner (SetTable.turns m) (SetTable.bits h % (m + 1)) (SetTable.bits h) = some j ∧ OwnW m (n + 1) (owner.setIfInBounds j (some n)) := by
  obtain ⟨j0, h0, e0⟩ := W.hole hn
  obtain ⟨r, hr, er⟩ := hm.runs h h0
  have hw : way m h (off m (SetTable.bits h % (m + 1)) (SetTable.bits h) r) = j0 := by
    show (nth m (runAt m (SetTable.bits h % (m + 1)) (SetTable.bits h)) _).j = j0
    rw [nth_off, itL_run]
    exact er
  obtain ⟨K, k1, k2, k3⟩ := leastM (p := fun k => oAt owner (way m h k) = none) (n := off m (SetTable.bits h % (m + 1)) (SetTable.bits h) r) (by rw [hw]; exact e0)
  have hfree := free_spec m owner (SetTable.turns m) r (SetTable.bits h % (m + 1)) (SetTable.bits h) K (by unfold SetTable.turns; omega) k1 (fun k hk => by
    have := k3 k hk
    cases z : oAt owner (way m h k) with
    | none => exact absurd z this
    | some v => rfl) (congrArg Option.isNone k2)
  have hj := way_in m h K
  have hjs : way m h K < owner.size := by rw [W.sz]; omega
  refine ⟨_, hfree, ?_⟩
  have hself := oAt_set_self (some n) hjs
  refine ⟨by rw [Array.size_setIfInBounds]; exact W.sz, fun j k hjm e => ?_, ?_⟩
  · by_cases c : j = way m h K
    · rw [c] at e
      have := hself.symm.trans e
      cases this
      omega
    · have e' := (oAt_set_ne (some n) c).symm.trans e
      have := W.lt j k hjm e'
      omega
  · unfold taken
    rw [countP_one (p := fun j => (oAt owner j).isSome) (j := way m h K) _ List.nodup_range (List.mem_range.mpr (by omega)) (by rw [k2]; rfl) (congrArg Option.isSome hself) fun i hi => by rw [oAt_set_ne _ hi]]
    rw [show (List.range (m + 1)).countP (fun j => (oAt owner j).isSome) = n from W.cnt]
theorem OwnW.init (m : Nat) : OwnW m 0 (Array.replicate (m + 1) none) := ⟨by simp, fun j k hj e => (by rw [oAt_init hj] at e; exact nomatch e), List.countP_eq_zero.mpr fun j hj => by
  show ¬ (oAt (Array.replicate (m + 1) none) j).isSome = true
  rw [oAt_init (Nat.le_of_lt_succ (List.mem_range.mp hj))]
  simp⟩
theorem fold_w {m : Nat} (hm : MaskB m) : ∀ (l : List Int) (n : Nat) (owner : Array (Option Nat)), OwnW m n owner → n + l.length ≤ m → ∃ owner', l.foldl (stepF m) (some (owner, n)) = some (owner', n + l.length) ∧ OwnW m (n + l.length) owner'
  | [], n, owner, W, _ => ⟨owner, rfl, W⟩
  | h :: l, n, owner, W, hl => by
    rw [List.length_cons] at hl
    obtain ⟨j, e, W'⟩ := W.step hm (by omega) h
    obtain ⟨owner', f, W2⟩ := fold_w hm l (n + 1) _ W' (by omega)
    refine ⟨owner', ?_, by rw [List.length_cons, show n + (l.length + 1) = n + 1 + l.length by omega]; exact W2⟩
    rw [List.foldl_cons, stepF_some e, f, List.length_cons, show n + 1 + l.length = n + (l.length + 1) by omega]
/-- a table laid anew: as many live slots, told of entries that were there -/
theorem relaid_w (t : SetTable) {hs : Array Int} {wanted M : Nat} (hw : SetTable.sizeAbove wanted - 1 = M) (hM : MaskB M) (hn : hs.size ≤ M) :
    ∃ t' order, t.relaid hs wanted = some (t', order) ∧ order.size = hs.size ∧ (∀ i ∈ order.toList, i < hs.size) ∧ TabW t' hs.size ∧ t'.mask = M ∧ t'.led = t.led ∧ t'.plain = t.plain := by
  obtain ⟨owner, f, W⟩ := fold_w hM hs.toList 0 _ (OwnW.init M) (by rw [Array.length_toList]; omega)
  have hlay : SetTable.layClean M hs = some owner := by rw [layClean_eq, f]; rfl
  rw [Nat.zero_add, Array.length_toList] at W
  have hlen : (liveOf M owner).length = hs.size := by
    rw [← W.cnt]
    unfold liveOf taken
    rw [List.length_filterMap_eq_countP]
    refine List.countP_congr fun j hj => ?_
    rw [oAt_none (by rw [W.sz]; exact List.mem_range.mp hj)]
    simp
  refine ⟨tabOf t M owner, ((liveOf M owner).map (·.2)).toArray, by rw [relaid_eq, hw, hlay]; rfl, by simp [hlen], fun i hi => ?_, ⟨(ris_live (fun j => owner.getD j none) (List.range (M + 1)) List.pairwise_lt_range).1, rfl, by show ((liveOf M owner).map (·.1)).toArray.size = _; simp [hlen], hM, fun x hx => ?_⟩, rfl, rfl, rfl⟩
  · have hi' : i ∈ (liveOf M owner).map (·.2) := hi
    obtain ⟨⟨j, k⟩, h1, h2⟩ := List.mem_map.mp hi'
    obtain ⟨h3, h4⟩ := (mem_live W.sz).1 h1
    have := W.lt j k h3 h4
    rw [← h2]
    exact this
  · have hx' : x ∈ (liveOf M owner).map (·.1) := hx
    obtain ⟨⟨j, k⟩, h1, h2⟩ := List.mem_map.mp hx'
    rw [← h2]
    exact ((mem_live W.sz).1 h1).1
/-- one put in -/
theorem TabW.put {t : SetTable} {n : Nat} (T : TabW t n) {j : Nat} (hj : j ∉ t.place.toList) (hb : j ≤ t.mask) : TabW (t.put j).1 (n + 1) ∧ (t.put j).1.mask = t.mask ∧ (t.put j).1.led = t.led ∧ (t.put j).1.plain = t.plain ∧ (t.put j).2 = SetTable.below t.place j ∧ SetTable.below t.place j ≤ t.place.size := by
  have hcut := below_cut T.ris j
  have hp : SetTable.below t.place j ≤ t.place.size := hcut.1
  have hne : t.place[SetTable.below t.place j]? ≠ some j := fun e => hj (List.mem_of_getElem? (by rw [Array.getElem?_toList]; exact e))
  refine ⟨⟨ris_insert T.ris hne, put_dm T.dm j, ?_, T.mok, fun x hx => ?_⟩, rfl, rfl, rfl, rfl, hp⟩
  · have h := congrArg List.length (put_place t j)
    rw [len_ins _ (by rw [Array.length_toList]; exact hp), Array.length_toList, Array.length_toList, T.sz] at h
    exact h
  · rw [put_place] at hx
    rcases mem_ins.mp hx with rfl | hx
    · exact hb
    · exact T.bd x hx
end Z
namespace Z
open PySem PySem.Spec PyProof.Rows L2
abbrev IsM (P : Program) (w : World) (h : Heap) (k : List Key) (a : Addr) : Prop := IsTupleKey (mixKind P w) h k a
abbrev mhash (P : Program) (w : World) (k : List Key) : Int := tupleKeyHash (mixKind P w) k
section
variable {P : Program} {w : World} {A : Around} {E : Value → Shared → Prop} {s : Shared}
theorem items_plain {k : List Key} {vs : List Value} (h : ItemsAre (mixKind P w) k vs) : ∀ v ∈ vs, (∀ n, ofAClassStatement n v = pure false) ∧ ∃ b, ∀ n, hashByValue n v = pure b := by
  induction h with
  | nil => exact fun v hv => nomatch hv
  | @cons k0 v' ks vs h1 _ ih =>
    intro v hv
    rcases List.mem_cons.mp hv with rfl | hv
    · rcases keyIs_shape h1 with ⟨i, t, rfl, rfl⟩ | ⟨x, t, rfl, rfl⟩
      · exact ⟨fun n => by cases n <;> rfl, true, fun n => by cases n <;> rfl⟩
      · exact ⟨fun n => by cases n <;> rfl, false, fun n => by cases n <;> rfl⟩
    · exact ih v hv
theorem class_m {k : List Key} {b : Addr} {Q : Bool → Shared → Prop} (hk : IsM P w s.heap k b) (h : Q false s) : wpAny (model P w) A (ofAClassStatement 8 (.ref b)) Q E s := by
  have hT := hk.typeIs
  obtain ⟨o, items, n, ho, _, hd, hi⟩ := hk
  have hpl := items_plain hi
  unfold ofAClassStatement
  refine wpAny_bind (wpAny_typeOf hT ?_)
  dsimp only
  have e : (("tuple" : String) == "tuple") = true := by decide
  simp only [e, if_true, Bool.not_true, Bool.false_eq_true, if_false]
  try refine wpAny_bind (wpAny_pure ?_)
  try simp only [Bool.not_true, Bool.false_eq_true, if_false]
  show wpAny _ _ (seqItems? (.ref b) >>= _) _ _ s
  refine wpAny_bind (wpAny_seqItems ho hd ?_)
  dsimp only
  refine wpAny_bind ?_
  show wpAny _ _ (forIn items _ _) _ _ s
  rw [← Array.forIn_toList]
  refine wpAny_forIn_list _ (fun rest r s' => r.1 = none ∧ s' = s ∧ ∀ v ∈ rest, v ∈ items.toList) _ ?_ ?_ _ _ ⟨rfl, rfl, fun _ h => h⟩
  · rintro v rest r s' ⟨_, rfl, hall⟩
    rw [(hpl v (hall v List.mem_cons_self)).1]
    refine wpAny_bind (wpAny_pure ?_)
    simp only [Bool.false_eq_true, if_false]
    exact wpAny_pure ⟨rfl, rfl, fun u hu => hall u (List.mem_cons_of_mem _ hu)⟩
  · rintro ⟨r1, r2⟩ s' ⟨hr, rfl, _⟩
    simp only at hr
    subst hr
    exact wpAny_pure h
theorem byvalue_m {k : List Key} {b : Addr} {Q : Bool → Shared → Prop} (hk : IsM P w s.heap k b) (h : ∀ b, Q b s) : wpAny (model P w) A (hashByValue 8 (.ref b)) Q E s := by
  have hT := hk.typeIs
  obtain ⟨o, items, n, ho, _, hd, hi⟩ := hk
  have hpl := items_plain hi
  unfold hashByValue
  refine wpAny_bind (wpAny_specialOf hT F.slot_tuple_hash.lookup ?_)
  show wpAny _ _ (seqItems? (.ref b) >>= _) _ _ s
  refine wpAny_bind (wpAny_seqItems ho hd ?_)
  refine wpAny_bind ?_
  show wpAny _ _ (forIn items _ _) _ _ s
  rw [← Array.forIn_toList]
  refine wpAny_forIn_list _ (fun rest r s' => r.1 = none ∧ s' = s ∧ ∀ v ∈ rest, v ∈ items.toList) _ ?_ ?_ _ _ ⟨rfl, rfl, fun _ h => h⟩
  · rintro v rest r s' ⟨_, rfl, hall⟩
    obtain ⟨q, hq⟩ := (hpl v (hall v List.mem_cons_self)).2
    rw [hq]
    refine wpAny_bind (wpAny_pure ?_)
    cases q with
    | true =>
      simp only [Bool.not_true, Bool.false_eq_true, if_false]
      exact wpAny_pure ⟨rfl, rfl, fun u hu => hall u (List.mem_cons_of_mem _ hu)⟩
    | false =>
      simp only [Bool.not_false, if_true]
      refine wpAny_pure ?_
      dsimp only
      exact wpAny_pure (h false)
  · rintro ⟨r1, r2⟩ s' ⟨hr, rfl, _⟩
    simp only at hr
    subst hr
    exact wpAny_pure (h true)
theorem unseen_m {k : List Key} {b : Addr} {Q : Bool → Shared → Prop} (hk : IsM P w s.heap k b) {ys : List Value} (hy : ∀ y ∈ ys, ∃ k' c, y = Value.ref c ∧ IsM P w s.heap k' c) (h : Q false s) :
    wpAny (model P w) A (searchCouldBeSeen (.ref b) ys) Q E s := by
  unfold searchCouldBeSeen
  refine wpAny_bind ?_
  refine wpAny_forIn_list _ (fun rest r s' => r.1 = none ∧ s' = s ∧ ∀ y ∈ rest, y ∈ ys) _ ?_ ?_ _ _ ⟨rfl, rfl, fun _ h => h⟩
  · rintro v rest r s' ⟨_, rfl, hall⟩
    obtain ⟨k', c, rfl, hc⟩ := hy v (hall v List.mem_cons_self)
    have rest' : ∀ y ∈ rest, y ∈ ys := fun u hu => hall u (List.mem_cons_of_mem _ hu)
    dsimp only
    by_cases hv : (b == c || (carriedByValue (.ref b) && carriedByValue (.ref c))) = true
    · refine wp_if_pos hv ?_
      exact wpAny_pure ⟨rfl, rfl, rest'⟩
    · refine wp_if_neg hv ?_
      refine wpAny_bind (wpAny_eqIsQuiet_tuple hk ?_)
      simp only [Bool.not_true, Bool.false_eq_true, if_false]
      refine wpAny_bind (wpAny_eqIsQuiet_tuple hc ?_)
      simp only [Bool.not_true, Bool.false_eq_true, if_false]
      refine wpAny_bind (class_m hk ?_)
      simp only [Bool.false_eq_true, if_false]
      refine wpAny_bind (class_m hc ?_)
      simp only [Bool.false_eq_true, if_false]
      exact wpAny_pure ⟨rfl, rfl, rest'⟩
  · rintro ⟨r1, r2⟩ s' ⟨hr, rfl, _⟩
    simp only at hr
    subst hr
    exact wpAny_pure h
abbrev Rw := Addr × List Key
def rowM (P : Program) (w : World) (p : Rw) : Int × Value := (mhash P w p.2, Value.ref p.1)
structure SetMW (P : Program) (w : World) (h : Heap) (a : Addr) (L : List Rw) (es : Array (Int × Value)) (ep : Nat) (t : SetTable) : Prop where
  ob : ∃ o, h.get? a = some o ∧ o.ExactSet ∧ o.data = .set es ep t
  rows : es.toList = L.map (rowM P w)
  tab : TabW t L.length
  tup : ∀ p ∈ L, IsM P w h p.2 p.1
  room : L.length * 5 < t.mask * 3
variable {a : Addr} {L : List Rw} {es : Array (Int × Value)} {ep : Nat} {t : SetTable}
theorem SetMW.size (R : SetMW P w s.heap a L es ep t) : es.size = L.length := by
  have := congrArg List.length R.rows
  rwa [Array.length_toList, List.length_map] at this
theorem fits_w {n : Nat} (T : TabW t n) (h : n ≤ t.mask) (hn : es.size = n) : t.fits es.size = true := by
  unfold SetTable.fits SetTable.fill
  rw [T.dm, Bool.and_eq_true, beq_iff_eq, decide_eq_true_eq, T.sz, hn]
  exact ⟨rfl, h⟩
theorem SetMW.fits (R : SetMW P w s.heap a L es ep t) : t.fits es.size = true := fits_w R.tab (by have := R.room; omega) R.size
theorem SetMW.entry (R : SetMW P w s.heap a L es ep t) {i : Nat} {p : Rw} (h : L[i]? = some p) : es[i]? = some (rowM P w p) := by
  rw [← Array.getElem?_toList, R.rows, List.getElem?_map, h]
  rfl
theorem SetMW.notGone (R : SetMW P w s.heap a L es ep t) : ¬ t.gaveWay = true := by
  unfold SetTable.gaveWay
  rw [R.tab.mok.odd.1]
  decide
/-- a search from the c-th step of its way on -/
theorem searchM_w (R : SetMW P w s.heap a L es ep t) {x : Addr} {k : List Key} (hx : IsM P w s.heap k x) (hu : A.units < cLine) {h : Int} (hh : h = mhash P w k) {K : Nat} (hKf : K < 10 * SetTable.turns t.mask)
    (hK : way t.mask h K ∉ t.place.toList) (hKb : ∀ c, c < K → way t.mask h c ∈ t.place.toList) {Q : SetFound → Shared → Prop} (hin : k ∈ L.map (·.2) → Q (.there none) s) (hout : Q (.free (way t.mask h K) false) s) :
    ∀ (f c : Nat) (stand : Option SetTable.Probe), stand.getD (t.probeStart h) = nth t.mask (runAt t.mask (SetTable.bits h % (t.mask + 1)) (SetTable.bits h)) c → c ≤ K → K - c < f → wpAny (model P w) A (setSearchFrom a (.ref x) h true f stand) Q E s
  | 0, c, stand, _, _, hf => absurd hf (Nat.not_lt_zero _)
  | f + 1, c, stand, hst, hc, hf => by
    obtain ⟨o, ho, hex, hd⟩ := R.ob
    rw [setSearchFrom_succ]
    refine wpAny_bind (wpAny_setState_of ho hd R.fits ?_)
    dsimp only
    refine wp_if_neg R.notGone ?_
    try refine wpAny_bind (wpAny_pure ?_)
    obtain ⟨st, est⟩ : ∃ st, st = runAt t.mask (SetTable.bits h % (t.mask + 1)) (SetTable.bits h) := ⟨_, rfl⟩
    have hnd : ∀ (n : Nat) (p : SetTable.Probe), p.dummy = none → (nth t.mask p n).dummy = none := by
      intro n
      induction n with
      | zero => exact fun p h => h
      | succ n ih =>
        intro p hp
        refine ih (adv t.mask p) ?_
        unfold adv
        split <;> exact hp
    have sh : ∀ q, (nth t.mask (nth t.mask st c) q) = nth t.mask st (c + q) := fun q => (nth_add t.mask c _ q).symm
    have wy : ∀ q, way t.mask h q = (nth t.mask st q).j := fun q => by rw [est]
    have spec := go_spec t R.tab.ris R.tab.dm (fun i => (es[i]?.map (·.1)).getD 0) h (10 * SetTable.turns t.mask) (K - c) (nth t.mask st c) (hnd c st (by rw [est]; rfl)) (by omega)
      (fun q hq => by rw [sh, ← wy]; exact hKb (c + q) (by omega)) (by rw [sh, ← wy, show c + (K - c) = K by omega]; exact hK)
    rw [← est] at hst
    rcases spec with ⟨q, i, hq, hi, _, _, hpr⟩ | ⟨_, hpr⟩
    · rw [sh, sh, ← wy] at hpr
      rw [show t.probe (fun i => (es[i]?.map (·.1)).getD 0) h (stand.getD (t.probeStart h)) = some (.candidate (way t.mask h (c + q)) i (nth t.mask st (c + (q + 1)))) by rw [hst]; exact hpr]
      dsimp only
      rw [sh, ← wy] at hi
      have hil : i < L.length := by
        have h1 : i < t.place.toList.length := (List.getElem?_eq_some_iff.mp hi).1
        rw [Array.length_toList, R.tab.sz] at h1
        exact h1
      obtain ⟨p, hp⟩ : ∃ p, L[i]? = some p := ⟨_, List.getElem?_eq_getElem hil⟩
      have hmem : p ∈ L := List.mem_of_getElem? hp
      have rest : wpAny (model P w) A (searchRest a (.ref x) h true f es t (way t.mask h (c + q)) i (nth t.mask st (c + (q + 1)))) Q E s := by
        unfold searchRest
        rw [R.entry hp]
        unfold rowM
        dsimp only
        refine wpAny_bind (wpAny_holding (wpAny_eqBool_tuple hu (R.tup p hmem) hx ?_))
        refine wpAny_bind (wpAny_setState_of ho hd R.fits ?_)
        dsimp only
        by_cases hkk : p.2 = k
        · refine wp_if_pos (by simp [hkk]) ?_
          exact wpAny_pure (hin (List.mem_map.mpr ⟨p, hmem, hkk⟩))
        · refine wp_if_neg (by simp [hkk]) ?_
          try refine wpAny_bind (wpAny_pure ?_)
          rw [sameMem]
          dsimp only
          have hsl : t.slot (way t.mask h (c + q)) = .live i := slot_live R.tab.ris hi
          simp only [if_true, hsl, R.entry hp]
          unfold rowM
          refine wpAny_bind (wpAny_isSame_ref_self (wpAny_bind (wpAny_pure ?_)))
          simp only [if_true]
          refine wp_if_neg (by simp [hkk]) ?_
          exact searchM_w R hx hu hh hKf hK hKb hin hout f (c + (q + 1)) _ (by rw [est]; rfl) (by omega) (by omega)
      by_cases hl : t.led = true
      · refine wp_if_neg (by simp [hl]) ?_
        try refine wpAny_bind (wpAny_pure ?_)
        exact rest
      · refine wp_if_pos (by simp [hl]) ?_
        refine wpAny_bind (unseen_m hx (fun y hy => ?_) ?_)
        · obtain ⟨e, he, ee⟩ := List.mem_map.mp hy
          have he1 : e ∈ es ∧ e.1 = h := by simpa using he
          have he2 : e ∈ es.toList := by simpa using he1.1
          rw [R.rows] at he2
          obtain ⟨p2, hp2, e2⟩ := List.mem_map.mp he2
          exact ⟨p2.2, p2.1, by rw [← ee, ← e2]; rfl, R.tup p2 hp2⟩
        · refine wp_if_neg (by decide) ?_
          try refine wpAny_bind (wpAny_pure ?_)
          exact rest
    · rw [sh, ← wy, show c + (K - c) = K by omega] at hpr
      rw [show t.probe (fun i => (es[i]?.map (·.1)).getD 0) h (stand.getD (t.probeStart h)) = some (.empty (way t.mask h K) none) by rw [hst]; exact hpr]
      dsimp only
      exact wpAny_pure hout
end
end Z
namespace Z
open PySem PySem.Spec PyProof.Rows L2
theorem above5 : SetTable.sizeAbove (SetTable.grown 5) = 32 := by decide +kernel
theorem above19 : SetTable.sizeAbove (SetTable.grown 19) = 128 := by decide +kernel
theorem above77 : SetTable.sizeAbove (SetTable.grown 77) = 512 := by decide +kernel
theorem above307 : SetTable.sizeAbove (SetTable.grown 307) = 2048 := by decide +kernel
section
variable {P : Program} {w : World} {A : Around} {E : Value → Shared → Prop} {s : Shared} {a : Addr} {L : List Rw} {es : Array (Int × Value)} {ep : Nat} {t : SetTable}
theorem isM_but {h h' : Heap} {k : List Key} {b : Addr} {o : Obj} (hb : IsM P w h k b) (ho : h.get? a = some o) (hd : o.data = .set es ep t) (hs : Heap.SameBut a h h') : IsM P w h' k b := by
  obtain ⟨o', items, n, ho', hc, hd', hi⟩ := hb
  refine ⟨o', items, n, (hs.2 b fun e => ?_).trans ho', hc, hd', hi⟩
  subst e
  obtain rfl : o' = o := Option.some.inj (ho'.symm.trans ho)
  rw [hd] at hd'
  exact nomatch hd'
/-- entries taken out by their numbers -/
theorem pick_rows (hr : es.toList = L.map (rowM P w)) : ∀ l : List Nat, (∀ i ∈ l, i < L.length) → ∃ L2 : List Rw, l.filterMap (fun i => es[i]?) = L2.map (rowM P w) ∧ L2.length = l.length ∧ ∀ p ∈ L2, p ∈ L
  | [], _ => ⟨[], rfl, rfl, fun p h => nomatch h⟩
  | i :: l, hl => by
    obtain ⟨L2, h1, h2, h3⟩ := pick_rows hr l fun j hj => hl j (List.mem_cons_of_mem _ hj)
    have hi := hl i List.mem_cons_self
    have ent : es[i]? = some (rowM P w L[i]) := by rw [← Array.getElem?_toList, hr, List.getElem?_map, List.getElem?_eq_getElem hi]; rfl
    exact ⟨L[i] :: L2, by rw [List.filterMap_cons_some ent, h1]; rfl, by simp [h2], fun p hp => by
      rcases List.mem_cons.mp hp with rfl | hp
      · exact List.getElem_mem hi
      · exact h3 p hp⟩
/-- the table laid anew -/
theorem relayM_w {o : Obj} (ho : s.heap.get? a = some o) (hex : o.ExactSet) (hd : o.data = .set es ep t) (hr : es.toList = L.map (rowM P w)) (T : TabW t L.length) (hm : L.length ≤ t.mask) (tup : ∀ p ∈ L, IsM P w s.heap p.2 p.1) {wanted M : Nat}
    (hw : SetTable.sizeAbove wanted = M + 1) (hM : MaskB M) (hn : L.length * 5 < M * 3) {Q : Unit → Shared → Prop}
    (hQ : ∀ h' L' es' ep' t', Heap.SameBut a s.heap h' → SetMW P w h' a L' es' ep' t' → L'.length = L.length → (∀ p ∈ L', p ∈ L) → Q () { s with heap := h' }) : wpAny (model P w) A (setRelay a wanted) Q E s := by
  have hsz : es.size = L.length := by
    have := congrArg List.length hr
    rwa [Array.length_toList, List.length_map] at this
  have hM2 := hM.odd.2
  obtain ⟨t', order, e, e1, e2, T', em, el, epl⟩ := relaid_w t (hs := es.map (·.1)) (wanted := wanted) (by rw [hw]; rfl) hM (by rw [Array.size_map, hsz]; omega)
  rw [Array.size_map, hsz] at e1 e2 T'
  obtain ⟨L2, r1, r2, r3⟩ := pick_rows hr order.toList e2
  have r2 : L2.length = L.length := r2.trans (by rw [Array.length_toList, e1])
  have r1' : (order.filterMap (es[·]?)).toList = L2.map (rowM P w) := by rw [Array.toList_filterMap]; exact r1
  have hs2 : (order.filterMap (es[·]?)).size = es.size := by
    have h := congrArg List.length r1'
    rw [Array.length_toList, List.length_map, r2] at h
    rw [h, hsz]
  rw [setRelay_eq]
  refine wpAny_bind (wpAny_setState_of ho hd (fits_w T hm hsz) ?_)
  dsimp only
  refine wp_if_neg (by rw [hw, sizeLine_eq]; omega) ?_
  try refine wpAny_bind (wpAny_pure ?_)
  rw [e]
  dsimp only
  refine wpAny_bind ?_
  refine wp_if_neg (by rw [hs2]; simp) ?_
  try refine wpAny_bind (wpAny_pure ?_)
  refine wpAny_pure ?_
  dsimp only
  refine wpAny_storeSet_of ho hd ?_ (by rw [hs2, hsz, sizeLine_eq]; omega)
  have sb : Heap.SameBut a s.heap (s.heap.update a (Obj.putSet (order.filterMap (es[·]?)) t')) := Heap.SameBut.update ..
  refine hQ _ L2 (order.filterMap (es[·]?)) (ep + 1) t' sb ⟨⟨_, store_at ho hd, ⟨hex.1, hex.2.1, hex.2.2⟩, rfl⟩, r1', by rw [r2]; exact T', fun p hp => isM_but (tup p (r3 p hp)) ho hd sb, by rw [r2, em]; exact hn⟩ r2 r3
/-- one more -/
theorem addM_w (R : SetMW P w s.heap a L es ep t) {x : Addr} {k : List Key} (hx : IsM P w s.heap k x) (hu : A.units < cLine) (hfew : L.length + 1 ≤ 1228) {Q : Bool → Shared → Prop}
    (hQ : ∀ b h' L' es' ep' t', Heap.SameBut a s.heap h' → SetMW P w h' a L' es' ep' t' → (k ∈ L.map (·.2) ∧ L' = L) ∨ (L'.length = L.length + 1 ∧ ∀ p ∈ L', p = (x, k) ∨ p ∈ L) → Q b { s with heap := h' }) :
    wpAny (model P w) A (setAddHashed a (.ref x) (mhash P w k)) Q E s := by
  obtain ⟨o, ho, hex, hd⟩ := R.ob
  have hsl := R.size
  have hroom := R.room
  have hodd := R.tab.mok.odd
  unfold setAddHashed
  refine wpAny_holding ?_
  rw [show (100000 : Nat) = 99999 + 1 from rfl, setAddHashedIn_succ]
  refine wpAny_bind (wpAny_setState_of ho hd R.fits ?_)
  dsimp only
  refine wp_if_neg (by simp [byScan, Value.scannable]) ?_
  try refine wpAny_bind (wpAny_pure ?_)
  obtain ⟨K, k1, k2, k3⟩ := R.tab.first (by omega) (mhash P w k)
  refine wpAny_bind ?_
  unfold setSearch
  refine searchM_w R hx hu rfl k1 k2 k3 (fun hm => ?_) ?_ 100000 0 none rfl (Nat.zero_le _) (by unfold SetTable.turns at k1; omega)
  · dsimp only
    exact wpAny_pure (hQ false s.heap L es ep t (Heap.SameBut.refl a s.heap) R (.inl ⟨hm, rfl⟩))
  · dsimp only
    refine wpAny_bind (wpAny_setState_of ho hd R.fits ?_)
    dsimp only
    obtain ⟨T1, q1, q2, q3, q4, q5⟩ := R.tab.put k2 (way_in _ _ _)
    generalize hpt : t.put (way t.mask (mhash P w k) K) = pt at T1 q1 q2 q3 q4 ⊢
    obtain ⟨t1, p⟩ := pt
    dsimp only at T1 q1 q2 q3 q4 ⊢
    subst q4
    rw [R.tab.sz] at q5
    generalize SetTable.below t.place (way t.mask (mhash P w k) K) = p at q5 ⊢
    obtain ⟨L1, hL1⟩ : ∃ L1, L1 = L.take p ++ (x, k) :: L.drop p := ⟨_, rfl⟩
    have hin : (SetTable.insertAt es p (mhash P w k, Value.ref x)).toList = L1.map (rowM P w) := by
      rw [SetTable.toList_insertAt, R.rows, hL1, List.map_append, List.map_cons, List.map_take, List.map_drop]
      rfl
    have hlen : L1.length = L.length + 1 := by rw [hL1]; exact len_ins L q5 _
    have hmem : ∀ q ∈ L1, q = (x, k) ∨ q ∈ L := fun q hq => by rw [hL1] at hq; exact mem_ins.mp hq
    have hes : (SetTable.insertAt es p (mhash P w k, Value.ref x)).size = L.length + 1 := by
      have := congrArg List.length hin
      rwa [Array.length_toList, List.length_map, hlen] at this
    generalize SetTable.insertAt es p (mhash P w k, Value.ref x) = es1 at hin hes ⊢
    -- behind the value's own word
    have tail : ∀ t2 : SetTable, TabW t2 (L.length + 1) → t2.mask = t.mask → wpAny (model P w) A (do
        storeSet a es1 t2
        if !false && t2.tooFull then setRelay a (SetTable.grown (es.size + 1))
        return true) Q E s := fun t2 T2 m2 => by
      refine wpAny_bind (wpAny_storeSet_of ho hd ?_ (by rw [hes, sizeLine_eq]; omega))
      have sb : Heap.SameBut a s.heap (s.heap.update a (Obj.putSet es1 t2)) := Heap.SameBut.update ..
      have ho1 := store_at (es' := es1) (t' := t2) ho hd
      generalize s.heap.update a (Obj.putSet es1 t2) = h1 at sb ho1 ⊢
      have tup1 : ∀ q ∈ L1, IsM P w h1 q.2 q.1 := fun q hq => by
        rcases hmem q hq with rfl | hq
        · exact isM_but hx ho hd sb
        · exact isM_but (R.tup q hq) ho hd sb
      by_cases hf : t2.tooFull = true
      · have hfull : (L.length + 1) * 5 ≥ t2.mask * 3 := by
          have h := hf
          unfold SetTable.tooFull SetTable.fill at h
          rw [decide_eq_true_eq, T2.dm, T2.sz] at h
          exact h
        rw [m2] at hfull
        have go : ∀ M, SetTable.sizeAbove (SetTable.grown (es.size + 1)) = M + 1 → MaskB M → (L.length + 1) * 5 < M * 3 →
            wpAny (model P w) A (setRelay a (SetTable.grown (es.size + 1))) (fun _ s' => wpAny (model P w) A (pure true) Q E s') E { s with heap := h1 } := fun M e1 e2 e3 => by
          refine relayM_w (s := { s with heap := h1 }) (L := L1) ho1 ⟨hex.1, hex.2.1, hex.2.2⟩ rfl hin (by rw [hlen]; exact T2) (by rw [hlen, m2]; have := R.tab.mok; unfold MaskB at this; omega) tup1 e1 e2 (by rw [hlen]; exact e3) ?_
          intro h2 L2 es2 ep2 t3 sb2 R2 l2 g2
          exact wpAny_pure (hQ true h2 L2 es2 ep2 t3 (sb.trans sb2) R2 (.inr ⟨l2.trans hlen, fun q hq => hmem q (g2 q hq)⟩))
        have run : wpAny (model P w) A (setRelay a (SetTable.grown (es.size + 1))) (fun _ s' => wpAny (model P w) A (pure true) Q E s') E { s with heap := h1 } := by
          rcases R.tab.mok with e | e | e | e | e
          · have : L.length = 4 := by omega
            exact go 31 (by rw [hsl, this, above5]) (.inr (.inl rfl)) (by omega)
          · have : L.length = 18 := by omega
            exact go 127 (by rw [hsl, this, above19]) (.inr (.inr (.inl rfl))) (by omega)
          · have : L.length = 76 := by omega
            exact go 511 (by rw [hsl, this, above77]) (.inr (.inr (.inr (.inl rfl)))) (by omega)
          · have : L.length = 306 := by omega
            exact go 2047 (by rw [hsl, this, above307]) (.inr (.inr (.inr (.inr rfl)))) (by omega)
          · omega
        first
          | (refine wpAny_bind ?_; refine wp_if_pos (by simp [hf]) ?_; exact run)
          | (refine wp_if_pos (by simp [hf]) ?_; refine wpAny_bind ?_; exact run)
      · have hnf : (L.length + 1) * 5 < t2.mask * 3 := by
          have h := hf
          unfold SetTable.tooFull SetTable.fill at h
          rw [decide_eq_true_eq, T2.dm, T2.sz] at h
          show _
          have : (#[] : Array Nat).size = 0 := rfl
          omega
        have fin : wpAny (model P w) A (pure true) Q E { s with heap := h1 } :=
          wpAny_pure (hQ true h1 L1 es1 (ep + 1) t2 sb ⟨⟨_, ho1, ⟨hex.1, hex.2.1, hex.2.2⟩, rfl⟩, hin, by rw [hlen]; exact T2, tup1, by rw [hlen]; exact hnf⟩ (.inr ⟨hlen, hmem⟩))
        first
          | (refine wp_if_neg (by simp [hf]) ?_; exact fin)
          | (refine wpAny_bind ?_; refine wp_if_neg (by simp [hf]) ?_; refine wpAny_pure ?_; exact fin)
    have both : ∀ b : Bool, wpAny (model P w) A (do
        storeSet a es1 (if b = true then t1 else { t1 with plain := false })
        if !false && (if b = true then t1 else { t1 with plain := false }).tooFull then setRelay a (SetTable.grown (es.size + 1))
        return true) Q E s := fun b => by
      cases b with
      | true => exact tail t1 T1 q1
      | false => exact tail { t1 with plain := false } ⟨T1.ris, T1.dm, T1.sz, T1.mok, T1.bd⟩ q1
    by_cases hp : t1.plain = true
    · first
        | (refine wp_if_pos hp (wpAny_bind (byvalue_m hx fun b => ?_)); exact both b)
        | (refine wpAny_bind ?_; refine wp_if_pos hp ?_; refine byvalue_m hx fun b => ?_; exact both b)
    · first
        | (refine wp_if_neg hp (wpAny_bind (wpAny_pure ?_)); exact both true)
        | (refine wpAny_bind ?_; refine wp_if_neg hp ?_; refine wpAny_pure ?_; exact both true)
end
end Z
namespace Z
open PySem PySem.Spec PyProof.Rows L2
/-- all but the last unlike -/
def Unl (ks : List Rw) : Prop := ∀ i j p q, i < j → j + 1 < ks.length → ks[i]? = some p → ks[j]? = some q → p.2 ≠ q.2
/-- what a set has got of the first i -/
structure GotW (ks : List Rw) (i : Nat) (L : List Rw) : Prop where
  sub : ∀ p ∈ L, ∃ j, j < i ∧ ks[j]? = some p
  len : L.length ≤ i ∧ (i < ks.length → L.length = i) ∧ i ≤ L.length + 1
theorem GotW.zero (ks : List Rw) : GotW ks 0 [] := ⟨fun p h => (nomatch h), by simp⟩
theorem GotW.next {ks L L' : List Rw} {i : Nat} {x : Rw} (g : GotW ks i L) (U : Unl ks) (h : ks[i]? = some x) (hc : (x.2 ∈ L.map (·.2) ∧ L' = L) ∨ (L'.length = L.length + 1 ∧ ∀ p ∈ L', p = (x.1, x.2) ∨ p ∈ L)) : GotW ks (i + 1) L' := by
  have hi : i < ks.length := (List.getElem?_eq_some_iff.mp h).1
  have h1 := g.len.2.1 hi
  rcases hc with ⟨hm, rfl⟩ | ⟨hl, hs⟩
  · refine ⟨fun p hp => ?_, by omega, fun c => ?_, by omega⟩
    · obtain ⟨j, h2, h3⟩ := g.sub p hp
      exact ⟨j, by omega, h3⟩
    · exfalso
      obtain ⟨p, hp, e⟩ := List.mem_map.mp hm
      obtain ⟨j, h2, h3⟩ := g.sub p hp
      exact U j i p x h2 c h3 h e
  · refine ⟨fun p hp => ?_, by omega, fun _ => by omega, by omega⟩
    rcases hs p hp with rfl | hp
    · exact ⟨i, by omega, h⟩
    · obtain ⟨j, h2, h3⟩ := g.sub p hp
      exact ⟨j, by omega, h3⟩
section
variable {P : Program} {w : World} {A : Around} {E : Value → Shared → Prop} {s : Shared}
theorem isM_keep {h h' : Heap} {k : List Key} {b : Addr} (x : IsM P w h k b) (hk : ∀ c o, h.get? c = some o → h'.get? c = some o) : IsM P w h' k b := by
  obtain ⟨o, items, n, ho, r⟩ := x
  exact ⟨o, items, n, hk b o ho, r⟩
theorem SetMW.keep {h h' : Heap} {a : Addr} {L : List Rw} {es : Array (Int × Value)} {ep : Nat} {t : SetTable} (R : SetMW P w h a L es ep t) (ha : ∀ o, h.get? a = some o → h'.get? a = some o) (ht : ∀ p ∈ L, IsM P w h' p.2 p.1) : SetMW P w h' a L es ep t := by
  obtain ⟨o, ho, r⟩ := R.ob
  exact ⟨⟨o, ha o ho, r⟩, R.rows, R.tab, ht, R.room⟩
theorem setW_fresh {h : Heap} {a : Addr} (ho : h.get? a = some { cls := .type "set", dict := none, data := .set #[] 0 (.fresh 0 0 (!w.params.followText "set-order")) }) : SetMW P w h a [] #[] 0 (.fresh 0 0 (!w.params.followText "set-order")) where
  ob := ⟨_, ho, ⟨rfl, rfl, rfl⟩, rfl⟩
  rows := rfl
  tab := ⟨List.Pairwise.nil, rfl, rfl, .inl rfl, fun x hx => (nomatch hx)⟩
  tup := fun p hp => (nomatch hp)
  room := by
    show 0 * 5 < 7 * 3
    decide
/-- the loop of set.update -/
theorem updateM_w {I : Addr} {fp wr : List Addr} {G : Array GenState → Array GenState → Prop} {n : Nat} {Pv : Nat → Value → Prop} {St : Nat → Shared → Prop} {R : Result → Shared → Prop}
    (W : WalksS P w A.in1 I fp wr G n Pv St) (S : Addr) (hSf : S ∉ fp) (ks : List Rw) (U : Unl ks) (hn : n = ks.length) (hfew : ks.length ≤ 1228) (hval : ∀ i v, Pv i v → ∃ p, ks[i]? = some p ∧ v = .ref p.1)
    (h0 : Heap) (hk : ∀ p ∈ ks, IsM P w h0 p.2 p.1) (hS0 : h0.get? S = none) (hw0 : ∀ b ∈ wr, h0.get? b = none) (hu : A.in1.units < cLine) :
    ∀ (k i : Nat) (s : Shared), n - i = k → i ≤ n → St i s → (∀ b o, h0.get? b = some o → s.heap.get? b = some o) → (∃ L es ep t, SetMW P w s.heap S L es ep t ∧ GotW ks i L) →
      (∀ s' L es ep t, Moved (S :: wr) G s s' → SetMW P w s'.heap S L es ep t → GotW ks n L → (∀ b o, h0.get? b = some o → s'.heap.get? b = some o) → R (.ok (.ret .none)) s') →
      codeAny (model P w) A (.builtin "set.update.loop" ⟨[.ref S, .ref I], []⟩) R s := by
  have hSw : S ∉ wr := fun h => hSf (W.sub _ h)
  have hsub : ∀ b ∈ wr, b ∈ S :: wr := fun b hb => List.mem_cons_of_mem _ hb
  have keepM : ∀ {s s' : Shared}, Moved wr G s s' → (∀ b o, h0.get? b = some o → s.heap.get? b = some o) → ∀ b o, h0.get? b = some o → s'.heap.get? b = some o := fun hm hkp b o e =>
    hm.heap b o (fun hb => by rw [hw0 b hb] at e; cases e) (hkp b o e)
  have memk : ∀ {L : List Rw} {i : Nat}, GotW ks i L → ∀ p ∈ L, p ∈ ks := fun g p hp => by
    obtain ⟨j, _, h⟩ := g.sub p hp
    exact List.mem_of_getElem? h
  intro k
  induction k with
  | zero =>
    intro i s hk' hi hst hkp ⟨L, es, ep, t, hS, g⟩ hR
    obtain rfl : i = n := by omega
    refine codeAny_builtin F.entry_set_update_loop ?_
    rw [Around.under_plainId F.plain_set_update_loop _]
    show wpAny _ A.in1 (pyNext (.ref I) >>= _) _ _ s
    refine wpAny_bind (W.done s _ _ hst fun s' hm => ?_)
    show wpAny _ A.in1 (ret Value.none) _ _ s'
    have hkp' := keepM hm hkp
    exact wpAny_pure (hR s' L es ep t (hm.mono hsub) (hS.keep (fun o e => hm.heap S o hSw e) fun p hp => isM_keep (hk p (memk g p hp)) hkp') g hkp')
  | succ k ih =>
    intro i s hk' hi hst hkp ⟨L, es, ep, t, hS, g⟩ hR
    have hlt : i < n := by omega
    refine codeAny_builtin F.entry_set_update_loop ?_
    rw [Around.under_plainId F.plain_set_update_loop _]
    show wpAny _ A.in1 (pyNext (.ref I) >>= _) _ _ s
    refine wpAny_bind (W.item i s _ _ hlt hst fun v s' hP hst' hm => ?_)
    obtain ⟨p, hp, rfl⟩ := hval i v hP
    have hkp' := keepM hm hkp
    have hS' : SetMW P w s'.heap S L es ep t := hS.keep (fun o e => hm.heap S o hSw e) fun q hq => isM_keep (hk q (memk g q hq)) hkp'
    have hx : IsM P w s'.heap p.2 p.1 := isM_keep (hk p (List.mem_of_getElem? hp)) hkp'
    show wpAny _ A.in1 (holding [Value.ref p.1] (setAdd S (.ref p.1)) >>= _) _ _ s'
    refine wpAny_bind (wpAny_holding ?_)
    unfold setAdd
    refine wpAny_holding ?_
    refine wpAny_bind (wpAny_pyHash_tuple hu hx ?_)
    refine addM_w (s := { s' with toks := s'.toks + (p.2.length + 1) }) hS' hx hu (by have := g.len.1; omega) fun b h' L' es' ep' t' hsb hS2 hc => ?_
    have g' : GotW ks (i + 1) L' := g.next U hp hc
    have hkp2 : ∀ b o, h0.get? b = some o → h'.get? b = some o := fun b o e => (hsb.2 b (fun z => by rw [z, hS0] at e; cases e)).trans (hkp' b o e)
    refine wpAny_pure ⟨plainId_quiet F.plain_set_update_loop _, ih (i + 1) _ (by omega) hlt (W.frame _ s' _ _ hst' (Nat.le_add_right _ _) fun b hb o e => ?_) hkp2 ⟨L', es', ep', t', hS2, g'⟩ fun s'' L2 es2 ep2 t2 hm'' hS'' g'' hkp'' => ?_⟩
    · rw [hsb.2 b (fun h : b = S => hSf (by rw [← h]; exact hb))]; exact e
    · refine hR s'' L2 es2 ep2 t2 (Moved.trans W.gtrans ((hm.mono hsub).then_heap (Nat.le_add_right _ _) fun b o hb e => ?_) hm'') hS'' g'' hkp''
      rw [hsb.2 b (fun h : b = S => hb (by rw [h]; exact List.mem_cons_self))]; exact e
set_option maxHeartbeats 3200000 in
/-- set(xs): as many as xs, or one less -/
theorem call_set_w {l : Addr} {items : Array Value} (ks : List Rw) (U : Unl ks) {Q : Value → Shared → Prop} (hh : A.handled = none) (hl : s.heap.IsList l items) (hit : items.toList = ks.map fun p => Value.ref p.1)
    (hk : ∀ p ∈ ks, IsM P w s.heap p.2 p.1) (hfew : ks.length ≤ 1228) (hu : A.units + 3 < cLine)
    (h : ∀ (h' : Heap) (tk : Nat) L es ep t, SetMW P w h' s.heap.objs.size L es ep t → GotW ks ks.length L → (∀ b o, s.heap.get? b = some o → h'.get? b = some o) → Q (.ref s.heap.objs.size) { s with heap := h', toks := tk }) :
    wpAny (model P w) A (call (.type "set") [.ref l]) Q E s := by
  have hisz : items.size = ks.length := by
    have q := congrArg List.length hit
    rwa [Array.length_toList, List.length_map] at q
  obtain ⟨c, tl, hmro⟩ := F.called_set.mro
  have hmade := F.called_set.made
  have hsub := F.called_set.sub
  refine wpAny_call (codeAny_of_tree ?_)
  show wpAny _ _ (callAny (.type "set") _) _ _ _
  refine wpAny_pure ⟨Code.quiet_builtin _ (by decide +kernel), codeAny_builtin F.entry_type_call ?_⟩
  rw [Around.under_plain (weight_type_call_type "set" [.ref l] []) rfl]
  have h1 := F.called_set.notType
  have h2 := F.called_set.canCreate
  have hct := F.typeCall_set_1 (.ref l)
  repeat (any_goals (first | assumption | wp_step))

  refine codeAny_mono (code_set_led1 (.ref l) (E := E) (Q₁ := fun obj s₁ => obj = .ref s.heap.objs.size ∧ s₁ = { s with heap := s.heap.push { cls := .type "set", dict := none, data := .set #[] 0 (.fresh 0 0 (!w.params.followText "set-order")) } }) ⟨rfl, rfl⟩) fun r s₁ hr => ?_
  cases r with
  | error e => exact hr
  | ok fl =>
    cases fl with
    | ret obj =>
      obtain ⟨rfl, rfl⟩ := hr
      have hS : (s.heap.push { cls := .type "set", dict := none, data := .set #[] 0 (.fresh 0 0 (!w.params.followText "set-order")) }).get? s.heap.objs.size = some { cls := .type "set", dict := none, data := .set #[] 0 (.fresh 0 0 (!w.params.followText "set-order")) } := Heap.get?_push_size _ rfl
      have hT : Shared.TypeIs { s with heap := s.heap.push { cls := .type "set", dict := none, data := .set #[] 0 (.fresh 0 0 (!w.params.followText "set-order")) } } (.ref s.heap.objs.size) "set" := ⟨_, hS, rfl⟩
      have hli := F.called_set.init.lookup
      have hbi := F.called_set.init.bind (.ref s.heap.objs.size)
      repeat (any_goals (first | assumption | wp_step))

      refine codeAny_mono (codeAny_call_builtin (R := wants (fun r s₂ => r = .none ∧ ∃ h' tk L es ep t, s₂ = { s with heap := h', toks := tk } ∧ SetMW P w h' s.heap.objs.size L es ep t ∧ GotW ks ks.length L ∧
          (∀ b o, s.heap.get? b = some o → h'.get? b = some o)) E) F.called_set.init.plain F.entry_set_init (check_set_init_1 hT ?_)) fun r₂ s₂ hr₂ => ?_
      · obtain ⟨ol, hol, hcl, nl, hdl⟩ := hl
        obtain ⟨ocls, odict, odata, oslots⟩ := ol
        simp only at hcl hdl
        subst hcl; subst hdl
        have hol' : (s.heap.push { cls := .type "set", dict := none, data := .set #[] 0 (.fresh 0 0 (!w.params.followText "set-order")) }).get? l = some { cls := .type "list", dict := odict, data := .seq items nl, slots := oslots } := Heap.get?_push_of_some _ hol
        have hsls := F.sub_list_set
        have hslf := F.sub_list_frozenset
        have hne : (Value.type "list" == Value.type "dict") = false := by decide
        have hl1 : (s.heap.push { cls := .type "set", dict := none, data := .set #[] 0 (.fresh 0 0 (!w.params.followText "set-order")) }).IsList l items := ⟨_, hol', rfl, nl, rfl⟩
        unfold Builtin.«set.__init__» noKeywords Builtin.Frozenset.updateFrom
        generalize hPI : pyIter = PI
        wp_walk
        subst hPI

        refine wpAny_pyIter_list hl1 ?_
        refine wpAny_bind (wpAny_runValue ?_)
        have hlS : l < s.heap.objs.size := Heap.lt_size hol
        have hh3 : A.in1.in1.in1.handled = none := by simp [hh]
        have hneI : l ≠ (s.heap.push { cls := .type "set", dict := none, data := .set #[] 0 (.fresh 0 0 (!w.params.followText "set-order")) }).objs.size := by
          rw [Heap.size_push]; exact Nat.ne_of_lt (Nat.lt_succ_of_lt hlS)
        have hSf : s.heap.objs.size ∉ [(s.heap.push { cls := .type "set", dict := none, data := .set #[] 0 (.fresh 0 0 (!w.params.followText "set-order")) }).objs.size, l] := by
          rw [Heap.size_push]; simp only [List.mem_cons, List.mem_singleton, List.not_mem_nil, or_false, not_or]
          exact ⟨Nat.ne_of_lt (Nat.lt_succ_self _), Nat.ne_of_gt hlS⟩
        have hval : ∀ (i : Nat) (v : Value), items[i]? = some v → ∃ p, ks[i]? = some p ∧ v = .ref p.1 := fun i v hv => by
          have q : items.toList[i]? = some v := by rw [Array.getElem?_toList]; exact hv
          rw [hit, List.getElem?_map] at q
          obtain ⟨p, h3, h4⟩ := Option.map_eq_some_iff.mp q
          exact ⟨p, h3, h4.symm⟩
        have none_of : ∀ b, s.heap.objs.size ≤ b → s.heap.get? b = none := fun b hb => by
          cases q : s.heap.get? b with
          | none => rfl
          | some o => exact absurd (Nat.lt_of_lt_of_le (Heap.lt_size q) hb) (Nat.lt_irrefl _)
        refine updateM_w ((Walks.list hh3 _ l hneI items).toS) s.heap.objs.size
          hSf ks U hisz hfew hval s.heap hk (none_of _ (Nat.le_refl _)) (fun b hb => none_of b (by
            rw [List.mem_singleton.mp hb, Heap.size_push]
            exact Nat.le_succ _)) hu (items.size - 0) 0 _ (by omega) (Nat.zero_le _)
          ⟨⟨_, Heap.get?_push_size _ rfl, rfl, rfl⟩, (hl1.push _)⟩ (fun b o e => Heap.get?_push_of_some _ (Heap.get?_push_of_some _ e)) ?hS0 ?hR
        case hS0 =>
          have hget : ((s.heap.push { cls := .type "set", dict := none, data := .set #[] 0 (.fresh 0 0 (!w.params.followText "set-order")) }).push { cls := .type "list_iterator", data := .fields #[.ref l, .int 0 0] }).get? s.heap.objs.size
              = some { cls := .type "set", dict := none, data := .set #[] 0 (.fresh 0 0 (!w.params.followText "set-order")) } := Heap.get?_push_of_some _ hS
          exact ⟨[], #[], 0, _, setW_fresh hget, GotW.zero ks⟩
        case hR =>
          intro s' L es ep t hm hS' g' hkp
          obtain ⟨h', g2, d', tk', os'⟩ := s'
          have eg : g2 = s.gens := hm.gens
          have ed : d' = s.drawn := hm.drawn
          have eo : os' = s.os := hm.os
          subst eg; subst ed; subst eo
          show wpAny _ _ _ _ _ _
          refine wpAny_pure ?_
          show wpAny _ _ (ret Value.none) _ _ _
          rw [hisz] at g'
          exact wpAny_pure ⟨rfl, h', tk', L, es, ep, t, rfl, hS', g', hkp⟩

      · cases r₂ with
        | error e => exact hr₂
        | ok fl₂ =>
          cases fl₂ with
          | ret r =>
            obtain ⟨rfl, h', tk, L, es, ep, t, rfl, hS', g', hk'⟩ := hr₂
            repeat (any_goals (first | assumption | wp_step))
            exact h _ _ _ _ _ _ hS' g' hk'
          | _ => exact hr₂.elim
    | _ => exact hr.elim
end
end Z
namespace Z
open PySem PySem.Spec PyProof.Rows L2
def ckey (c : List Nat × Int) : List Key := [Sum.inr (Z.str c.1), Sum.inl c.2]
def TupC (K : PySem.W.Frag) (H : Hp) (p : Rw) : Prop := ∃ c : List Nat × Int, p.2 = ckey c ∧ SqT K H p.1 [.str (Z.str c.1), .int c.2]
def tLenSetM (K : PySem.W.Frag) (ta : TE) : TE := fun σ H Q => ta σ H fun x H1 => ∃ (l : Addr) (ks : List Rw), x = .ref l ∧ SqL K H1 l (ks.map fun p => V.ref p.1) ∧ (∀ p ∈ ks, TupC K H1 p) ∧ ks.length ≤ 1228 ∧ Unl ks ∧ ∀ m : Nat, m ≤ ks.length → ks.length ≤ m + 1 → Q (.int m) H1
theorem refs_m : ∀ {ks : List Rw} {us : List Value}, Vals (ks.map fun p => V.ref p.1) us → us = ks.map fun p => Value.ref p.1
  | [], _, .nil => rfl
  | p :: ks, _, .cons r t => by
    cases r
    rw [refs_m t]
    rfl
theorem isM_of {X : Cx} {pins : List (Addr × Obj)} {σ : L2.St} {H : Hp} {s : Shared} {p : Rw} (I : Inv X pins σ H s) (h : TupC X.K H p) : IsM X.prog X.w s.heap p.2 p.1 := by
  obtain ⟨c, e, h⟩ := h
  obtain ⟨its, r, ⟨o, ho, hc, n, hd⟩, _⟩ := I.tuple h
  rw [e]
  refine ⟨o, its.toArray, n, ho, hc, hd, ?_⟩
  cases r with
  | cons r1 r2 =>
    cases r2 with
    | cons r2 r3 =>
      cases r3
      obtain ⟨t1, rfl⟩ := r1
      obtain ⟨t2, rfl⟩ := r2
      exact .cons (mixKind_str _ _ _ _) (.cons (mixKind_int _ _ _ _) .nil)
theorem pe_lenSetM {X : Cx} {a : Expr} {ta : TE} {p p2 q pos : Pos} (hc : X.calm = true) (hu : X.A.units + 8 < cLine) (hg : Gl X "len") (hm : X.mg "len" = none) (hg2 : Gl X "set") (hm2 : X.mg "set" = none) (ha : PE X a ta)
    (na : starEach [a] X.env = (false, eval a X.env) :: starEach [] X.env := by rfl) : PE X (.Call (.Name "len" p) [.Call (.Name "set" p2) [a] [] q] [] pos) (tLenSetM X.K ta) := by
  refine ⟨fun pins s σ H Q I h => ?_⟩
  refine Call_ (ld_blt I hg hm PySem.boot_len ?_)
  refine PyProof.Rows.callWith_builtin1 (PyProof.Rows.args_cons ?_ rfl) rfl rfl
  refine Call_ (ld_blt I hg2 hm2 PyProof.Rows.boot_set ?_)
  refine PyProof.Rows.callWith_type1 (PyProof.Rows.args_cons (thn (ha.run pins s σ H _ I h) fun v s1 ⟨x, H1, I1, r1, q1⟩ => PyProof.Rows.args_nil ?_) na) na rfl
  obtain ⟨l, ks, rfl, hq, ht, hl, U, q1⟩ := q1
  cases r1
  obtain ⟨its, r, pl, hz⟩ := I1.list hq
  refine call_set_w (P := X.prog) (w := X.w) ks U (I1.ok.hd hc) pl.isList (by simpa using refs_m r) (fun p hp => isM_of I1 (ht p hp)) hl (by omega) fun h' tk L es ep t R g hk => ?_
  refine PyProof.Rows.args_nil ?_
  obtain ⟨o, ho, hex, hd⟩ := R.ob
  have hsz : es.size = L.length := SetMW.size (s := { s1 with heap := h', toks := tk }) R
  have hf : t.fits es.size = true := SetMW.fits (s := { s1 with heap := h', toks := tk }) R
  have I2 : Inv X pins σ H1 { s1 with heap := h', toks := tk } := I1.kept fun b o e => hk b o e
  have g1 := g.len
  exact call_len_set ho hex hd hf (by rw [hsz]; omega) ⟨.int (L.length : Nat), H1, I2.tok _, ⟨_, by rw [hsz]⟩, q1 L.length g1.1 g1.2.2⟩
def callsD : List D → Option (List (List Nat × Int))
  | [] => some []
  | .tup [.str s, .int n] :: r => (match callsD r with | some t => some ((s, n) :: t) | none => none)
  | _ => none
open Classical in
/-- len(set(m)) < z -/
noncomputable def eFew (m z : SE) : SE := fun ρ S => Z.bd (m ρ S) fun x S1 => match x with
  | .ref n => (match S1[n]? with
    | some (.lst xs) => (match callsD xs with
      | some C => if C.length ≤ 1228 ∧ C.dropLast.Nodup then Z.bd (z ρ S1) fun y S2 => (match y with
          | .int k => if k + 1 ≤ C.length then some (.ok (.bl false) S2) else none
          | _ => none) else none
      | none => none)
    | _ => none)
  | _ => none
theorem callsD_rep {K : KW} {ι : List Addr} {H : Hp} : ∀ {xs : List D} {vs : List V} {C : List (List Nat × Int)}, RepL K ι H xs vs → callsD xs = some C → ∃ ks : List Rw, vs = (ks.map fun p => V.ref p.1) ∧ ks.map (·.2) = C.map ckey ∧ ∀ p ∈ ks, TupC K.K H p
  | [], vs, C, r, h => by
    cases h
    exact ⟨[], r.nil, rfl, fun p hp => nomatch hp⟩
  | x :: xs, vs, C, r, h => by
    obtain ⟨v, ws, rfl, h1, h2⟩ := r.cons
    rw [callsD.eq_def] at h
    split at h
    · rename_i heq
      exact nomatch heq
    · rename_i s n r' heq
      cases heq
      split at h
      · rename_i t ht
        cases h
        obtain ⟨ks, e1, e2, e3⟩ := callsD_rep h2 ht
        rw [Rep] at h1
        obtain ⟨p, us, rfl, q1, q2⟩ := h1
        obtain ⟨u1, r1, rfl, g1, g2⟩ := q2.cons
        obtain ⟨u2, r2, rfl, g3, g4⟩ := g2.cons
        have := g4.nil
        subst this
        have g1' := g1.str.1
        rw [Rep] at g3
        subst g1' g3
        refine ⟨(p, ckey (s, n)) :: ks, by rw [e1]; rfl, by rw [List.map_cons, e2]; rfl, fun q hq => ?_⟩
        rcases List.mem_cons.mp hq with rfl | hq
        · exact ⟨(s, n), rfl, q1.sq⟩
        · exact e3 q hq
      · cases h
    · cases h
theorem unl_of {ks : List Rw} {C : List (List Nat × Int)} (e : ks.map (·.2) = C.map ckey) (h : C.dropLast.Nodup) : Unl ks := fun i j p q hij hj hp hq hk => by
  have hlen : ks.length = C.length := by
    have := congrArg List.length e
    simpa using this
  have key : ∀ (i : Nat) (p : Rw), ks[i]? = some p → ∃ c, C[i]? = some c ∧ p.2 = ckey c := fun i p hp => by
    have h1 : (ks.map (·.2))[i]? = some p.2 := by rw [List.getElem?_map, hp]; rfl
    rw [e, List.getElem?_map] at h1
    obtain ⟨c, h2, h3⟩ := Option.map_eq_some_iff.mp h1
    exact ⟨c, h2, h3.symm⟩
  obtain ⟨c, c1, c2⟩ := key i p hp
  obtain ⟨d, d1, d2⟩ := key j q hq
  have : c = d := by
    rw [c2, d2] at hk
    unfold ckey at hk
    simp only [List.cons.injEq, Sum.inr.injEq, Sum.inl.injEq, and_true] at hk
    exact Prod.ext (str_injT hk.1) hk.2
  subst this
  have ci : C.dropLast[i]? = some c := by rw [List.getElem?_dropLast, if_pos (by omega)]; exact c1
  have cj : C.dropLast[j]? = some c := by rw [List.getElem?_dropLast, if_pos (by omega)]; exact d1
  have hi := (List.getElem?_eq_some_iff.mp ci)
  have hj' := (List.getElem?_eq_some_iff.mp cj)
  obtain ⟨i1, i2⟩ := hi
  obtain ⟨j1, j2⟩ := hj'
  have := (List.pairwise_iff_getElem.mp h) i j i1 j1 hij
  exact this (i2.trans j2.symm)
theorem few_read {X : Cx} {W : WX} {ta : TE} {m z : SE} {σ : L2.St} {H : Hp} {Q : VK} (h : tE X.KW X.mg W (eFew m z) σ H Q) : tOp (rI0 fun i j => .bl (decide (i < j))) (tLenSetM X.K (tE X.KW X.mg W m)) (tE X.KW X.mg W z) σ H Q := by
    obtain ⟨ι, ρ, S, s, r, p⟩ := h
    refine ⟨ι, ρ, S, s, r, ?_⟩
    unfold eFew at p
    refine Po.bd p fun x S1 ι1 H1 y e1 s1 r1 p1 => ?_
    split at p1
    · rename_i n
      split at p1
      · rename_i xs g
        split at p1
        · rename_i C hC
          split at p1
          · rename_i hl
            obtain ⟨a, vs, rfl, i1, e2, r2⟩ := lst_ok s1 r1 g
            obtain ⟨ks, rfl, k2, k3⟩ := callsD_rep r2 hC
            have hlen : ks.length = C.length := by
              have := congrArg List.length k2
              simpa using this
            refine ⟨a, ks, rfl, SqL.of e2, k3, by omega, unl_of k2 hl.2, fun m0 m1 m2 => ?_⟩
            refine ⟨ι1, ρ, S1, s1, r.ext e1, ?_⟩
            refine Po.bd p1 fun y S2 ι2 H2 v e3 s2 r3 p2 => ?_
            split at p2
            · rename_i k
              split at p2
              · rename_i hk
                rw [Rep] at r3
                subst r3
                have : decide ((m0 : Int) < k) = false := decide_eq_false (by omega)
                exact ⟨m0, k, rfl, rfl, by dsimp only; rw [this]; exact Po.ret p2 s2 (by rw [Rep])⟩
              · exact p2.elim
            · exact p2.elim
          · exact p1.elim
        · exact p1.elim
      · exact p1.elim
    · exact p1.elim
theorem gt_few {X : Cx} {W : WX} {e f : Expr} {m z : SE} {p p2 q pos pos2 : Pos} (hc : X.calm = true) (hu : X.A.units + 65 < cLine) (hg : Gl X "len") (hm : X.mg "len" = none) (hg2 : Gl X "set") (hm2 : X.mg "set" = none) (he : GE X W e m) (hf : GE X W f z)
    (hb : behindInMarks .Lt f = false := by first | exact nobehind _ (by decide) (by decide) | rfl)
    (na : starEach [e] X.env = (false, eval e X.env) :: starEach [] X.env := by rfl) : GT X W (.Compare (.Call (.Name "len" p) [.Call (.Name "set" p2) [e] [] q] [] pos2) [.Lt] [f] pos) (tVal (eFew m z)) :=
  (pt_cmpR op_lt (pe_lenSetM hc (by omega) hg hm hg2 hm2 he na) hf hb).imp fun σ H Q h => few_read (ta := tE X.KW X.mg W m) (tVal_read h)
end Z
namespace Z
noncomputable def b_term_of : SS :=
  sRet (e2 fGet (eCall dictTF [eVar 0]) (eVar 1))
noncomputable def R_term_of : Fn := runF 2 2 (b_term_of)
noncomputable def lb_followed_1 : SS :=
  sIf (tVal (e2 eqD (e2 ixD (eVar 0) (eC (.int 0))) (eC (.str [115, 105, 103, 110])))) (sq (sIf (tVal (e2 eqD (eVar 1) (eC (.int 0)))) (sRet (eTup [eTup [eC (.str [115, 105, 103, 110]), e2 ixD (eVar 0) (eC (.int 1))], eVar 2])) (sNx)) (sq (sAsg (e2 subD (eVar 1) (eC (.int 1))) (gName 1)) (sAsg (e2 ixD (eVar 0) (eC (.int 2))) (gName 0)))) (sIf (tVal (e2 eqD (e2 ixD (eVar 0) (eC (.int 0))) (eC (.str [98, 101, 104, 105, 110, 100])))) (sq (sAsg (e2 addD (eVar 1) (eC (.int 1))) (gName 1)) (sAsg (e2 ixD (eVar 0) (eC (.int 1))) (gName 0))) (sq (sAsg (eC (.bl true)) (gName 2)) (sq (sAsg (e2 ixD (eVar 0) (e2 addD (eC (.int 1)) (e2 modD (eVar 1) (eC (.int 2))))) (gName 0)) (sAsg (e2 fdivD (eVar 1) (eC (.int 2))) (gName 1)))))
noncomputable def b_followed : SS :=
  sq (sAsg (eC (.bl false)) (gName 2)) (sq (sWh (tVal (e2 neD (e2 ixD (eVar 0) (eC (.int 0))) (eC (.str [114, 111, 119])))) (lb_followed_1)) (sRet (eTup [eTup [eC (.str [99, 97, 108, 108]), e2 ixD (eVar 0) (eC (.int 1)), eVar 1], eVar 2])))
noncomputable def R_followed : Fn := runF 2 3 (b_followed)
noncomputable def b_law_cell : SS :=
  sq (sIf (tVal (e2 ltD (eVar 1) (eCall lenF [eVar 0]))) (sRet (e2 modD (e2 ixD (eVar 0) (eVar 1)) (e2 powD (eC (.int 10)) (eC (.int 18))))) (sNx)) (sq (sAsg (e2 addD (eC (.int 19)) (e2 mulD (e2 mulD (eC (.int 11)) (eVar 1)) (eVar 1))) (gName 2)) (sq (sIf (tVal (e2 gtD (eCall lenF [eVar 0]) (eC (.int 0)))) (sAsg (e2 addD (eVar 2) (e2 mulD (e2 modD (e2 ixD (eVar 0) (e2 modD (eVar 1) (eCall lenF [eVar 0]))) (eC (.int 1000003))) (e2 addD (eVar 1) (eC (.int 7))))) (gName 2)) (sNx)) (sq (sAsg (e2 modD (e2 mulD (eVar 2) (eC (.int 48271))) (eC (.int 2147483647))) (gName 2)) (sRet (e2 fdivD (e2 modD (e2 powD (eVar 2) (eC (.int 5))) (eC (.int 2147483647))) (eC (.int 3)))))))
noncomputable def R_law_cell : Fn := runF 2 3 (b_law_cell)
noncomputable def lb_law_term_v2_1 : SS :=
  sq (sAsg (e2 modD (eVar 4) (eC (.int 5))) (gName 6)) (sq (sAsg (e2 addD (e2 fdivD (eVar 4) (eC (.int 5))) (e2 mulD (eC (.int 977)) (eVar 5))) (gName 4)) (sIf (tVal (e2 ltD (eVar 6) (eC (.int 2)))) (sAsg (eTup [eC (.str [115, 105, 103, 110]), e2 addD (e2 modD (eVar 4) (eC (.int 3))) (e2 mulD (eC (.int 7)) (e2 modD (eVar 0) (eC (.int 2)))), eVar 3]) (gName 3)) (sIf (tVal (e2 eqD (eVar 6) (eC (.int 2)))) (sAsg (eTup [eC (.str [98, 101, 104, 105, 110, 100]), eVar 3]) (gName 3)) (sq (sAsg (eTup [eC (.str [114, 111, 119]), e2 ixD (eVar 1) (e2 modD (e2 fdivD (eVar 4) (eC (.int 3))) (eCall lenF [eVar 1]))]) (gName 7)) (sq (sIf (tVal (e2 eqD (e2 modD (e2 fdivD (eVar 4) (eC (.int 11))) (eC (.int 2))) (eC (.int 0)))) (sAsg (eTup [eC (.str [115, 105, 103, 110]), e2 modD (e2 fdivD (eVar 4) (eC (.int 13))) (eC (.int 3)), eVar 7]) (gName 7)) (sNx)) (sq (sIf (tAnd (tVal (e2 eqD (eVar 5) (eC (.int 0)))) (tVal (e2 eqD (e2 modD (e2 fdivD (eVar 4) (eC (.int 17))) (eC (.int 4))) (eC (.int 0))))) (sAsg (eTup [eC (.str [98, 101, 104, 105, 110, 100]), eTup [eC (.str [122, 105, 112]), eVar 7, eTup [eC (.str [114, 111, 119]), e2 ixD (eVar 1) (e2 modD (e2 fdivD (eVar 4) (eC (.int 19))) (eCall lenF [eVar 1]))]]]) (gName 7)) (sNx)) (sAsg (e2 ixD (eLst [eTup [eC (.str [122, 105, 112]), eVar 3, eVar 7], eTup [eC (.str [122, 105, 112]), eVar 7, eVar 3]]) (e2 modD (e2 fdivD (eVar 4) (eC (.int 2))) (eC (.int 2)))) (gName 3))))))))
noncomputable def b_law_term_v2 : SS :=
  sq (sAsg (eTup [eC (.str [114, 111, 119]), e2 ixD (eVar 1) (e2 modD (eVar 0) (eCall lenF [eVar 1]))]) (gName 3)) (sq (sAsg (e2 fdivD (eVar 0) (eC (.int 7))) (gName 4)) (sq (sFor (iR1 (eVar 2)) (gName 5) (lb_law_term_v2_1)) (sRet (eVar 3))))
noncomputable def R_law_term_v2 : Fn := runF 3 8 (b_law_term_v2)
noncomputable def b_hangs (F_followed : Fn) : SS :=
  sRet (e2 ixD (eCall F_followed [eVar 0, eVar 1]) (eC (.int 0)))
noncomputable def R_hangs : Fn := runF 2 2 (b_hangs R_followed)
noncomputable def lb_walk_1 (F_followed : Fn) (F_term_of : Fn) : SS :=
  sq (sAsg (eCall F_followed [eCall F_term_of [eVar 0, eVar 1], eVar 2]) (gTup [gName 6, gName 7])) (sq (sIf (tVal (e2 eqD (e2 ixD (eVar 6) (eC (.int 0))) (eC (.str [115, 105, 103, 110])))) (sRet (eTup [eC (.str [115, 105, 103, 110]), e2 ixD (eVar 6) (eC (.int 1)), eVar 3])) (sNx)) (sq (sAsg (eSl (eVar 6) (some (eC (.int 1))) none) (gTup [gName 1, gName 2])) (sq (sIf (tVal (eVar 7)) (sAsg (eDctF) (gName 5)) (sNx)) (sq (sAsg (eOr (e2 kIn (eTup [eVar 1, eVar 2]) (eVar 4)) (eAnd (e2 fIn (eVar 1) (eVar 5)) (e2 leD (e2 fGet (eVar 5) (eVar 1)) (eVar 2)))) (gName 8)) (sq (sExp (eMt .list appendF (eVar 3) [eTup [eVar 1, eVar 2]])) (sq (sKPut (eVar 4) (eTup [eVar 1, eVar 2]) (eC (.bl true))) (sq (sIf (tVal (eVar 8)) (sRet (eTup [eC (.str [102, 114, 101, 101]), eVar 3])) (sNx)) (sFPut (eVar 5) (eVar 1) (eVar 2)))))))))
noncomputable def b_walk (F_followed : Fn) (F_term_of : Fn) : SS :=
  sq (sAsg (eLst [eTup [eVar 1, eVar 2]]) (gName 3)) (sq (sAsg (eDct1 (eTup [eVar 1, eVar 2]) (eC (.bl true))) (gName 4)) (sq (sAsg (eFDct1 (eVar 1) (eVar 2)) (gName 5)) (sWh (tVal (eC (.bl true))) (lb_walk_1 F_followed F_term_of))))
noncomputable def R_walk : Fn := runF 3 9 (b_walk R_followed R_term_of)
noncomputable def lb_law_book_v2_1 (F_law_cell : Fn) (F_law_term : Fn) : SS :=
  sq (sAsg (eCall F_law_cell [eVar 0, e2 addD (eC (.int 1)) (eVar 5)]) (gName 6)) (sq (sAsg (eCall F_law_term [e2 fdivD (eVar 6) (eC (.int 6)), eVar 3, e2 addD (eC (.int 1)) (e2 modD (eVar 6) (eC (.int 5)))]) (gName 7)) (sq (sIf (tVal (e2 gtD (e2 modD (e2 fdivD (eVar 6) (eC (.int 5))) (eC (.int 3))) (eC (.int 0)))) (sAsg (eTup [eC (.str [115, 105, 103, 110]), e2 modD (e2 fdivD (eVar 6) (eC (.int 15))) (eC (.int 3)), eVar 7]) (gName 7)) (sNx)) (sExp (eMt .list appendF (eVar 4) [eTup [e2 ixD (eVar 3) (eVar 5), eVar 7]]))))
noncomputable def b_law_book_v2 (F_law_cell : Fn) (F_law_term : Fn) : SS :=
  sq (sAsg (eCall F_law_cell [eVar 0, eC (.int 0)]) (gName 1)) (sq (sAsg (e2 ixD (eLst [eLst [eC (.str [97]), eC (.str [98]), eC (.str [99]), eC (.str [100])], eLst [eC (.str [120, 120]), eC (.str [120]), eC (.str [120, 120, 120]), eC (.str [121])], eLst [eC (.str [114, 111]), eC (.str [115, 105, 103, 110]), eC (.str [114, 111, 119]), eC (.str [111, 110, 101])]]) (e2 modD (eVar 1) (eC (.int 3)))) (gName 2)) (sq (sAsg (eSl (eVar 2) none (some (e2 addD (eC (.int 1)) (e2 modD (e2 fdivD (eVar 1) (eC (.int 3))) (eC (.int 4)))))) (gName 3)) (sq (sAsg (eLst []) (gName 4)) (sq (sFor (iR1 (eCall lenF [eVar 3])) (gName 5) (lb_law_book_v2_1 F_law_cell F_law_term)) (sRet (eCall tupleF [eVar 4]))))))
noncomputable def R_law_book_v2 : Fn := runF 1 8 (b_law_book_v2 R_law_cell R_law_term_v2)
noncomputable def lb_law_v14_1 (F_walk : Fn) (F_hangs : Fn) : SS :=
  sq (sAsg (eCall F_walk [eVar 1, eVar 3, eVar 5]) (gName 6)) (sq (sAsg (eCall F_hangs [eVar 4, eVar 5]) (gName 7)) (sq (sIf (tVal (e2 eqD (e2 ixD (eVar 7) (eC (.int 0))) (eC (.str [115, 105, 103, 110])))) (sq (sIf (tOr (tVal (e2 neD (eSl (eVar 6) none (some (eC (.int 2)))) (eTup [eC (.str [115, 105, 103, 110]), e2 ixD (eVar 7) (eC (.int 1))]))) (tVal (e2 neD (e2 ixD (eVar 6) (eC (.int 2))) (eLst [eTup [eVar 3, eVar 5]])))) (sRet (eC (.bl false))) (sNx)) (sCt)) (sNx)) (sq (sAsg (eCall F_walk [eVar 1, e2 ixD (eVar 7) (eC (.int 1)), e2 ixD (eVar 7) (eC (.int 2))]) (gName 8)) (sq (sIf (tOr (tVal (e2 neD (e2 ixD (eVar 6) (eC (.int 0))) (e2 ixD (eVar 8) (eC (.int 0))))) (tAnd (tVal (e2 eqD (e2 ixD (eVar 6) (eC (.int 0))) (eC (.str [115, 105, 103, 110])))) (tVal (e2 neD (eSl (eVar 6) none (some (eC (.int 2)))) (eSl (eVar 8) none (some (eC (.int 2)))))))) (sRet (eC (.bl false))) (sNx)) (sq (sIf (tAnd (tVal (e2 eqD (e2 ixD (eVar 6) (eC (.int 0))) (eC (.str [115, 105, 103, 110])))) (tVal (e2 neD (e2 ixD (eVar 6) (eC (.int 2))) (e2 addD (eLst [eTup [eVar 3, eVar 5]]) (e2 ixD (eVar 8) (eC (.int 2))))))) (sRet (eC (.bl false))) (sNx)) (sIf (tVal (e2 eqD (e2 ixD (eVar 6) (eC (.int 0))) (eC (.str [102, 114, 101, 101])))) (sq (sAsg (e2 ixD (e2 ixD (eVar 6) (eC (.int 1))) (e1 negD (eC (.int 1)))) (gName 9)) (sIf (tOr (tVal (e2 neD (e2 ixD (eCall F_walk [eVar 1, e2 ixD (eVar 9) (eC (.int 0)), e2 ixD (eVar 9) (eC (.int 1))]) (eC (.int 0))) (eC (.str [102, 114, 101, 101])))) (tVal (eFew (e2 ixD (eVar 6) (eC (.int 1))) (e2 subD (eCall lenF [e2 ixD (eVar 6) (eC (.int 1))]) (eC (.int 1)))))) (sRet (eC (.bl false))) (sNx))) (sNx)))))))
noncomputable def lb_law_v14_2 (F_walk : Fn) (F_hangs : Fn) : SS :=
  sFor (iAny (eVar 2)) (gName 5) (lb_law_v14_1 F_walk F_hangs)
noncomputable def b_law_v14 (F_law_book : Fn) (F_law_cell : Fn) (F_walk : Fn) (F_hangs : Fn) : SS :=
  sq (sAsg (eCall F_law_book [eVar 0]) (gName 1)) (sq (sAsg (e2 addD (eLR (eC (.int 12))) (eLc (iR1 (eC (.int 3))) (gName 10) (tYes) (e2 modD (eCall F_law_cell [eVar 0, e2 addD (eC (.int 20)) (eVar 10)]) (eC (.int 101))) [10])) (gName 2)) (sq (sFor (iAny (eVar 1)) (gTup [gName 3, gName 4]) (lb_law_v14_2 F_walk F_hangs)) (sRet (eC (.bl true)))))
noncomputable def R_law_v14 : Fn := runF 1 11 (b_law_v14 R_law_book_v2 R_law_cell R_walk R_hangs)
noncomputable def b_split : SS :=
  sRet (eTup [e1 (stepTD 0) (eVar 0), e1 (stepTD 1) (eVar 0)])
noncomputable def R_split : Fn := runF 1 1 (b_split)
noncomputable def lb_shortest_turn_1 : SS :=
  sIf (tAnd (tVal (e2 eqD (e2 modD (eCall lenF [eVar 0]) (eVar 1)) (eC (.int 0)))) (tVal (e2 eqD (e2 mulD (eSl (eVar 0) none (some (eVar 1))) (e2 fdivD (eCall lenF [eVar 0]) (eVar 1))) (eVar 0)))) (sRet (eSl (eVar 0) none (some (eVar 1)))) (sNx)
noncomputable def b_shortest_turn : SS :=
  sq (sFor (iR2 (eC (.int 1)) (eCall lenF [eVar 0])) (gName 1) (lb_shortest_turn_1)) (sRet (eVar 0))
noncomputable def R_shortest_turn : Fn := runF 1 2 (b_shortest_turn)
noncomputable def b_past_zip : SS :=
  sq (sAsg (e2 fdivD (eVar 1) (eC (.int 2))) (gName 2)) (sq (sIf (tVal (e2 eqD (e2 modD (eVar 1) (eC (.int 2))) (eC (.int 0)))) (sRet (eTup [eTup [eVar 2, e2 ixD (eVar 0) (eC (.int 1))], eTup [eVar 2, e2 ixD (eVar 0) (eC (.int 2))]])) (sNx)) (sRet (eTup [eTup [eVar 2, e2 ixD (eVar 0) (eC (.int 2))], eTup [e2 addD (eVar 2) (eC (.int 1)), e2 ixD (eVar 0) (eC (.int 1))]])))
noncomputable def R_past_zip : Fn := runF 2 3 (b_past_zip)
noncomputable def b_first_sign : SS :=
  sq (sIf (tVal (e2 eqD (e2 ixD (eVar 0) (eC (.int 0))) (eC (.str [119, 104, 101, 101, 108])))) (sRet (e2 ixD (e2 addD (e2 ixD (eVar 0) (eC (.int 1))) (e2 ixD (eVar 0) (eC (.int 2)))) (eC (.int 0)))) (sNx)) (sq (sIf (tVal (e2 neD (e2 ixD (eVar 0) (eC (.int 1))) (eTup []))) (sRet (e2 ixD (e2 ixD (eVar 0) (eC (.int 1))) (eC (.int 0)))) (sNx)) (sRet (eC .non)))
noncomputable def R_first_sign : Fn := runF 1 1 (b_first_sign)
noncomputable def b_Opening___init___n : SS :=
  sq (Z.sFld "Opening" "word" (eVar 0) (eCall listF [eVar 1])) (sq (Z.sFld "Opening" "drop" (eVar 0) (eVar 2)) (sq (Z.sFld "Opening" "form" (eVar 0) (eVar 3)) (sq (Z.sFld "Opening" "seen" (eVar 0) (eDctN)) (Z.sFld "Opening" "lows" (eVar 0) (eDctN)))))
noncomputable def R_Opening___init___n : Fn := runF 4 4 (b_Opening___init___n)
noncomputable def b_Opening_step : SS :=
  sIf (tVal (e2 eqD (e2 ixD (eFld "Opening" "form" (eVar 0)) (eC (.int 0))) (eC (.str [98, 101, 104, 105, 110, 100])))) (sq (Z.sFld "Opening" "drop" (eVar 0) (e2 addD (eFld "Opening" "drop" (eVar 0)) (eC (.int 1)))) (Z.sFld "Opening" "form" (eVar 0) (e2 ixD (eVar 1) (e2 ixD (eFld "Opening" "form" (eVar 0)) (eC (.int 1)))))) (sq (sIf (tVal (e2 gtD (eFld "Opening" "drop" (eVar 0)) (eC (.int 0)))) (Z.sFld "Opening" "drop" (eVar 0) (e2 subD (eFld "Opening" "drop" (eVar 0)) (eC (.int 1)))) (sExp (eMt .list appendF (eFld "Opening" "word" (eVar 0)) [e2 ixD (eFld "Opening" "form" (eVar 0)) (eC (.int 1))]))) (Z.sFld "Opening" "form" (eVar 0) (e2 ixD (eVar 1) (e2 ixD (eFld "Opening" "form" (eVar 0)) (eC (.int 2))))))
noncomputable def R_Opening_step : Fn := runF 2 2 (b_Opening_step)
noncomputable def lb_wheel_1 : SS :=
  sq (sAsg (eSl (eVar 0) none (some (e1 negD (eC (.int 1))))) (gName 0)) (sAsg (e2 addD (eSl (eVar 1) (some (e1 negD (eC (.int 1)))) none) (eSl (eVar 1) none (some (e1 negD (eC (.int 1)))))) (gName 1))
noncomputable def b_wheel (F_shortest_turn : Fn) : SS :=
  sq (sAsg (eCall F_shortest_turn [eVar 1]) (gName 1)) (sq (sWh (tAnd (tVal (e2 neD (eVar 0) (eTup []))) (tVal (e2 eqD (e2 ixD (eVar 0) (e1 negD (eC (.int 1)))) (e2 ixD (eVar 1) (e1 negD (eC (.int 1))))))) (lb_wheel_1)) (sRet (eTup [eC (.str [119, 104, 101, 101, 108]), eVar 0, eVar 1])))
noncomputable def R_wheel : Fn := runF 2 2 (b_wheel R_shortest_turn)
noncomputable def b_halves (F_split : Fn) (F_wheel : Fn) : SS :=
  sq (sIf (tVal (e2 eqD (e2 ixD (eVar 0) (eC (.int 0))) (eC (.str [119, 104, 101, 101, 108])))) (sq (sAsg (eSl (eVar 0) (some (eC (.int 1))) none) (gTup [gName 1, gName 2])) (sq (sIf (tVal (e2 eqD (e2 modD (eCall lenF [eVar 1]) (eC (.int 2))) (eC (.int 1)))) (sq (sAsg (e2 addD (eVar 1) (eSl (eVar 2) none (some (eC (.int 1))))) (gName 1)) (sAsg (e2 addD (eSl (eVar 2) (some (eC (.int 1))) none) (eSl (eVar 2) none (some (eC (.int 1))))) (gName 2))) (sNx)) (sq (sAsg (e2 addD (eVar 2) (eVar 2)) (gName 2)) (sq (sAsg (eCall F_split [eVar 1]) (gTup [gName 3, gName 4])) (sRet (eTup [eCall F_wheel [eVar 3, e1 (stepTD 0) (eVar 2)], eCall F_wheel [eVar 4, e1 (stepTD 1) (eVar 2)]])))))) (sNx)) (sq (sAsg (eCall F_split [e2 ixD (eVar 0) (eC (.int 1))]) (gTup [gName 3, gName 4])) (sq (sAsg (e2 ixD (eVar 0) (eC (.int 2))) (gTup [gName 5, gName 6])) (sq (sIf (tVal (e2 eqD (e2 modD (eCall lenF [e2 ixD (eVar 0) (eC (.int 1))]) (eC (.int 2))) (eC (.int 1)))) (sPar 5 6 (eVar 6) (eVar 5)) (sNx)) (sRet (eTup [e2 addD (eTup [eC (.str [114, 111, 112, 101]), eVar 3]) (eVar 5), e2 addD (eTup [eC (.str [114, 111, 112, 101]), eVar 4]) (eVar 6)])))))
noncomputable def R_halves : Fn := runF 1 7 (b_halves R_split R_wheel)
noncomputable def b_Opening_come_again_n (F_wheel : Fn) : SS :=
  sq (sAsg (e2 ixD (eFld "Opening" "form" (eVar 0)) (eC (.int 1))) (gName 1)) (sq (sAsg (eCall lenF [eFld "Opening" "word" (eVar 0)]) (gName 2)) (sq (sAsg (eNGet2 (eFld "Opening" "seen" (eVar 0)) (eTup [eVar 1, eFld "Opening" "drop" (eVar 0)]) (eVar 2)) (gName 3)) (sq (sIf (tVal (e2 ltD (eVar 3) (eVar 2))) (sRet (eCall F_wheel [eCall tupleF [eSl (eFld "Opening" "word" (eVar 0)) none (some (eVar 3))], eCall tupleF [eSl (eFld "Opening" "word" (eVar 0)) (some (eVar 3)) none]])) (sNx)) (sq (sIf (tVal (e2 leD (eNGet2 (eFld "Opening" "lows" (eVar 0)) (eTup [eVar 1, eVar 2]) (e2 addD (eFld "Opening" "drop" (eVar 0)) (eC (.int 1)))) (eFld "Opening" "drop" (eVar 0)))) (sRet (eCall F_wheel [eCall tupleF [eFld "Opening" "word" (eVar 0)], eTup [eC .non]])) (sNx)) (sq (sNPut (eFld "Opening" "seen" (eVar 0)) (eTup [eVar 1, eFld "Opening" "drop" (eVar 0)]) (eVar 2)) (sq (sNPut (eFld "Opening" "lows" (eVar 0)) (eTup [eVar 1, eVar 2]) (eFld "Opening" "drop" (eVar 0))) (sRet (eC .non))))))))
noncomputable def R_Opening_come_again_n : Fn := runF 1 4 (b_Opening_come_again_n R_wheel)
noncomputable def lb_opened_n_1 (F_Opening_come_again : Fn) (F_Opening_step : Fn) : SS :=
  sIf (tVal (e2 eqD (e2 ixD (eFld "Opening" "form" (eVar 3)) (eC (.int 0))) (eC (.str [114, 111, 119])))) (sq (sAsg (eMeth "Opening" "come_again" F_Opening_come_again (eVar 3) []) (gName 4)) (sq (sIf (tVal (e2 isntD (eVar 4) (eC .non))) (sRet (eVar 4)) (sNx)) (Z.sFld "Opening" "form" (eVar 3) (e2 ixD (eVar 0) (e2 fGet (eVar 1) (e2 ixD (eFld "Opening" "form" (eVar 3)) (eC (.int 1)))))))) (sExp (eMeth "Opening" "step" F_Opening_step (eVar 3) [eVar 0]))
noncomputable def b_opened_n (F_Opening___init__ : Fn) (F_Opening_come_again : Fn) (F_Opening_step : Fn) (F_past_zip : Fn) : SS :=
  sq (sIf (tVal (e2 eqD (e2 ixD (eVar 2) (eC (.int 0))) (eC (.str [119, 104, 101, 101, 108])))) (sRet (eVar 2)) (sNx)) (sq (sAsg (eMake "Opening" F_Opening___init__ [e2 ixD (eVar 2) (eC (.int 1)), e2 ixD (eVar 2) (eC (.int 2)), e2 ixD (eVar 0) (e2 ixD (eVar 2) (eC (.int 3)))]) (gName 3)) (sq (sWh (tVal (e2 neD (e2 ixD (eFld "Opening" "form" (eVar 3)) (eC (.int 0))) (eC (.str [122, 105, 112])))) (lb_opened_n_1 F_Opening_come_again F_Opening_step)) (sRet (eTup [eC (.str [122, 105, 112]), eCall tupleF [eFld "Opening" "word" (eVar 3)], eCall F_past_zip [eFld "Opening" "form" (eVar 3), eFld "Opening" "drop" (eVar 3)]]))))
noncomputable def R_opened_n : Fn := runF 3 5 (b_opened_n R_Opening___init___n R_Opening_come_again_n R_Opening_step R_past_zip)
end Z
namespace Z
theorem forL_nil {chk : Store → Prop} {g : SG} {b : SS} {ρ : Env} {S : Store} (h : chk S) : forL chk g b [] ρ S = some (.nx ρ S) := by rw [forL, if_pos h]
theorem forL_cons {chk : Store → Prop} {g : SG} {b : SS} {x : D} {r : List D} {ρ ρ1 ρ2 : Env} {S S1 S2 : Store} (h : chk S) (hg : g x ρ S = some (ρ1, S1)) (hb : b ρ1 S1 = some (.nx ρ2 S2)) : forL chk g b (x :: r) ρ S = forL chk g b r ρ2 S2 := by
  rw [forL, if_pos h, hg]
  dsimp only
  rw [hb]
theorem lcL_map {chk : Store → Prop} {g : SG} {t : ST} {e : SE} {S : Store} {ρ : Env} (f : D → D) : ∀ (xs acc : List D), acc.length + xs.length ≤ LINE →
    (∀ acc, chk (S ++ [.lst acc])) →
    (∀ x ∈ xs, ∀ acc, ∃ ρ1, g x ρ (S ++ [.lst acc]) = some (ρ1, S ++ [.lst acc]) ∧ t ρ1 (S ++ [.lst acc]) = some (.ok true (S ++ [.lst acc])) ∧ e ρ1 (S ++ [.lst acc]) = some (.ok (f x) (S ++ [.lst acc]))) →
    lcL chk g t e S.length xs ρ (S ++ [.lst acc]) = some (.ok (.ref S.length) (S ++ [.lst (acc ++ xs.map f)]))
  | [], acc, _, hc, _ => by rw [lcL, if_pos (hc acc)]; simp
  | x :: xs, acc, hl, hc, h => by
    obtain ⟨ρ1, h1, h2, h3⟩ := h x (by simp) acc
    rw [List.length_cons] at hl
    rw [lcL, if_pos (hc acc), h1]
    dsimp only
    rw [h2, bq_ok, if_pos rfl, h3, bq_ok]
    have hlt : acc.length < LINE := by omega
    simp only [List.getElem?_append_right (Nat.le_refl _), Nat.sub_self, List.getElem?_cons_zero, if_pos hlt]
    have e : (S ++ [MO.lst acc]).set S.length (.lst (acc ++ [f x])) = S ++ [.lst (acc ++ [f x])] := by simp
    rw [e, lcL_map f xs (acc ++ [f x]) (by simp; omega) hc fun y hy => h y (List.mem_cons_of_mem _ hy)]
    simp
@[simp] theorem x_lc (it : SI) (g : SG) (t : ST) (e : SE) (own : List Nat) (ρ : Env) (S : Store) : eLc it g t e own ρ S = bd (it ρ S) fun J S1 => lcL J.chk g t e S1.length J.xs (wipe ρ own) (S1 ++ [.lst []]) := rfl
@[simp] theorem isi_str (s : List Nat) (S : Store) (t : Ty) : isiD t (.str s) S = some (.ok (.bl (match t with | .str => true | _ => false)) S) := rfl
@[simp] theorem isi_non (S : Store) (t : Ty) : isiD t .non S = some (.ok (.bl false) S) := rfl
@[simp] theorem isi_bl (b : Bool) (S : Store) (t : Ty) : isiD t (.bl b) S = some (.ok (.bl (match t with | .int => true | .bool => true | _ => false)) S) := rfl
@[simp] theorem isi_int (i : Int) (S : Store) (t : Ty) : isiD t (.int i) S = some (.ok (.bl (match t with | .int => true | _ => false)) S) := rfl
@[simp] theorem isi_tup (xs : List D) (S : Store) (t : Ty) : isiD t (.tup xs) S = some (.ok (.bl (match t with | .tuple => true | _ => false)) S) := rfl
@[simp] theorem in_str (k : Nat) (z : List Nat) (S : Store) : inD (.str [k]) (.str z) S = some (.ok (.bl (decide (k ∈ z))) S) := rfl
@[simp] theorem nin_str (k : Nat) (z : List Nat) (S : Store) : ninD (.str [k]) (.str z) S = some (.ok (.bl (!decide (k ∈ z))) S) := rfl
theorem atI_mem {α : Type} {xs : List α} {v : Int} (h0 : 0 ≤ v) (h1 : v < xs.length) : ∃ x, atI xs v = some x ∧ x ∈ xs := by
  have hv : v.toNat < xs.length := by omega
  refine ⟨xs[v.toNat], ?_, List.getElem_mem hv⟩
  simp [atI, ixN, h0, h1, hv]
/-- what each round keeps -/
theorem forL_inv {chk : Store → Prop} {g : SG} {b : SS} (I : Env → Store → Prop) (hc : ∀ ρ S, I ρ S → chk S) : ∀ (l : List D), (∀ x ∈ l, ∀ ρ S, I ρ S → ∃ ρ1 S1, g x ρ S = some (ρ1, S1) ∧ ∃ ρ2 S2, b ρ1 S1 = some (.nx ρ2 S2) ∧ I ρ2 S2) → ∀ ρ S, I ρ S → ∃ ρ' S', forL chk g b l ρ S = some (.nx ρ' S') ∧ I ρ' S'
  | [], _, ρ, S, i => ⟨ρ, S, forL_nil (hc ρ S i), i⟩
  | x :: l, h, ρ, S, i => by
    obtain ⟨ρ1, S1, h1, ρ2, S2, h2, h3⟩ := h x (by simp) ρ S i
    rw [forL_cons (hc ρ S i) h1 h2]
    exact forL_inv I hc l (fun y hy => h y (List.mem_cons_of_mem _ hy)) ρ2 S2 h3
theorem forL_ct {chk : Store → Prop} {g : SG} {b : SS} {x : D} {r : List D} {ρ ρ1 ρ2 : Env} {S S1 S2 : Store} (h : chk S) (hg : g x ρ S = some (ρ1, S1)) (hb : b ρ1 S1 = some (.ct ρ2 S2)) : forL chk g b (x :: r) ρ S = forL chk g b r ρ2 S2 := by
  rw [forL, if_pos h, hg]
  dsimp only
  rw [hb]
/-- rounds by their number -/
theorem forL_idx {chk : Store → Prop} {g : SG} {b : SS} (I : Nat → Env → Store → Prop) (hc : ∀ i ρ S, I i ρ S → chk S) : ∀ (l : List D) (n : Nat), (∀ i x, l[i]? = some x → ∀ ρ S, I (n + i) ρ S → ∃ ρ1 S1, g x ρ S = some (ρ1, S1) ∧ ∃ ρ2 S2, (b ρ1 S1 = some (.nx ρ2 S2) ∨ b ρ1 S1 = some (.ct ρ2 S2)) ∧ I (n + i + 1) ρ2 S2) →
    ∀ ρ S, I n ρ S → ∃ ρ' S', forL chk g b l ρ S = some (.nx ρ' S') ∧ I (n + l.length) ρ' S'
  | [], n, _, ρ, S, i => ⟨ρ, S, forL_nil (hc n ρ S i), i⟩
  | x :: l, n, h, ρ, S, i => by
    obtain ⟨ρ1, S1, h1, ρ2, S2, h2, h3⟩ := h 0 x rfl ρ S i
    obtain ⟨ρ', S', h4, h5⟩ := forL_idx I hc l (n + 1) (fun j y hy ρ S i' => by
      have := h (j + 1) y (by simpa using hy) ρ S (by rw [show n + (j + 1) = n + 1 + j by omega]; exact i')
      rw [show n + (j + 1) + 1 = n + 1 + j + 1 by omega] at this
      exact this) ρ2 S2 h3
    refine ⟨ρ', S', ?_, by rw [List.length_cons, show n + (l.length + 1) = n + 1 + l.length by omega]; exact h5⟩
    rcases h2 with h2 | h2
    · rw [forL_cons (hc n ρ S i) h1 h2, h4]
    · rw [forL_ct (hc n ρ S i) h1 h2, h4]
theorem get_app {S : Store} {i : Nat} {o : MO} (h : S[i]? = some o) (T : Store) : (S ++ T)[i]? = some o := by rw [List.getElem?_append_left (List.getElem?_eq_some_iff.mp h).1]; exact h
theorem atI_nat {α : Type} {xs : List α} {k : Nat} {x : α} (h : xs[k]? = some x) : atI xs (k : Int) = some x := by
  have hk := (List.getElem?_eq_some_iff.mp h).1
  have := (List.getElem?_eq_some_iff.mp h).2
  simp [atI, ixN, hk, this]
theorem sWh_rt {t : ST} {b : SS} {ρ : Env} {S S1 S2 : Store} {d : D} (h : t ρ S = some (.ok true S1)) (hb : b ρ S1 = some (.rt d S2)) : sWh t b ρ S = some (.rt d S2) := by
  rw [sWh, h]
  dsimp only
  rw [hb]
theorem sWh_go {t : ST} {b : SS} {ρ ρ2 : Env} {S S1 S2 : Store} (h : t ρ S = some (.ok true S1)) (hb : b ρ S1 = some (.nx ρ2 S2)) : sWh t b ρ S = sWh t b ρ2 S2 := by
  conv => lhs; rw [sWh]
  rw [h]
  dsimp only
  rw [hb]
theorem sWh_stop {t : ST} {b : SS} {ρ : Env} {S S1 : Store} (h : t ρ S = some (.ok false S1)) : sWh t b ρ S = some (.nx ρ S1) := by
  rw [sWh, h]
theorem pick_str {names : List (List Nat)} (h : 0 < names.length) (x : Int) : ∃ s, s ∈ names ∧ atI (names.map D.str) (x % (names.length : Int)) = some (.str s) := by
  have v0 := Int.emod_nonneg x (b := (names.length : Int)) (by omega)
  have v1 := Int.emod_lt_of_pos x (b := (names.length : Int)) (by omega)
  obtain ⟨y, h1, h2⟩ := atI_mem (xs := names.map D.str) v0 (by simpa using v1)
  obtain ⟨s, h3, rfl⟩ := List.mem_map.mp h2
  exact ⟨s, h3, h1⟩
theorem mod_nat (x : Int) {m : Int} (h : 0 < m) : ∃ k : Nat, x % m = (k : Int) ∧ (k : Int) < m := ⟨(x % m).toNat, by rw [Int.toNat_of_nonneg (Int.emod_nonneg x (by omega))], by have := Int.emod_lt_of_pos x h; have := Int.emod_nonneg x (b := m) (by omega); omega⟩
theorem cut_map {α β : Type} (f : α → β) (xs : List α) (lo hi : Option Int) : cut (xs.map f) lo hi = (cut xs lo hi).map f := by
  unfold cut; simp [List.map_drop, List.map_take]
theorem cut_take {α : Type} (xs : List α) (v : Nat) : cut xs none (some (v : Int)) = xs.take v := by
  unfold cut sIx
  have : ¬ (v : Int) < 0 := by omega
  simp only [this, if_false, List.drop_zero, Nat.sub_zero, Int.toNat_natCast]
  rw [Nat.min_comm, ← List.take_take]
  exact List.take_of_length_le (by simp; omega)
end Z
namespace Z
structure Spr where
  cells : List Int
  carry : Int
  mixed : Int
def Spr.ok (s : Spr) : Prop := 0 ≤ s.carry ∧ 0 ≤ s.mixed ∧ s.mixed < 2147483647
/-- the spring's next number below many -/
def Spr.drop (s : Spr) (many : Int) : Int × Spr :=
  match s.carry == 0, s.cells with
  | true, cell :: r =>
    let a := if cell < 0 then -cell else cell
    if a < 1000000000000000000 then (cell % many, ⟨r, 0, s.mixed⟩)
    else (a % many, ⟨r, a / many, s.mixed⟩)
  | true, [] => let m := (s.mixed * s.mixed + 7919) % 2147483647; (m / 8 % many, ⟨[], 0, m⟩)
  | false, cs => (s.carry % many, ⟨cs, s.carry / many, s.mixed⟩)
def intsOf : List D → Option (List Int)
  | [] => some []
  | .int i :: r => (intsOf r).map (i :: ·)
  | _ :: _ => none
/-- a spring stands at p, its cells at c -/
structure SprAt (S : Store) (p c : Nat) (s : Spr) : Prop where
  ne : p ≠ c
  hp : S[p]? = some (.lst [.ref c, .int s.carry, .int s.mixed])
  hc : S[c]? = some (.lst (s.cells.map .int))
  ok : s.ok
def putSpr (S : Store) (p c : Nat) (s : Spr) : Store := (S.set c (.lst (s.cells.map .int))).set p (.lst [.ref c, .int s.carry, .int s.mixed])
instance (s : Spr) : Decidable s.ok := by unfold Spr.ok; infer_instance
/-- the spring that stands at p -/
def sprOf (S : Store) (p : Nat) : Option (Nat × Spr) := match S[p]? with
  | some (.lst [.ref c, .int k, .int m]) => (match S[c]? with
    | some (.lst xs) => (match intsOf xs with
      | some cells => if p ≠ c ∧ (Spr.mk cells k m).ok then some (c, ⟨cells, k, m⟩) else none
      | none => none)
    | _ => none)
  | _ => none
/-- what only draws: its value and the spring behind it -/
def drawn (S : Store) (p : Nat) (f : Spr → Option (D × Spr)) : M D := match sprOf S p with
  | some (c, s) => (match f s with
    | some (d, s') => some (.ok d (putSpr S p c s'))
    | none => none)
  | none => none
theorem SprAt.lt {S : Store} {p c : Nat} {s : Spr} (h : SprAt S p c s) : p < S.length ∧ c < S.length := ⟨(List.getElem?_eq_some_iff.mp h.hp).1, (List.getElem?_eq_some_iff.mp h.hc).1⟩
theorem SprAt.put {S : Store} {p c : Nat} {s s' : Spr} (h : SprAt S p c s) (o : s'.ok) : SprAt (putSpr S p c s') p c s' := by
  obtain ⟨l1, l2⟩ := h.lt
  refine ⟨h.ne, ?_, ?_, o⟩
  · unfold putSpr; rw [List.getElem?_set_self (by simpa using l1)]
  · unfold putSpr; rw [List.getElem?_set_ne h.ne, List.getElem?_set_self l2]
def Sp (S : Store) (p c : Nat) : Prop := ∃ s, SprAt S p c s
theorem Sp.ne {S : Store} {p c : Nat} (h : Sp S p c) : p ≠ c := let ⟨_, h⟩ := h; h.ne
theorem Sp.lt {S : Store} {p c : Nat} (h : Sp S p c) : p < S.length ∧ c < S.length := let ⟨_, h⟩ := h; h.lt
/-- all old objects but the spring stand -/
structure Fr (p c : Nat) (S S' : Store) : Prop where
  le : S.length ≤ S'.length
  old : ∀ i, i < S.length → i ≠ p → i ≠ c → S'[i]? = S[i]?
theorem Fr.refl {p c : Nat} {S : Store} : Fr p c S S := ⟨Nat.le_refl _, fun _ _ _ _ => rfl⟩
theorem Fr.trans {p c : Nat} {S S' S'' : Store} (a : Fr p c S S') (b : Fr p c S' S'') : Fr p c S S'' := ⟨Nat.le_trans a.le b.le, fun i h1 h2 h3 => by rw [b.old i (Nat.lt_of_lt_of_le h1 a.le) h2 h3, a.old i h1 h2 h3]⟩
theorem Fr.app {p c : Nat} {S G : Store} : Fr p c S (S ++ G) := ⟨by simp, fun i h _ _ => List.getElem?_append_left h⟩
theorem Sp.app {p c : Nat} {S G : Store} (h : Sp S p c) : Sp (S ++ G) p c := by
  obtain ⟨s, h⟩ := h
  obtain ⟨h1, h2⟩ := h.lt
  exact ⟨s, h.ne, by rw [List.getElem?_append_left h1]; exact h.hp, by rw [List.getElem?_append_left h2]; exact h.hc, h.ok⟩
end Z
namespace Z
inductive Tm where
  | row (s : List Nat) | sign (i : Nat) (t : Tm) | beh (t : Tm) | zip (a b : Tm)
abbrev wRow : List Nat := [114, 111, 119]
abbrev wSign : List Nat := [115, 105, 103, 110]
abbrev wBeh : List Nat := [98, 101, 104, 105, 110, 100]
abbrev wZip : List Nat := [122, 105, 112]
abbrev wCall : List Nat := [99, 97, 108, 108]
def Tm.d : Tm → D
  | .row s => .tup [.str wRow, .str s]
  | .sign i t => .tup [.str wSign, .int i, t.d]
  | .beh t => .tup [.str wBeh, t.d]
  | .zip a b => .tup [.str wZip, a.d, b.d]
def Tm.depth : Tm → Nat
  | .row _ => 1
  | .sign _ t => t.depth + 1
  | .beh t => t.depth + 1
  | .zip a b => max a.depth b.depth + 1
def Tm.pd : Tm → PD
  | .row s => .tup [.str wRow, .str s]
  | .sign i t => .tup [.str wSign, .int i, t.pd]
  | .beh t => .tup [.str wBeh, t.pd]
  | .zip a b => .tup [.str wZip, a.pd, b.pd]
mutual
theorem PD.eqv_refl : ∀ x : PD, x.eqv x = true
  | .non => rfl
  | .bl b => by simp [PD.eqv]
  | .int i => by simp [PD.eqv]
  | .str s => by simp [PD.eqv]
  | .lst xs => by rw [PD.eqv]; exact eqvL_refl xs
  | .tup xs => by rw [PD.eqv]; exact eqvL_refl xs
theorem eqvL_refl : ∀ xs : List PD, eqvL xs xs = true
  | [] => rfl
  | x :: xs => by rw [eqvL, PD.eqv_refl x, eqvL_refl xs]; rfl
end
theorem ne_same {d : D} {S : Store} {x : PD} (h : dat S d = some x) (hd : x.dep ≤ 64) : neD d d S = some (.ok (.bl false) S) := by
  unfold neD; rw [h]; simp [hd, PD.eqv_refl]
theorem eq_same {d : D} {S : Store} {x : PD} (h : dat S d = some x) (hd : x.dep ≤ 64) : eqD d d S = some (.ok (.bl true) S) := by
  unfold eqD; rw [h]; simp [hd, PD.eqv_refl]
/-- on what the sign at n of a term hangs -/
def hang : Tm → Nat → D
  | .row s, n => .tup [.str wCall, .str s, .int n]
  | .sign i _, 0 => .tup [.str wSign, .int i]
  | .sign _ t, n + 1 => hang t n
  | .beh t, n => hang t (n + 1)
  | .zip a b, n => if n % 2 = 0 then hang a (n / 2) else hang b (n / 2)
noncomputable abbrev fW : SS := sWh (tVal (e2 neD (e2 ixD (eVar 0) (eC (.int 0))) (eC (.str [114, 111, 119])))) lb_followed_1
theorem followed_loop (S : Store) : ∀ (t : Tm) (n : Nat) (z : Bool), (∃ z', fW [some t.d, some (.int n), some (.bl z)] S = some (.rt (.tup [hang t n, .bl z']) S)) ∨
    ∃ s k z', hang t n = .tup [.str wCall, .str s, .int (k : Nat)] ∧ fW [some t.d, some (.int n), some (.bl z)] S = some (.nx [some (Tm.row s).d, some (.int k), some (.bl z')] S)
  | .row s, n, z => .inr ⟨s, n, z, rfl, sWh_stop (by simp [lb_followed_1, Tm.d, atI, ixN])⟩
  | .sign i t, 0, z => .inl ⟨z, sWh_rt (S1 := S) (by simp [lb_followed_1, Tm.d, atI, ixN]) (by simp [lb_followed_1, Tm.d, atI, ixN, hang])⟩
  | .sign i t, n + 1, z => by
    have e : fW [some (Tm.sign i t).d, some (.int ((n + 1 : Nat) : Int)), some (.bl z)] S = fW [some t.d, some (.int n), some (.bl z)] S :=
      sWh_go (S1 := S) (by simp [lb_followed_1, Tm.d, atI, ixN]) (by
        have h0 : ¬ ((n : Int) + 1 = 0) := by omega
        have h1 : (n : Int) + 1 - 1 = n := by omega
        simp [lb_followed_1, Tm.d, atI, ixN, h0, h1])
    rw [e, hang]
    exact followed_loop S t n z
  | .beh t, n, z => by
    have e : fW [some (Tm.beh t).d, some (.int n), some (.bl z)] S = fW [some t.d, some (.int ((n + 1 : Nat) : Int)), some (.bl z)] S :=
      sWh_go (S1 := S) (by simp [lb_followed_1, Tm.d, atI, ixN]) (by simp [lb_followed_1, Tm.d, atI, ixN])
    rw [e, hang]
    exact followed_loop S t (n + 1) z
  | .zip a b, n, z => by
    have e : fW [some (Tm.zip a b).d, some (.int n), some (.bl z)] S = fW [some (if n % 2 = 0 then a else b).d, some (.int ((n / 2 : Nat) : Int)), some (.bl true)] S :=
      sWh_go (S1 := S) (by simp [lb_followed_1, Tm.d, atI, ixN]) (by
        rcases Nat.mod_two_eq_zero_or_one n with h | h
        · have e1 : (1 + (n : Int) % 2) = ((1 : Nat) : Int) := by omega
          simp [lb_followed_1, Tm.d, h, e1, at0]
          simp [atI, ixN]
        · have e1 : (1 + (n : Int) % 2) = ((2 : Nat) : Int) := by omega
          simp [lb_followed_1, Tm.d, h, e1, at0]
          simp [atI, ixN])
    rw [e, hang]
    split
    · exact followed_loop S a (n / 2) true
    · exact followed_loop S b (n / 2) true
theorem s_followed (t : Tm) (n : Nat) (S : Store) : ∃ z : Bool, R_followed [t.d, .int n] S = some (.ok (.tup [hang t n, .bl z]) S) := by
  unfold R_followed
  rw [run_eq (n := 2) _ _ rfl]
  unfold b_followed
  rcases followed_loop S t n false with ⟨z', h⟩ | ⟨s, k, z', h1, h⟩
  · refine ⟨z', ?_⟩
    simp [h]
  · refine ⟨z', ?_⟩
    simp [h, Tm.d, atI, ixN, h1]
theorem s_hangs (t : Tm) (n : Nat) (S : Store) : R_hangs [t.d, .int n] S = some (.ok (hang t n) S) := by
  obtain ⟨z, h⟩ := s_followed t n S
  unfold R_hangs
  rw [run_eq (n := 2) _ _ rfl]
  unfold b_hangs
  simp [h, at0]
def ent (e : List Nat × Tm) : D := .tup [.str e.1, e.2.d]
abbrev bookD (es : List (List Nat × Tm)) : D := .tup (es.map ent)
end Z
namespace Z
structure Nm (S : Store) (p c l : Nat) (names : List (List Nat)) : Prop where
  at' : S[l]? = some (.lst (names.map .str))
  np : l ≠ p
  nc : l ≠ c
  pos : 0 < names.length
  few : names.length ≤ 100
theorem Nm.fr {S S' : Store} {p c l : Nat} {names : List (List Nat)} (h : Nm S p c l names) (f : Fr p c S S') : Nm S' p c l names := ⟨by rw [f.old l (List.getElem?_eq_some_iff.mp h.at').1 h.np h.nc]; exact h.at', h.np, h.nc, h.pos, h.few⟩
/-- signs below 10, names of the given ones -/
def Tm.In (ns : List (List Nat)) : Tm → Prop
  | .row s => s ∈ ns
  | .sign i t => i < 10 ∧ t.In ns
  | .beh t => t.In ns
  | .zip a b => a.In ns ∧ b.In ns
theorem Fr.set {p c l : Nat} {S S' : Store} {o : MO} (f : Fr p c S S') (h : S.length ≤ l) : Fr p c S (S'.set l o) := ⟨by simpa using f.le, fun i h1 h2 h3 => by rw [List.getElem?_set_ne (by omega)]; exact f.old i h1 h2 h3⟩
theorem Sp.set {p c l : Nat} {S : Store} {o : MO} (h : Sp S p c) (hp : l ≠ p) (hc : l ≠ c) : Sp (S.set l o) p c := by
  obtain ⟨s, h⟩ := h
  exact ⟨s, h.ne, by rw [List.getElem?_set_ne hp]; exact h.hp, by rw [List.getElem?_set_ne hc]; exact h.hc, h.ok⟩
def natD (ws : List Nat) : List D := ws.map fun (k : Nat) => D.int k
end Z
namespace Z
abbrev az : List Nat := [97, 98, 99, 100, 101, 102, 103, 104, 105, 106, 107, 108, 109, 110, 111, 112, 113, 114, 115, 116, 117, 118, 119, 120, 121, 122]
/-- a name -/
structure IsNm (s : List Nat) : Prop where
  l1 : 1 ≤ s.length
  l8 : s.length ≤ 8
  az : ∀ k ∈ s, k ∈ Z.az
  nz : s ≠ wZip
  nb : s ≠ wBeh
end Z
namespace Z
def Tm.size : Tm → Nat
  | .row _ => 1
  | .sign _ t => 1 + t.size
  | .beh t => 1 + t.size
  | .zip a b => 1 + (a.size + b.size)
end Z
namespace Z
/-- every list of S stands in S' -/
def LeL (S S' : Store) : Prop := ∀ (n : Nat) (xs : List D), S[n]? = some (MO.lst xs) → S'[n]? = some (MO.lst xs)
theorem LeL.refl {S : Store} : LeL S S := fun _ _ h => h
theorem LeL.trans {S S' S'' : Store} (a : LeL S S') (b : LeL S' S'') : LeL S S'' := fun n xs h => b n xs (a n xs h)
theorem LeL.app {S G : Store} : LeL S (S ++ G) := fun n xs h => get_app h G
/-- the object behind S may be any -/
theorem LeL.mask {S G : Store} {o : MO} : LeL (S ++ .dct [] :: G) (S ++ o :: G) := fun n xs h => by
  by_cases c : n < S.length
  · rw [List.getElem?_append_left c] at h ⊢; exact h
  · rw [List.getElem?_append_right (by omega)] at h ⊢
    by_cases c2 : n - S.length = 0
    · rw [c2] at h; simp at h
    · obtain ⟨k, hk⟩ := Nat.exists_eq_succ_of_ne_zero c2
      rw [hk] at h ⊢
      simpa using h
mutual
theorem D.pd_mono {g g' : Nat → Option PD} (h : ∀ n x, g n = some x → g' n = some x) : ∀ (d : D) (x : PD), d.pd g = some x → d.pd g' = some x
  | .non, x, e => by simpa [D.pd] using e
  | .bl b, x, e => by simpa [D.pd] using e
  | .int i, x, e => by simpa [D.pd] using e
  | .str s, x, e => by simpa [D.pd] using e
  | .tup xs, x, e => by
    simp only [D.pd, Option.map_eq_some_iff] at e ⊢
    obtain ⟨ys, e1, e2⟩ := e
    exact ⟨ys, pdL_mono h xs ys e1, e2⟩
  | .fl xs, x, e => by
    simp only [D.pd, Option.map_eq_some_iff] at e ⊢
    obtain ⟨ys, e1, e2⟩ := e
    exact ⟨ys, pdL_mono h xs ys e1, e2⟩
  | .raw _, x, e => by rw [D.pd] at e; cases e
  | .ref n, x, e => by
    simp only [D.pd] at e ⊢
    exact h n x e
theorem pdL_mono {g g' : Nat → Option PD} (h : ∀ n x, g n = some x → g' n = some x) : ∀ (ds : List D) (xs : List PD), pdL g ds = some xs → pdL g' ds = some xs
  | [], xs, e => e
  | d :: ds, xs, e => by
    rw [pdL] at e ⊢
    split at e
    · rename_i y ys h1 h2
      rw [D.pd_mono h d y h1, pdL_mono h ds ys h2]
      exact e
    · cases e
end
theorem rdR_mono {S S' : Store} (h : LeL S S') : ∀ (k n : Nat) (x : PD), rdR k S n = some x → rdR k S' n = some x
  | 0, n, x, e => by cases e
  | k + 1, n, x, e => by
    rw [rdR] at e ⊢
    split at e
    · rename_i xs g
      rw [h n xs g]
      dsimp only
      simp only [Option.map_eq_some_iff] at e ⊢
      obtain ⟨ys, e1, e2⟩ := e
      exact ⟨ys, pdL_mono (rdR_mono h k) xs ys e1, e2⟩
    · cases e
theorem dat_mono {S S' : Store} (h : LeL S S') {d : D} {x : PD} (e : dat S d = some x) : dat S' d = some x := D.pd_mono (rdR_mono h 70) d x e
/-- a value of data -/
def Dt (S : Store) (d : D) : Prop := ∃ x, dat S d = some x ∧ x.dep ≤ 60
theorem Dt.mono {S S' : Store} (h : LeL S S') {d : D} : Dt S d → Dt S' d := fun ⟨x, a, b⟩ => ⟨x, dat_mono h a, b⟩
theorem pdL_of {g : Nat → Option PD} {k : Nat} : ∀ {ds : List D}, (∀ d ∈ ds, ∃ x, d.pd g = some x ∧ x.dep ≤ k) → ∃ xs, pdL g ds = some xs ∧ depL xs ≤ k
  | [], _ => ⟨[], rfl, by simp [depL]⟩
  | a :: ds, h => by
    obtain ⟨x, h1, h2⟩ := h a (by simp)
    obtain ⟨xs, h3, h4⟩ := pdL_of fun d hd => h d (List.mem_cons_of_mem _ hd)
    exact ⟨x :: xs, by rw [pdL, h1, h3], by simp [depL]; omega⟩
/-- data whose depth is at most k -/
def Dk (k : Nat) (S : Store) (d : D) : Prop := ∃ x, dat S d = some x ∧ x.dep ≤ k
theorem Dk.mono {k : Nat} {S S' : Store} (h : LeL S S') {d : D} : Dk k S d → Dk k S' d := fun ⟨x, a, b⟩ => ⟨x, dat_mono h a, b⟩
theorem Dk.le {k j : Nat} (h : k ≤ j) {S : Store} {d : D} : Dk k S d → Dk j S d := fun ⟨x, a, b⟩ => ⟨x, a, by omega⟩
theorem Dk.tup {k : Nat} {S : Store} {ds : List D} (h : ∀ d ∈ ds, Dk k S d) : Dk (k + 1) S (.tup ds) := by
  obtain ⟨xs, h1, h2⟩ := pdL_of (g := rdR 70 S) (k := k) h
  exact ⟨.tup xs, by unfold dat; rw [D.pd, h1]; rfl, by simp [PD.dep]; omega⟩
theorem Dk.int {k : Nat} {S : Store} (i : Int) : Dk k S (.int i) := ⟨.int i, by simp [dat, D.pd], by simp [PD.dep]⟩
theorem Dk.bl {k : Nat} {S : Store} (i : Bool) : Dk k S (.bl i) := ⟨.bl i, by simp [dat, D.pd], by simp [PD.dep]⟩
theorem Dk.str {k : Nat} {S : Store} (i : List Nat) : Dk k S (.str i) := ⟨.str i, by simp [dat, D.pd], by simp [PD.dep]⟩
theorem Dk.non {k : Nat} {S : Store} : Dk k S .non := ⟨.non, by simp [dat, D.pd], by simp [PD.dep]⟩
theorem Dk.ref {k : Nat} {S : Store} {n : Nat} (h : Dk k S (.ref n)) : ∃ xs, S[n]? = some (.lst xs) := by
  obtain ⟨x, h1, _⟩ := h
  unfold dat at h1
  rw [D.pd, rdR] at h1
  split at h1
  · rename_i xs g; exact ⟨xs, g⟩
  · cases h1
end Z
namespace Z
mutual
theorem D.pd_bnd {g g' : Nat → Option PD} {j : Nat} (h : ∀ n x, g n = some x → x.dep ≤ j → g' n = some x) : ∀ (d : D) (x : PD), d.pd g = some x → x.dep ≤ j → d.pd g' = some x
  | .non, x, e, _ => by simpa [D.pd] using e
  | .bl b, x, e, _ => by simpa [D.pd] using e
  | .int i, x, e, _ => by simpa [D.pd] using e
  | .str s, x, e, _ => by simpa [D.pd] using e
  | .tup xs, x, e, hd => by
    simp only [D.pd, Option.map_eq_some_iff] at e ⊢
    obtain ⟨ys, e1, rfl⟩ := e
    exact ⟨ys, pdL_bnd h xs ys e1 (by simp [PD.dep] at hd; omega), rfl⟩
  | .fl xs, x, e, hd => by
    simp only [D.pd, Option.map_eq_some_iff] at e ⊢
    obtain ⟨ys, e1, rfl⟩ := e
    exact ⟨ys, pdL_bnd h xs ys e1 (by simp [PD.dep] at hd; omega), rfl⟩
  | .raw _, x, e, hd => by rw [D.pd] at e; cases e
  | .ref n, x, e, hd => by
    simp only [D.pd] at e ⊢
    exact h n x e hd
theorem pdL_bnd {g g' : Nat → Option PD} {j : Nat} (h : ∀ n x, g n = some x → x.dep ≤ j → g' n = some x) : ∀ (ds : List D) (xs : List PD), pdL g ds = some xs → depL xs ≤ j → pdL g' ds = some xs
  | [], xs, e, _ => e
  | d :: ds, xs, e, hd => by
    rw [pdL] at e ⊢
    split at e
    · rename_i y ys h1 h2
      cases e
      simp [depL] at hd
      rw [D.pd_bnd h d y h1 (by omega), pdL_bnd h ds ys h2 (by omega)]
    · cases e
end
theorem rdR_fuel {S : Store} : ∀ (k j n : Nat) (x : PD), rdR k S n = some x → x.dep ≤ j → rdR j S n = some x
  | 0, j, n, x, e, _ => by cases e
  | k + 1, j, n, x, e, hd => by
    rw [rdR] at e
    split at e
    · rename_i xs g
      simp only [Option.map_eq_some_iff] at e
      obtain ⟨ys, e1, rfl⟩ := e
      simp [PD.dep] at hd
      obtain ⟨j, rfl⟩ : ∃ i, j = i + 1 := ⟨j - 1, by omega⟩
      rw [rdR, g]
      dsimp only
      rw [pdL_bnd (rdR_fuel k j) xs ys e1 (by omega)]
      rfl
    · cases e
/-- a list of data is data -/
theorem Dk.lst {k : Nat} {S : Store} {n : Nat} {ds : List D} (hk : k ≤ 60) (g : S[n]? = some (.lst ds)) (h : ∀ d ∈ ds, Dk k S d) : Dk (k + 1) S (.ref n) := by
  obtain ⟨xs, h1, h2⟩ := pdL_of (g := rdR 70 S) (k := k) h
  refine ⟨.lst xs, ?_, by simp [PD.dep]; omega⟩
  unfold dat
  rw [D.pd, rdR, g]
  dsimp only
  rw [pdL_bnd (fun n x e hd => rdR_fuel 70 69 n x e (by omega)) ds xs h1 (Nat.le_refl _)]
  rfl
mutual
/-- no text in it is long -/
def Sh : D → Prop
  | .str s => s.length ≤ 1000
  | .tup xs => ShL xs
  | _ => True
def ShL : List D → Prop
  | [] => True
  | x :: xs => Sh x ∧ ShL xs
end
theorem shL_iff : ∀ {xs : List D}, ShL xs ↔ ∀ x ∈ xs, Sh x
  | [] => by simp [ShL]
  | x :: xs => by simp [ShL, shL_iff (xs := xs)]
structure Dn (k : Nat) (S : Store) (d : D) : Prop where
  dk : Dk k S d
  sh : Sh d
theorem Dn.mono {k : Nat} {S S' : Store} (l : LeL S S') {d : D} (h : Dn k S d) : Dn k S' d := ⟨h.dk.mono l, h.sh⟩
theorem Dn.le {k j : Nat} (l : k ≤ j) {S : Store} {d : D} (h : Dn k S d) : Dn j S d := ⟨h.dk.le l, h.sh⟩
theorem Dn.app {k : Nat} {S G : Store} {d : D} (h : Dn k S d) : Dn k (S ++ G) d := h.mono .app
/-- a text of this kind -/
def isS (s : List Nat) : D → Bool
  | .str z => decide (z = s)
  | _ => false
end Z
namespace Z
def AZ : List Nat := az
def azB (s : List Nat) : Bool := s.all fun k => decide (k ∈ AZ)
def nmB (s : List Nat) : Bool := decide (1 ≤ s.length) && decide (s.length ≤ 8) && !decide (s = wZip) && !decide (s = wBeh) && azB s
def nameB : D → Bool
  | .str s => nmB s
  | _ => false
def sigB : D → Bool
  | .int i => decide (0 ≤ i) && decide (i ≤ 9)
  | _ => false
/-- the parts of what has a term's form -/
def wi : D → Option (List D)
  | .tup [a, b] => if isS wRow a && nameB b then some [] else if isS wBeh a then some [b] else none
  | .tup [a, b, c] => if isS wSign a && sigB b then some [c] else if isS wZip a then some [b, c] else none
  | _ => none
/-- how many terms, 1000 where it is none; k: how deep it may still be -/
def sz : Nat → D → Nat
  | 0, _ => 1000
  | k + 1, d => match wi d with
    | none => 1000
    | some ps => 1 + (ps.map (sz k)).sum
end Z
namespace Z
@[simp] theorem o_iaddI (i j : Int) (S : Store) : iaddD (.int i) (.int j) S = some (.ok (.int (i + j)) S) := rfl
end Z
namespace Z
/-- the store without the spring -/
def msk (S : Store) (p c : Nat) : Store := (S.set p (.dct [])).set c (.dct [])
theorem msk_get {S : Store} {p c n : Nat} (hp : n ≠ p) (hc : n ≠ c) : (msk S p c)[n]? = S[n]? := by
  unfold msk
  rw [List.getElem?_set_ne (Ne.symm hc), List.getElem?_set_ne (Ne.symm hp)]
theorem msk_p {S : Store} {p c n : Nat} {xs : List D} (h : (msk S p c)[n]? = some (.lst xs)) : n ≠ p ∧ n ≠ c := by
  unfold msk at h
  constructor
  · rintro rfl
    by_cases hc : c = n
    · subst hc
      rw [List.getElem?_set] at h
      simp at h
    · rw [List.getElem?_set_ne hc, List.getElem?_set] at h
      simp at h
  · rintro rfl
    rw [List.getElem?_set] at h
    simp at h
theorem LeL.fr {S S' : Store} {p c : Nat} (f : Fr p c S S') : LeL (msk S p c) (msk S' p c) := fun n xs h => by
  obtain ⟨h1, h2⟩ := msk_p h
  rw [msk_get h1 h2] at h ⊢
  rw [f.old n (List.getElem?_eq_some_iff.mp h).1 h1 h2]; exact h
def DnL (k : Nat) (S : Store) (ds : List D) : Prop := ∀ d ∈ ds, Dn k S d
theorem DnL.nil {k : Nat} {S : Store} : DnL k S [] := fun _ h => nomatch h
theorem DnL.cons {k : Nat} {S : Store} {d : D} {ds : List D} (h : Dn k S d) (t : DnL k S ds) : DnL k S (d :: ds) := fun x hx => by
  rcases List.mem_cons.mp hx with rfl | hx
  · exact h
  · exact t x hx
theorem Dn.tup {k : Nat} {S : Store} {ds : List D} (h : DnL k S ds) : Dn (k + 1) S (.tup ds) := ⟨Dk.tup fun d hd => (h d hd).dk, by rw [Sh]; exact shL_iff.mpr fun d hd => (h d hd).sh⟩
theorem Dn.ref {k : Nat} {S : Store} {n : Nat} {ds : List D} (hk : k ≤ 60) (g : S[n]? = some (.lst ds)) (h : DnL k S ds) : Dn (k + 1) S (.ref n) := ⟨Dk.lst hk g fun d hd => (h d hd).dk, by simp [Sh]⟩
theorem Dn.int {k : Nat} {S : Store} (i : Int) : Dn k S (.int i) := ⟨Dk.int i, by simp [Sh]⟩
theorem Dn.bl {k : Nat} {S : Store} (i : Bool) : Dn k S (.bl i) := ⟨Dk.bl i, by simp [Sh]⟩
theorem Dn.non {k : Nat} {S : Store} : Dn k S .non := ⟨Dk.non, by simp [Sh]⟩
theorem Dn.str {k : Nat} {S : Store} {s : List Nat} (h : s.length ≤ 1000) : Dn k S (.str s) := ⟨Dk.str s, by rw [Sh]; exact h⟩
def Tm.hd : Tm → List Nat
  | .row _ => wRow
  | .sign _ _ => wSign
  | .beh _ => wBeh
  | .zip _ _ => wZip
end Z
namespace Z
def Tm.rows : Tm → List (List Nat)
  | .row s => [s]
  | .sign _ t => t.rows
  | .beh t => t.rows
  | .zip a b => a.rows ++ b.rows
def Tm.one : Tm → List (List Nat)
  | .row s => [s]
  | _ => []
end Z
namespace Z
def Tm.Rw (names : List (List Nat)) (t : Tm) : Prop := ∀ s ∈ t.rows, s ∈ names
theorem rw_row {names : List (List Nat)} {s : List Nat} (h : s ∈ names) : (Tm.row s).Rw names := fun x hx => by simp [Tm.rows] at hx; subst hx; exact h
theorem rw_zip {names : List (List Nat)} {a b : Tm} (ha : a.Rw names) (hb : b.Rw names) : (Tm.zip a b).Rw names := fun x hx => by
  rcases List.mem_append.mp hx with h | h
  · exact ha x h
  · exact hb x h
def poolw : List (List (List Nat)) := [[[97], [98], [99], [100]], [[120, 120], [120], [120, 120, 120], [121]], [[114, 111], [115, 105, 103, 110], [114, 111, 119], [111, 110, 101]]]
theorem poolw_len : ∀ p ∈ poolw, p.length = 4 := by decide
theorem poolw_nd : ∀ p ∈ poolw, p.Nodup := by decide
end Z
namespace Z
def hop : Tm → Nat → Nat ⊕ (List Nat × Nat)
  | .row s, n => .inr (s, n)
  | .sign i _, 0 => .inl i
  | .sign _ t, n + 1 => hop t n
  | .beh t, n => hop t (n + 1)
  | .zip a b, n => if n % 2 = 0 then hop a (n / 2) else hop b (n / 2)
def zipf : Tm → Nat → Bool
  | .row _, _ => false
  | .sign _ _, 0 => false
  | .sign _ t, n + 1 => zipf t n
  | .beh t, n => zipf t (n + 1)
  | .zip _ _, _ => true
def hopD : Nat ⊕ (List Nat × Nat) → D
  | .inl i => .tup [.str wSign, .int i]
  | .inr (s, k) => .tup [.str wCall, .str s, .int k]
theorem hang_hop : ∀ (t : Tm) (n : Nat), hang t n = hopD (hop t n)
  | .row s, n => rfl
  | .sign i _, 0 => rfl
  | .sign i t, n + 1 => hang_hop t n
  | .beh t, n => hang_hop t (n + 1)
  | .zip a b, n => by
    rw [hang, hop]
    split
    · exact hang_hop a _
    · exact hang_hop b _
theorem followed_loop2 (S : Store) : ∀ (t : Tm) (n : Nat) (z : Bool), fW [some t.d, some (.int n), some (.bl z)] S = some (.rt (.tup [hopD (hop t n), .bl (z || zipf t n)]) S) ∨
    ∃ s k, hop t n = .inr (s, k) ∧ fW [some t.d, some (.int n), some (.bl z)] S = some (.nx [some (Tm.row s).d, some (.int (k : Nat)), some (.bl (z || zipf t n))] S)
  | .row s, n, z => .inr ⟨s, n, rfl, by rw [zipf, Bool.or_false]; exact sWh_stop (by simp [lb_followed_1, Tm.d, atI, ixN])⟩
  | .sign i t, 0, z => .inl (by rw [zipf, Bool.or_false]; exact sWh_rt (S1 := S) (by simp [lb_followed_1, Tm.d, atI, ixN]) (by simp [lb_followed_1, Tm.d, atI, ixN, hop, hopD]))
  | .sign i t, n + 1, z => by
    have e : fW [some (Tm.sign i t).d, some (.int ((n + 1 : Nat) : Int)), some (.bl z)] S = fW [some t.d, some (.int n), some (.bl z)] S :=
      sWh_go (S1 := S) (by simp [lb_followed_1, Tm.d, atI, ixN]) (by
        have h0 : ¬ ((n : Int) + 1 = 0) := by omega
        have h1 : (n : Int) + 1 - 1 = n := by omega
        simp [lb_followed_1, Tm.d, atI, ixN, h0, h1])
    rw [e, hop, zipf]
    exact followed_loop2 S t n z
  | .beh t, n, z => by
    have e : fW [some (Tm.beh t).d, some (.int n), some (.bl z)] S = fW [some t.d, some (.int ((n + 1 : Nat) : Int)), some (.bl z)] S :=
      sWh_go (S1 := S) (by simp [lb_followed_1, Tm.d, atI, ixN]) (by simp [lb_followed_1, Tm.d, atI, ixN])
    rw [e, hop, zipf]
    exact followed_loop2 S t (n + 1) z
  | .zip a b, n, z => by
    have e : fW [some (Tm.zip a b).d, some (.int n), some (.bl z)] S = fW [some (if n % 2 = 0 then a else b).d, some (.int ((n / 2 : Nat) : Int)), some (.bl true)] S :=
      sWh_go (S1 := S) (by simp [lb_followed_1, Tm.d, atI, ixN]) (by
        rcases Nat.mod_two_eq_zero_or_one n with h | h
        · have e1 : (1 + (n : Int) % 2) = ((1 : Nat) : Int) := by omega
          simp [lb_followed_1, Tm.d, h, e1, at0]
          simp [atI, ixN]
        · have e1 : (1 + (n : Int) % 2) = ((2 : Nat) : Int) := by omega
          simp [lb_followed_1, Tm.d, h, e1, at0]
          simp [atI, ixN])
    rw [e, hop, zipf]
    split
    · have := followed_loop2 S a (n / 2) true
      simpa using this
    · have := followed_loop2 S b (n / 2) true
      simpa using this
theorem s_followed2 (t : Tm) (n : Nat) (S : Store) : R_followed [t.d, .int n] S = some (.ok (.tup [hopD (hop t n), .bl (zipf t n)]) S) := by
  unfold R_followed
  rw [run_eq (n := 2) _ _ rfl]
  unfold b_followed
  rcases followed_loop2 S t n false with h | ⟨s, k, h1, h⟩
  · simp at h
    simp [h]
  · simp at h
    simp [h, Tm.d, atI, ixN, h1, hopD]
theorem hop_le : ∀ (t : Tm) (n : Nat) (s : List Nat) (k : Nat), hop t n = .inr (s, k) → s ∈ t.rows ∧ (zipf t n = false → k ≤ n + t.depth) ∧ (zipf t n = true → k ≤ n / 2 + t.depth)
  | .row s', n, s, k, h => by
    simp [hop] at h
    obtain ⟨rfl, rfl⟩ := h
    simp [Tm.rows, zipf]
  | .sign i t, 0, s, k, h => by simp [hop] at h
  | .sign i t, n + 1, s, k, h => by
    obtain ⟨h1, h2, h3⟩ := hop_le t n s k h
    exact ⟨h1, fun z => by have := h2 z; simp [Tm.depth]; omega, fun z => by have := h3 z; simp [Tm.depth]; omega⟩
  | .beh t, n, s, k, h => by
    obtain ⟨h1, h2, h3⟩ := hop_le t (n + 1) s k h
    exact ⟨h1, fun z => by have := h2 z; simp [Tm.depth]; omega, fun z => by have := h3 z; simp [Tm.depth]; omega⟩
  | .zip a b, n, s, k, h => by
    rw [hop] at h
    split at h
    · obtain ⟨h1, h2, h3⟩ := hop_le a (n / 2) s k h
      refine ⟨List.mem_append_left _ h1, fun z => by simp [zipf] at z, fun _ => ?_⟩
      cases c : zipf a (n / 2)
      · have := h2 c; simp [Tm.depth]; omega
      · have := h3 c; simp [Tm.depth]; omega
    · obtain ⟨h1, h2, h3⟩ := hop_le b (n / 2) s k h
      refine ⟨List.mem_append_right _ h1, fun z => by simp [zipf] at z, fun _ => ?_⟩
      cases c : zipf b (n / 2)
      · have := h2 c; simp [Tm.depth]; omega
      · have := h3 c; simp [Tm.depth]; omega
def termOf (es : List (List Nat × Tm)) (s : List Nat) : Tm := match es.find? fun e => decide (e.1 = s) with
  | some e => e.2
  | none => .row s
theorem termOf_mem {es : List (List Nat × Tm)} (hn : (es.map (·.1)).Nodup) {e : List Nat × Tm} (he : e ∈ es) : termOf es e.1 = e.2 := by
  have : es.find? (fun f => decide (f.1 = e.1)) = some e := by
    induction es with
    | nil => cases he
    | cons f es ih =>
      rw [List.map_cons, List.nodup_cons] at hn
      rcases List.mem_cons.mp he with rfl | he
      · simp
      · have : ¬ f.1 = e.1 := fun c => hn.1 (by rw [c]; exact List.mem_map.mpr ⟨e, he, rfl⟩)
        rw [List.find?_cons]
        simp only [decide_eq_false this]
        exact ih hn.2 he
  unfold termOf
  rw [this]
/-- a drawn book -/
structure Bk (es : List (List Nat × Tm)) : Prop where
  dep : ∀ e ∈ es, e.2.depth ≤ 12
  row : ∀ e ∈ es, e.2.Rw (es.map (·.1))
  nd : (es.map (·.1)).Nodup
  len : es.length ≤ 8
theorem Bk.at {es : List (List Nat × Tm)} (b : Bk es) {s : List Nat} (h : s ∈ es.map (·.1)) : (s, termOf es s) ∈ es := by
  obtain ⟨e, he, rfl⟩ := List.mem_map.mp h
  rw [termOf_mem b.nd he]
  exact he
def kvE (e : List Nat × Tm) : D × D := (.str e.1, e.2.d)
theorem fOf_es : ∀ es : List (List Nat × Tm), fOf (es.map ent) = some (es.map kvE)
  | [] => rfl
  | e :: es => by rw [List.map_cons]; simp [ent, fOf, fOf_es es, kvE]
theorem fput_new {es : List (List Nat × Tm)} {e : List Nat × Tm} (h : e.1 ∉ es.map (·.1)) : fput (es.map kvE) (.str e.1) e.2.d = (es ++ [e]).map kvE := by
  have : ((es.map kvE).any fun p => kEq0 p.1 (.str e.1)) = false := by
    rw [Bool.eq_false_iff]
    intro c
    obtain ⟨p, hp, hq⟩ := List.any_eq_true.mp c
    obtain ⟨f, hf, rfl⟩ := List.mem_map.mp hp
    simp [kvE, kEq0] at hq
    exact h (List.mem_map.mpr ⟨f, hf, hq⟩)
  unfold fput
  rw [this]
  simp [kvE]
theorem fold_es : ∀ (es pre : List (List Nat × Tm)), ((pre ++ es).map (·.1)).Nodup → (es.map kvE).foldl (fun acc p => fput acc p.1 p.2) (pre.map kvE) = (pre ++ es).map kvE
  | [], pre, _ => by simp
  | e :: es, pre, h => by
    have hn : e.1 ∉ pre.map (·.1) := by
      intro c
      rw [List.map_append, List.nodup_append] at h
      exact h.2.2 _ c e.1 (by simp) rfl
    have h2 := fput_new hn
    rw [List.map_cons, List.foldl_cons]
    show (es.map kvE).foldl _ (fput (pre.map kvE) (.str e.1) e.2.d) = _
    rw [h2, fold_es es (pre ++ [e]) (by simpa using h)]
    simp
theorem fget_es {e : List Nat × Tm} : ∀ {es : List (List Nat × Tm)}, (es.map (·.1)).Nodup → e ∈ es → fget (es.map kvE) (.str e.1) = some e.2.d
  | [], _, h => by cases h
  | f :: es, hn, h => by
    rw [List.map_cons, List.nodup_cons] at hn
    rcases List.mem_cons.mp h with rfl | h
    · simp [fget, kvE, kEq0]
    · have hne : ¬ f.1 = e.1 := fun c => hn.1 (by rw [c]; exact List.mem_map.mpr ⟨e, h, rfl⟩)
      have ih := fget_es hn.2 h
      unfold fget at ih ⊢
      rw [List.map_cons, List.find?_cons]
      have : kEq0 (kvE f).1 (.str e.1) = false := by simp [kvE, kEq0, hne]
      rw [this]
      exact ih
theorem s_term_of {es : List (List Nat × Tm)} (b : Bk es) {s : List Nat} (hs : s ∈ es.map (·.1)) (S : Store) : R_term_of [bookD es, .str s] S = some (.ok (termOf es s).d (S ++ [.dk (es.map kvE)])) := by
  unfold R_term_of
  rw [run_eq (n := 2) _ _ rfl]
  unfold b_term_of
  have h1 := fold_es es [] (by simpa using b.nd)
  have h2 := fget_es b.nd (b.at hs)
  have h3 := b.len
  rw [List.map_nil, List.nil_append] at h1
  have h4 : es.length < 16000000 := by omega
  have h5 : es ≠ [] := fun c => by rw [c] at hs; cases hs
  simp at h2
  simp [o_dictTF, fOf_es, h1, h2, h4, h5]
end Z
namespace Z
abbrev Call := List Nat × Nat
abbrev Lows := List Nat → Option Nat
def wAgain (C : List Call) (L : Lows) (c : Call) : Bool := decide (c ∈ C) || (match L c.1 with | some v => decide (v ≤ c.2) | none => false)
def wLows (z : Bool) (L : Lows) : Lows := if z = true then fun _ => none else L
def wSet (L : Lows) (c : Call) : Lows := fun t => if t = c.1 then some c.2 else L t
/-- none: free -/
def wk (es : List (List Nat × Tm)) : Nat → Call → List Call → Lows → Option (Option Nat × List Call)
  | 0, _, _, _ => none
  | f + 1, c, C, L => match hop (termOf es c.1) c.2 with
    | .inl i => some (some i, C)
    | .inr c' => if wAgain C (wLows (zipf (termOf es c.1) c.2) L) c' = true then some (none, C ++ [c'])
        else wk es f c' (C ++ [c']) (wSet (wLows (zipf (termOf es c.1) c.2) L) c')
/-- calls that are unlike and within bounds are few -/
theorem few_calls : ∀ (P : List (List Nat)) (B : Nat) (C : List Call), C.Nodup → (∀ c ∈ C, c.1 ∈ P ∧ c.2 < B) → C.length ≤ P.length * B := by
  intro P
  induction P with
  | nil =>
    intro B C hn h
    cases C with
    | nil => simp
    | cons c C => exact absurd (h c (by simp)).1 (by simp)
  | cons p P ih =>
    intro B C hn h
    have h1 : (C.filter fun c => decide (c.1 = p)).length ≤ B := by
      have key : ∀ (B : Nat) (C : List Call), C.Nodup → (∀ c ∈ C, c.1 = p ∧ c.2 < B) → C.length ≤ B := by
        intro B
        induction B with
        | zero => intro C _ h; cases C with | nil => simp | cons c C => exact absurd (h c (by simp)).2 (by simp)
        | succ B ihB =>
          intro C hn h
          by_cases hm : (p, B) ∈ C
          · have := ihB (C.erase (p, B)) (hn.erase _) fun c hc => by
              have hc' := List.mem_of_mem_erase hc
              obtain ⟨a1, a2⟩ := h c hc'
              refine ⟨a1, ?_⟩
              have : c ≠ (p, B) := fun e => by subst e; exact (hn.not_mem_erase) hc
              have : c.2 ≠ B := fun e => this (Prod.ext a1 e)
              omega
            rw [List.length_erase_of_mem hm] at this
            omega
          · have := ihB C hn fun c hc => by
              obtain ⟨a1, a2⟩ := h c hc
              have : c.2 ≠ B := fun e => hm (by rw [← e, ← a1]; exact hc)
              exact ⟨a1, by omega⟩
            omega
      exact key B _ (hn.filter _) fun c hc => by
        have := List.mem_filter.mp hc
        exact ⟨by simpa using this.2, (h c this.1).2⟩
    have h2 : (C.filter fun c => !decide (c.1 = p)).length ≤ P.length * B := ih B _ (hn.filter _) fun c hc => by
      have := List.mem_filter.mp hc
      obtain ⟨a1, a2⟩ := h c this.1
      have h3 := this.2
      simp at h3
      exact ⟨(List.mem_cons.mp a1).resolve_left h3, a2⟩
    have h3 : C.length = (C.filter fun c => decide (c.1 = p)).length + (C.filter fun c => !decide (c.1 = p)).length := by
      clear hn h h1 h2 ih
      induction C with
      | nil => rfl
      | cons c C ih =>
        rw [List.filter_cons, List.filter_cons]
        cases decide (c.1 = p) <;> simp <;> omega
    rw [List.length_cons, Nat.add_mul, Nat.one_mul]
    omega
/-- the lows are bounded: P, the names called since the last zip -/
theorem nd_le' {a b : List (List Nat)} (h : a.Nodup) (s : ∀ x ∈ a, x ∈ b) : a.length ≤ b.length := by
  induction a generalizing b with
  | nil => exact Nat.zero_le _
  | cons x a ih =>
    have hx : x ∈ b := s x (by simp)
    have hn := List.nodup_cons.mp h
    have := ih (b := b.erase x) hn.2 fun y hy => (List.mem_erase_of_ne (fun e => hn.1 (by rw [← e]; exact hy))).mpr (s y (List.mem_cons_of_mem _ hy))
    rw [List.length_erase_of_mem hx] at this
    have := List.length_pos_of_mem hx
    rw [List.length_cons]
    omega
end Z
namespace Z
def cD (c : Call) : D := .tup [.str c.1, .int c.2]
def kD (c : Call) : List D × D := ([.str c.1, .int c.2], .bl true)
abbrev wFree : List Nat := [102, 114, 101, 101]
def resD (a : Nat) : Option Nat → D
  | some i => .tup [.str wSign, .int i, .ref a]
  | none => .tup [.str wFree, .ref a]
theorem kEqL_c (s t : List Nat) (k m : Nat) : kEqL [.str s, .int (k : Int)] [.str t, .int (m : Int)] = decide ((s, k) = (t, m)) := by
  simp only [kEqL, kEq0, Bool.and_true]
  rw [Bool.eq_iff_iff]
  simp
  intro _
  omega
theorem sq_nx {a b : SS} {ρ ρ1 : Env} {S S1 : Store} (h : a ρ S = some (.nx ρ1 S1)) : sq a b ρ S = b ρ1 S1 := by unfold sq; rw [h]
theorem sq_rt {a b : SS} {ρ : Env} {S S1 : Store} {d : D} (h : a ρ S = some (.rt d S1)) : sq a b ρ S = some (.rt d S1) := by unfold sq; rw [h]
theorem find_c {α : Type} (f : Call → List D × D) (hf : ∀ c, (f c).1 = [.str c.1, .int (c.2 : Nat)]) (c : Call) : ∀ C : List Call, (tget (C.map f) [.str c.1, .int (c.2 : Nat)]).isSome = decide (c ∈ C)
  | [] => by simp [tget]
  | d :: C => by
    have ih := find_c (α := α) f hf c C
    unfold tget at ih ⊢
    rw [List.map_cons, List.find?_cons, hf d, kEqL_c]
    by_cases h : (d.1, d.2) = (c.1, c.2)
    · have : d = c := h
      subst this
      simp
    · have hd : ¬ d = c := h
      have hd' : ¬ c = d := fun e => hd e.symm
      rw [decide_eq_false h]
      simp only [ih]
      rw [Bool.eq_iff_iff]
      simp [hd']
theorem tput_c (f : Call → List D × D) (hf : ∀ c, (f c).1 = [.str c.1, .int (c.2 : Nat)]) (c : Call) (v : D) (C : List Call) (h : c ∉ C) : tput (C.map f) [.str c.1, .int (c.2 : Nat)] v = C.map f ++ [([.str c.1, .int (c.2 : Nat)], v)] := by
  have : ((C.map f).any fun p => kEqL p.1 [.str c.1, .int (c.2 : Nat)]) = false := by
    rw [Bool.eq_false_iff]
    intro q
    obtain ⟨p, hp, hq⟩ := List.any_eq_true.mp q
    obtain ⟨d, hd, rfl⟩ := List.mem_map.mp hp
    rw [hf d, kEqL_c] at hq
    have : (d.1, d.2) = (c.1, c.2) := of_decide_eq_true hq
    have : d = c := this
    exact h (this ▸ hd)
  unfold tput
  rw [this]
  simp
theorem kEq0_str {x : D} {s : List Nat} (h : kEq0 x (.str s) = true) : x = .str s := by
  cases x <;> simp [kEq0] at h
  rw [h]
theorem fget_fput (kvs : List (D × D)) (s t : List Nat) (v : D) : fget (fput kvs (.str s) v) (.str t) = if t = s then some v else fget kvs (.str t) := by
  unfold fput
  by_cases h : (kvs.any fun p => kEq0 p.1 (.str s)) = true
  · rw [if_pos h]
    induction kvs with
    | nil => simp at h
    | cons p kvs ih =>
      unfold fget at ih ⊢
      rw [List.map_cons, List.find?_cons, List.find?_cons]
      by_cases hp : kEq0 p.1 (.str s) = true
      · have e := kEq0_str hp
        rw [if_pos hp]
        simp only [e]
        by_cases hts : t = s
        · subst hts; simp [kEq0]
        · have : kEq0 (.str s) (.str t) = false := by simp [kEq0]; exact fun e => hts e.symm
          rw [this, if_neg hts]
          simp only
          have hmap : ∀ kvs : List (D × D), ((kvs.map fun p => if kEq0 p.1 (.str s) = true then (p.1, v) else p).find? fun p => kEq0 p.1 (.str t)) = kvs.find? fun p => kEq0 p.1 (.str t) := by
            intro kvs
            induction kvs with
            | nil => rfl
            | cons q kvs ih =>
              rw [List.map_cons, List.find?_cons, List.find?_cons]
              by_cases hq : kEq0 q.1 (.str s) = true
              · rw [if_pos hq]
                simp only [kEq0_str hq, this]
                exact ih
              · rw [if_neg hq, ih]
          rw [hmap]
      · rw [if_neg hp]
        rw [List.any_cons, Bool.or_eq_true] at h
        have ih' := ih (h.resolve_left hp)
        by_cases hq : kEq0 p.1 (.str t) = true
        · have e := kEq0_str hq
          have hts : ¬ t = s := fun c => hp (by rw [e, c]; simp [kEq0])
          rw [hq, if_neg hts]
        · simp only [Bool.not_eq_true] at hq
          rw [hq]
          exact ih'
  · rw [if_neg h]
    unfold fget
    rw [List.find?_append]
    by_cases hts : t = s
    · subst hts
      have : (kvs.find? fun p => kEq0 p.1 (.str t)) = none := List.find?_eq_none.mpr fun p hp c => h (List.any_eq_true.mpr ⟨p, hp, c⟩)
      rw [this]
      simp [kEq0]
    · rw [if_neg hts]
      have : kEq0 (.str s) (.str t) = false := by simp [kEq0]; exact fun e => hts e.symm
      simp [List.find?_cons, this]
theorem fput_len (kvs : List (D × D)) (k v : D) : (fput kvs k v).length ≤ kvs.length + 1 := by
  unfold fput
  split <;> simp
def Keep (S S' : Store) : Prop := S.length ≤ S'.length ∧ ∀ i, i < S.length → S'[i]? = S[i]?
theorem Keep.refl {S : Store} : Keep S S := ⟨Nat.le_refl _, fun _ _ => rfl⟩
theorem Keep.trans {S S' S'' : Store} (a : Keep S S') (b : Keep S' S'') : Keep S S'' := ⟨Nat.le_trans a.1 b.1, fun i h => by rw [b.2 i (Nat.lt_of_lt_of_le h a.1), a.2 i h]⟩
theorem Keep.app {S G : Store} : Keep S (S ++ G) := ⟨by simp, fun i h => List.getElem?_append_left h⟩
theorem Keep.set {S S' : Store} {i : Nat} {o : MO} (h : Keep S S') (hi : S.length ≤ i) : Keep S (S'.set i o) := ⟨by rw [List.length_set]; exact h.1, fun j hj => by rw [List.getElem?_set_ne (by omega)]; exact h.2 j hj⟩
theorem Keep.get {S S' : Store} (k : Keep S S') {n : Nat} {o : MO} (h : S[n]? = some o) : S'[n]? = some o := by rw [k.2 n (List.getElem?_eq_some_iff.mp h).1]; exact h
structure WS (S0 S : Store) (a b c : Nat) (C : List Call) (L : Lows) : Prop where
  keep : Keep S0 S
  ga : S[a]? = some (.lst (C.map cD))
  gb : S[b]? = some (.st (C.map kD))
  gc : ∃ kvs, S[c]? = some (.dk kvs) ∧ kvs.length ≤ C.length ∧ ∀ t, fget kvs (.str t) = (L t).map fun v => .int (v : Nat)
  a0 : S0.length ≤ a
  b0 : S0.length ≤ b
  c0 : S0.length ≤ c
  ab : a ≠ b
  ac : a ≠ c
  bc : b ≠ c
theorem walk_step {es : List (List Nat × Tm)} (b : Bk es) {S0 S : Store} {a i c : Nat} {cc : Call} {C : List Call} {L : Lows} {o6 o7 o8 : Option D} (hs : cc.1 ∈ es.map (·.1)) (w : WS S0 S a i c C L) (hC : C.length ≤ 900000) :
    match hop (termOf es cc.1) cc.2 with
    | .inl k => ∃ S', lb_walk_1 R_followed R_term_of [some (bookD es), some (.str cc.1), some (.int (cc.2 : Nat)), some (.ref a), some (.ref i), some (.ref c), o6, o7, o8] S = some (.rt (resD a (some k)) S') ∧ S'[a]? = some (.lst (C.map cD)) ∧ Keep S0 S'
    | .inr c' => if wAgain C (wLows (zipf (termOf es cc.1) cc.2) L) c' = true
      then ∃ S', lb_walk_1 R_followed R_term_of [some (bookD es), some (.str cc.1), some (.int (cc.2 : Nat)), some (.ref a), some (.ref i), some (.ref c), o6, o7, o8] S = some (.rt (resD a none) S') ∧ S'[a]? = some (.lst ((C ++ [c']).map cD)) ∧ Keep S0 S'
      else ∃ c2 p6 p7 p8 S', lb_walk_1 R_followed R_term_of [some (bookD es), some (.str cc.1), some (.int (cc.2 : Nat)), some (.ref a), some (.ref i), some (.ref c), o6, o7, o8] S = some (.nx [some (bookD es), some (.str c'.1), some (.int (c'.2 : Nat)), some (.ref a), some (.ref i), some (.ref c2), p6, p7, p8] S') ∧ WS S0 S' a i c2 (C ++ [c']) (wSet (wLows (zipf (termOf es cc.1) cc.2) L) c') := by
  have t1 := s_term_of b hs S
  have t2 := s_followed2 (termOf es cc.1) cc.2 (S ++ [.dk (es.map kvE)])
  have k1 : Keep S0 (S ++ [.dk (es.map kvE)]) := w.keep.trans .app
  have ga1 := get_app w.ga [.dk (es.map kvE)]
  have gb1 := get_app w.gb [.dk (es.map kvE)]
  obtain ⟨kvs, gc, hkl, hkv⟩ := w.gc
  have gc1 := get_app gc [.dk (es.map kvE)]
  cases hh : hop (termOf es cc.1) cc.2 with
  | inl k =>
    dsimp only
    rw [hh] at t2
    refine ⟨S ++ [.dk (es.map kvE)], ?_, ga1, k1⟩
    simp [lb_walk_1, t1, t2, hopD, at0, resD]
    simp [atI, ixN]
  | inr c' =>
    dsimp only
    rw [hh] at t2
    generalize hT1 : S ++ [MO.dk (es.map kvE)] = T1 at *
    -- the lows, perhaps anew
    obtain ⟨c2, kv2, T2, hz, k2, ga2, gb2, gc2, hkl2, hkv2, c20, ac2, bc2⟩ : ∃ (c2 : Nat) (kv2 : List (D × D)) (T2 : Store), (∀ ρ', sIf (tVal (eVar 7)) (sAsg (eDctF) (gName 5)) (sNx) [some (bookD es), some (.str c'.1), some (.int (c'.2 : Nat)), some (.ref a), some (.ref i), some (.ref c), some (hopD (.inr c')), some (.bl (zipf (termOf es cc.1) cc.2)), ρ'] T1 = some (.nx [some (bookD es), some (.str c'.1), some (.int (c'.2 : Nat)), some (.ref a), some (.ref i), some (.ref c2), some (hopD (.inr c')), some (.bl (zipf (termOf es cc.1) cc.2)), ρ'] T2)) ∧ Keep S0 T2 ∧ T2[a]? = some (.lst (C.map cD)) ∧ T2[i]? = some (.st (C.map kD)) ∧ T2[c2]? = some (.dk kv2) ∧ kv2.length ≤ C.length ∧ (∀ t, fget kv2 (.str t) = (wLows (zipf (termOf es cc.1) cc.2) L t).map fun v => .int (v : Nat)) ∧ S0.length ≤ c2 ∧ a ≠ c2 ∧ i ≠ c2 := by
      have ha := (List.getElem?_eq_some_iff.mp ga1).1
      have hi := (List.getElem?_eq_some_iff.mp gb1).1
      cases z : zipf (termOf es cc.1) cc.2 with
      | false => exact ⟨c, kvs, T1, fun ρ' => by simp, k1, ga1, gb1, gc1, hkl, fun t => by rw [hkv]; rfl, w.c0, w.ac, w.bc⟩
      | true => exact ⟨T1.length, [], T1 ++ [.dk []], fun ρ' => by simp, k1.trans .app, get_app ga1 _, get_app gb1 _, by simp, Nat.zero_le _, fun t => by simp [wLows, fget], k1.1, by omega, by omega⟩
    generalize hL1 : wLows (zipf (termOf es cc.1) cc.2) L = L1 at *
    generalize hzz : zipf (termOf es cc.1) cc.2 = z at *
    let E0 : List (Option D) := [some (bookD es), some (.str c'.1), some (.int (c'.2 : Nat)), some (.ref a), some (.ref i), some (.ref c2), some (hopD (.inr c')), some (.bl z)]
    have hfind : (tget (C.map kD) [.str c'.1, .int (c'.2 : Nat)]).isSome = decide (c' ∈ C) := find_c (α := Unit) kD (fun _ => rfl) c' C
    have h5 : sAsg (eOr (e2 kIn (eTup [eVar 1, eVar 2]) (eVar 4)) (eAnd (e2 fIn (eVar 1) (eVar 5)) (e2 leD (e2 fGet (eVar 5) (eVar 1)) (eVar 2)))) (gName 8) (E0 ++ [o8]) T2 = some (.nx (E0 ++ [some (.bl (wAgain C L1 c'))]) T2) := by
      have hk := hkv2 c'.1
      unfold wAgain
      by_cases hm : c' ∈ C
      · simp [E0, gb2, hfind, hm, k0]
      · cases hL : L1 c'.1 with
        | none =>
          rw [hL] at hk
          simp at hk
          simp [E0, gb2, gc2, hfind, hm, hk, k0]
        | some v =>
          rw [hL] at hk
          simp at hk
          simp [E0, gb2, gc2, hfind, hm, hk, k0]
    have ha2 := (List.getElem?_eq_some_iff.mp ga2).1
    have hi2 := (List.getElem?_eq_some_iff.mp gb2).1
    have hc2 := (List.getElem?_eq_some_iff.mp gc2).1
    have hCL : C.length < LINE := by rw [LINE_eq]; omega
    have h6 : ∀ r, sExp (eMt .list appendF (eVar 3) [eTup [eVar 1, eVar 2]]) (E0 ++ [r]) T2 = some (.nx (E0 ++ [r]) (T2.set a (.lst ((C ++ [c']).map cD)))) := fun r => by
      simp [E0, ga2, hCL, cD]
    let T3 : Store := T2.set a (.lst ((C ++ [c']).map cD))
    have gb3 : T3[i]? = some (.st (C.map kD)) := by simp only [T3]; rw [List.getElem?_set_ne w.ab]; exact gb2
    have gc3 : T3[c2]? = some (.dk kv2) := by simp only [T3]; rw [List.getElem?_set_ne ac2]; exact gc2
    have ga3 : T3[a]? = some (.lst ((C ++ [c']).map cD)) := by simp only [T3]; rw [List.getElem?_set_self ha2]
    have hCm : C.length < 16000000 := by omega
    have h7 : ∀ r, sKPut (eVar 4) (eTup [eVar 1, eVar 2]) (eC (.bl true)) (E0 ++ [r]) T3 = some (.nx (E0 ++ [r]) (T3.set i (.st (tput (C.map kD) [.str c'.1, .int (c'.2 : Nat)] (.bl true))))) := fun r => by
      simp [E0, gb3, hCm, k0]
    let T4 : Store := T3.set i (.st (tput (C.map kD) [.str c'.1, .int (c'.2 : Nat)] (.bl true)))
    have hi3 : i < T3.length := by simp only [T3, List.length_set]; exact hi2
    have ga4 : T4[a]? = some (.lst ((C ++ [c']).map cD)) := by simp only [T4]; rw [List.getElem?_set_ne (Ne.symm w.ab)]; exact ga3
    have gc4 : T4[c2]? = some (.dk kv2) := by simp only [T4]; rw [List.getElem?_set_ne bc2]; exact gc3
    have gb4 : T4[i]? = some (.st (tput (C.map kD) [.str c'.1, .int (c'.2 : Nat)] (.bl true))) := by simp only [T4]; rw [List.getElem?_set_self hi3]
    have k4 : Keep S0 T4 := (k2.set w.a0).set w.b0
    have h1 : sAsg (eCall R_followed [eCall R_term_of [eVar 0, eVar 1], eVar 2]) (gTup [gName 6, gName 7]) [some (bookD es), some (.str cc.1), some (.int (cc.2 : Nat)), some (.ref a), some (.ref i), some (.ref c), o6, o7, o8] S = some (.nx [some (bookD es), some (.str cc.1), some (.int (cc.2 : Nat)), some (.ref a), some (.ref i), some (.ref c), some (hopD (.inr c')), some (.bl z), o8] T1) := by
      simp [t1, hT1, t2]
    have hpre : ∀ {q : Option Out}, sq (sAsg (eOr (e2 kIn (eTup [eVar 1, eVar 2]) (eVar 4)) (eAnd (e2 fIn (eVar 1) (eVar 5)) (e2 leD (e2 fGet (eVar 5) (eVar 1)) (eVar 2)))) (gName 8)) (sq (sExp (eMt .list appendF (eVar 3) [eTup [eVar 1, eVar 2]])) (sq (sKPut (eVar 4) (eTup [eVar 1, eVar 2]) (eC (.bl true))) (sq (sIf (tVal (eVar 8)) (sRet (eTup [eC (.str [102, 114, 101, 101]), eVar 3])) (sNx)) (sFPut (eVar 5) (eVar 1) (eVar 2))))) (E0 ++ [o8]) T2 = q → lb_walk_1 R_followed R_term_of [some (bookD es), some (.str cc.1), some (.int (cc.2 : Nat)), some (.ref a), some (.ref i), some (.ref c), o6, o7, o8] S = q := by
      intro q hq
      unfold lb_walk_1
      rw [sq_nx h1]
      rw [sq_nx (ρ1 := [some (bookD es), some (.str cc.1), some (.int (cc.2 : Nat)), some (.ref a), some (.ref i), some (.ref c), some (hopD (.inr c')), some (.bl z), o8]) (S1 := T1) (by simp [hopD, at0])]
      rw [sq_nx (ρ1 := [some (bookD es), some (.str c'.1), some (.int (c'.2 : Nat)), some (.ref a), some (.ref i), some (.ref c), some (hopD (.inr c')), some (.bl z), o8]) (S1 := T1) (by simp [hopD, slD, cut, sIx])]
      rw [sq_nx (hz o8)]
      exact hq
    by_cases hag : wAgain C L1 c' = true
    · rw [if_pos hag]
      refine ⟨T4, hpre ?_, ga4, k4⟩
      rw [sq_nx h5, hag, sq_nx (h6 _), sq_nx (h7 _)]
      exact sq_rt (by simp [E0, resD]; rfl)
    · rw [if_neg hag]
      have hag' : wAgain C L1 c' = false := by simpa using hag
      have hnew : c' ∉ C := fun hm => hag (by unfold wAgain; simp [hm])
      have hc4 : c2 < T4.length := (List.getElem?_eq_some_iff.mp gc4).1
      have hkm : kv2.length < 16000000 := by omega
      refine ⟨c2, some (hopD (.inr c')), some (.bl z), some (.bl false), T4.set c2 (.dk (fput kv2 (.str c'.1) (.int (c'.2 : Nat)))), hpre ?_, ?_⟩
      · rw [sq_nx h5, hag', sq_nx (h6 _), sq_nx (h7 _), sq_nx (ρ1 := E0 ++ [some (.bl false)]) (S1 := T4) (by simp [E0]; rfl)]
        simp [E0, gc4, hkm, k0]
      · refine ⟨k4.set c20, ?_, ?_, ⟨_, List.getElem?_set_self hc4, ?_, fun t => ?_⟩, w.a0, w.b0, c20, w.ab, ac2, bc2⟩
        · rw [List.getElem?_set_ne (Ne.symm ac2)]; exact ga4
        · rw [List.getElem?_set_ne (Ne.symm bc2), gb4, tput_c kD (fun _ => rfl) c' _ C hnew]
          simp [kD]
        · have := fput_len kv2 (.str c'.1) (.int (c'.2 : Nat))
          simp
          omega
        · rw [fget_fput, hkv2]
          unfold wSet
          split <;> rfl
end Z
namespace Z
abbrev Eqs := List (List Nat × Tm)
def look : Eqs → List Nat → Option Tm
  | [], _ => none
  | e :: r, s => if e.1 = s then some e.2 else look r s
theorem look_mem : ∀ {es : Eqs} {s : List Nat} {t : Tm}, look es s = some t → (s, t) ∈ es
  | [], _, _, h => by cases h
  | e :: r, s, t, h => by
    rw [look] at h
    by_cases c : e.1 = s
    · rw [if_pos c] at h
      cases h
      rw [← c]
      exact List.mem_cons_self
    · rw [if_neg c] at h
      exact List.mem_cons_of_mem _ (look_mem h)
theorem look_some : ∀ {es : Eqs} {s : List Nat}, s ∈ es.map (·.1) → ∃ t, look es s = some t
  | [], _, h => by cases h
  | e :: r, s, h => by
    rw [look]
    by_cases c : e.1 = s
    · rw [if_pos c]; exact ⟨_, rfl⟩
    · rw [if_neg c]
      rw [List.map_cons] at h
      rcases List.mem_cons.mp h with h | h
      · exact absurd h.symm c
      · exact look_some h
theorem look_none {es : Eqs} {s : List Nat} : look es s = none ↔ s ∉ es.map (·.1) := by
  constructor
  · intro h q
    obtain ⟨t, ht⟩ := look_some q
    rw [h] at ht
    cases ht
  · intro h
    cases e : look es s with
    | none => rfl
    | some t => exact absurd (List.mem_map.mpr ⟨_, look_mem e, rfl⟩) h
theorem look_app : ∀ {es fs : Eqs} {s : List Nat}, look (es ++ fs) s = (look es s).or (look fs s)
  | [], fs, s => by simp [look]
  | e :: r, fs, s => by
    rw [List.cons_append, look, look]
    by_cases c : e.1 = s
    · rw [if_pos c, if_pos c]; rfl
    · rw [if_neg c, if_neg c]; exact look_app
inductive Wr where
  | sign (i : Nat) | waits (s : List Nat)
def nx (es : Eqs) (c : Call) : Wr ⊕ Call := match look es c.1 with
  | none => .inl (.waits c.1)
  | some t => match hop t c.2 with
    | .inl i => .inl (.sign i)
    | .inr d => .inr d
def EndIn (es : Eqs) : Nat → Call → Wr → Prop
  | 0, c, r => nx es c = .inl r
  | k + 1, c, r => ∃ d, nx es c = .inr d ∧ EndIn es k d r
def Rch (es : Eqs) : Nat → Call → Call → Prop
  | 0, c, d => c = d
  | k + 1, c, d => ∃ e, nx es c = .inr e ∧ Rch es k e d
/-- without a zip -/
def Zr (es : Eqs) : Nat → Call → Call → Prop
  | 0, c, d => c = d
  | k + 1, c, d => ∃ t e, look es c.1 = some t ∧ zipf t c.2 = false ∧ hop t c.2 = .inr e ∧ Zr es k e d
section
variable {es : Eqs}
theorem EndIn.uniq : ∀ {k m : Nat} {c : Call} {r q : Wr}, EndIn es k c r → EndIn es m c q → k = m ∧ r = q
  | 0, 0, c, r, q, h, g => by
    rw [EndIn] at h g
    rw [h] at g
    cases g
    exact ⟨rfl, rfl⟩
  | 0, m + 1, c, r, q, h, g => by
    have h : nx es c = .inl r := h
    obtain ⟨d, g, _⟩ := g
    rw [h] at g
    cases g
  | k + 1, 0, c, r, q, h, g => by
    have g : nx es c = .inl q := g
    obtain ⟨d, h, _⟩ := h
    rw [h] at g
    cases g
  | k + 1, m + 1, c, r, q, h, g => by
    rw [EndIn] at h g
    obtain ⟨d, h1, h2⟩ := h
    obtain ⟨e, g1, g2⟩ := g
    rw [h1] at g1
    cases g1
    obtain ⟨rfl, rfl⟩ := EndIn.uniq h2 g2
    exact ⟨rfl, rfl⟩
theorem Rch.end : ∀ {k m : Nat} {c d : Call} {r : Wr}, Rch es k c d → EndIn es m c r → ∃ j, m = k + j ∧ EndIn es j d r
  | 0, m, c, d, r, h, g => by
    rw [Rch] at h
    subst h
    exact ⟨m, by omega, g⟩
  | k + 1, 0, c, d, r, h, g => by
    rw [Rch] at h
    rw [EndIn] at g
    obtain ⟨e, h, _⟩ := h
    rw [h] at g
    cases g
  | k + 1, m + 1, c, d, r, h, g => by
    rw [Rch] at h
    rw [EndIn] at g
    obtain ⟨e, h1, h2⟩ := h
    obtain ⟨f, g1, g2⟩ := g
    rw [h1] at g1
    cases g1
    obtain ⟨j, hj, he⟩ := h2.end g2
    exact ⟨j, by omega, he⟩
theorem Rch.snoc : ∀ {k : Nat} {c d e : Call}, Rch es k c d → nx es d = .inr e → Rch es (k + 1) c e
  | 0, c, d, e, h, g => by
    rw [Rch] at h
    subst h
    exact ⟨e, g, rfl⟩
  | k + 1, c, d, e, h, g => by
    rw [Rch] at h
    obtain ⟨f, h1, h2⟩ := h
    exact ⟨f, h1, h2.snoc g⟩
theorem nx_of {c d : Call} {t : Tm} (h : look es c.1 = some t) (g : hop t c.2 = .inr d) : nx es c = .inr d := by
  unfold nx
  rw [h]
  dsimp only
  rw [g]
theorem Zr.snoc : ∀ {k : Nat} {c d e : Call} {t : Tm}, Zr es k c d → look es d.1 = some t → zipf t d.2 = false → hop t d.2 = .inr e → Zr es (k + 1) c e
  | 0, c, d, e, t, h, a, b, g => by
    rw [Zr] at h
    subst h
    exact ⟨t, e, a, b, g, rfl⟩
  | k + 1, c, d, e, t, h, a, b, g => by
    rw [Zr] at h
    obtain ⟨t', f, h1, h2, h3, h4⟩ := h
    exact ⟨t', f, h1, h2, h3, h4.snoc a b g⟩
theorem Zr.rch : ∀ {k : Nat} {c d : Call}, Zr es k c d → Rch es k c d
  | 0, c, d, h => h
  | k + 1, c, d, h => by
    rw [Zr] at h
    obtain ⟨t', f, h1, h2, h3, h4⟩ := h
    exact ⟨f, nx_of h1 h3, h4.rch⟩
theorem hop_shift : ∀ (t : Tm) (n : Nat) (s : List Nat) (m e : Nat), zipf t n = false → hop t n = .inr (s, m) → hop t (n + e) = .inr (s, m + e) ∧ zipf t (n + e) = false
  | .row s', n, s, m, e, h, g => by
    simp [hop] at g
    obtain ⟨rfl, rfl⟩ := g
    simp [hop, zipf]
  | .sign i t, 0, s, m, e, h, g => by simp [hop] at g
  | .sign i t, n + 1, s, m, e, h, g => by
    rw [zipf] at h
    rw [hop] at g
    rw [show n + 1 + e = (n + e) + 1 by omega, hop, zipf]
    exact hop_shift t n s m e h g
  | .beh t, n, s, m, e, h, g => by
    rw [zipf] at h
    rw [hop] at g
    rw [hop, zipf, show n + e + 1 = (n + 1) + e by omega]
    exact hop_shift t (n + 1) s m e h g
  | .zip a b, n, s, m, e, h, g => by simp [zipf] at h
theorem Zr.shift : ∀ {k : Nat} {c d : Call}, Zr es k c d → ∀ e, Zr es k (c.1, c.2 + e) (d.1, d.2 + e)
  | 0, c, d, h, e => by rw [Zr] at h; subst h; rfl
  | k + 1, c, d, h, e => by
    rw [Zr] at h
    obtain ⟨t, f, h1, h2, h3, h4⟩ := h
    obtain ⟨g1, g2⟩ := hop_shift t c.2 f.1 f.2 e h2 h3
    exact ⟨t, (f.1, f.2 + e), h1, g2, g1, h4.shift e⟩
theorem no_cycle {k m d : Nat} {s : List Nat} (h : Zr es (k + 1) (s, m) (s, m + d)) : ∀ (j e : Nat) (r : Wr), ¬ EndIn es j (s, m + e) r := by
  intro j
  induction j using Nat.strongRecOn with
  | ind j ih =>
    intro e r g
    have h1 := (h.shift e).rch
    obtain ⟨i, hi, hg⟩ := h1.end g
    refine ih i (by omega) (d + e) r ?_
    have e1 : m + d + e = m + (d + e) := by omega
    rw [← e1]
    exact hg
theorem no_rep {k : Nat} {c : Call} (h : Rch es (k + 1) c c) {j : Nat} {r : Wr} : ¬ EndIn es j c r := fun g => by
  obtain ⟨i, hi, hg⟩ := h.end g
  obtain ⟨e, _⟩ := EndIn.uniq g hg
  omega
open Classical in
noncomputable def wres (es : Eqs) (c : Call) : Option Wr := if h : ∃ r k, EndIn es k c r then some h.choose else none
theorem wres_some {k : Nat} {c : Call} {r : Wr} (h : EndIn es k c r) : wres es c = some r := by
  have hx : ∃ r k, EndIn es k c r := ⟨r, k, h⟩
  unfold wres
  rw [dif_pos hx]
  obtain ⟨j, hj⟩ := hx.choose_spec
  rw [(EndIn.uniq hj h).2]
theorem wres_none {c : Call} (h : ∀ k r, ¬ EndIn es k c r) : wres es c = none := by
  unfold wres
  rw [dif_neg fun ⟨r, k, g⟩ => h k r g]
theorem wres_inl {c : Call} {r : Wr} (h : nx es c = .inl r) : wres es c = some r := wres_some (k := 0) h
theorem wres_inr {c d : Call} (h : nx es c = .inr d) : wres es c = wres es d := by
  by_cases g : ∃ r k, EndIn es k d r
  · obtain ⟨r, k, g⟩ := g
    rw [wres_some g]
    exact wres_some (k := k + 1) ⟨d, h, g⟩
  · rw [wres_none (c := d) fun k r q => g ⟨r, k, q⟩]
    refine wres_none fun k r q => ?_
    cases k with
    | zero => rw [EndIn, h] at q; cases q
    | succ k =>
      obtain ⟨e, q1, q2⟩ := q
      rw [h] at q1
      cases q1
      exact g ⟨r, k, q2⟩
/-- told names unlike, their terms not too deep, few -/
structure Tb (es : Eqs) : Prop where
  nd : (es.map (·.1)).Nodup
  dep : ∀ e ∈ es, e.2.depth ≤ 12
  few : es.length ≤ 8
structure Iv (es : Eqs) (n0 : Nat) (c : Call) (C : List Call) (L : Lows) (P : List (List Nat)) : Prop where
  rch : ∀ d ∈ C, ∃ k, Rch es (k + 1) d c
  low : ∀ s v, L s = some v → ∃ k, Zr es (k + 1) (s, v) c
  cnd : C.Nodup
  cb : ∀ d ∈ C, d.1 ∈ es.map (·.1) ∧ d.2 < n0 + 97
  psub : ∀ t ∈ P, t ∈ es.map (·.1)
  pnd : P.Nodup
  iff : ∀ t, t ∈ P ↔ L t ≠ none
  le : ∀ t v, L t = some v → v + 12 ≤ n0 + 12 * P.length
  cur : c.2 ≤ n0 + 12 * P.length
theorem Iv.p8 {n0 : Nat} {c : Call} {C : List Call} {L : Lows} {P : List (List Nat)} (b : Tb es) (h : Iv es n0 c C L P) : P.length ≤ 8 := by
  have := nd_le' h.pnd h.psub
  rw [List.length_map] at this
  have := b.few
  omega
theorem Iv.beg {n0 : Nat} {c : Call} (h : c.2 ≤ n0) : Iv es n0 c [] (fun _ => none) [] :=
  ⟨fun d hd => (nomatch hd), fun s v h => (nomatch h), List.nodup_nil, fun d hd => (nomatch hd), fun t ht => (nomatch ht), List.nodup_nil, fun t => by simp, fun t v h => (nomatch h), by simpa using h⟩
theorem Iv.again {n0 : Nat} {c : Call} {C : List Call} {L : Lows} {P : List (List Nat)} (h : Iv es n0 c C L P) (ha : wAgain C L c = true) : ∀ k r, ¬ EndIn es k c r := by
  unfold wAgain at ha
  rw [Bool.or_eq_true] at ha
  rcases ha with ha | ha
  · obtain ⟨k, hk⟩ := h.rch c (of_decide_eq_true ha)
    exact fun j r => no_rep hk
  · cases e : L c.1 with
    | none => rw [e] at ha; cases ha
    | some v =>
      rw [e] at ha
      have hv : v ≤ c.2 := of_decide_eq_true ha
      obtain ⟨k, hk⟩ := h.low _ _ e
      have e2 : c = (c.1, v + (c.2 - v)) := by rw [Nat.add_sub_cancel' hv]
      rw [e2] at hk
      intro j r q
      rw [e2] at q
      exact no_cycle hk j _ r q
theorem Iv.cin {n0 : Nat} {c : Call} {C : List Call} {L : Lows} {P : List (List Nat)} (h : Iv es n0 c C L P) (ha : wAgain C L c = false) : c ∉ C ∧ ∀ v, L c.1 = some v → c.2 < v := by
  unfold wAgain at ha
  rw [Bool.or_eq_false_iff] at ha
  refine ⟨of_decide_eq_false ha.1, fun v hv => ?_⟩
  have := ha.2
  rw [hv] at this
  simp at this
  exact this
theorem Iv.step (b : Tb es) {n0 : Nat} (hn0 : 120 ≤ n0) {c : Call} {C : List Call} {L : Lows} {P : List (List Nat)} (h : Iv es n0 c C L P) {t : Tm} (ht : look es c.1 = some t) (ha : wAgain C L c = false) {d : Call} (hd : hop t c.2 = .inr d) :
    ∃ P', Iv es n0 d (C ++ [c]) (wLows (zipf t c.2) (wSet L c)) P' := by
  obtain ⟨hc, hv⟩ := h.cin ha
  have hm := look_mem ht
  have hc1 : c.1 ∈ es.map (·.1) := List.mem_map.mpr ⟨_, hm, rfl⟩
  have hdep : t.depth ≤ 12 := b.dep _ hm
  obtain ⟨k1, k2, k3⟩ := hop_le t c.2 d.1 d.2 hd
  have hp8 := h.p8 b
  have hcur := h.cur
  have hnx := nx_of ht hd
  have r1 : ∀ x ∈ C ++ [c], ∃ k, Rch es (k + 1) x d := fun x hx => by
    rcases List.mem_append.mp hx with hx | hx
    · obtain ⟨k, hk⟩ := h.rch x hx
      exact ⟨k + 1, hk.snoc hnx⟩
    · simp at hx
      subst hx
      exact ⟨0, d, hnx, rfl⟩
  have r2 : (C ++ [c]).Nodup := List.nodup_append.mpr ⟨h.cnd, by simp, fun a hax x hx => by simp at hx; subst hx; exact fun e => hc (e ▸ hax)⟩
  have r3 : ∀ x ∈ C ++ [c], x.1 ∈ es.map (·.1) ∧ x.2 < n0 + 97 := fun x hx => by
    rcases List.mem_append.mp hx with hx | hx
    · exact h.cb x hx
    · simp at hx
      subst hx
      exact ⟨hc1, by omega⟩
  cases hz : zipf t c.2 with
  | true =>
    have := k3 hz
    refine ⟨[], r1, fun s v q => (by simp [wLows] at q), r2, r3, fun t ht => (nomatch ht), List.nodup_nil, fun t => by simp [wLows], fun t v q => (by simp [wLows] at q), ?_⟩
    simp
    omega
  | false =>
    have hk := k2 hz
    have e : wLows false (wSet L c) = wSet L c := by simp [wLows]
    rw [e]
    have low : ∀ s v, wSet L c s = some v → ∃ k, Zr es (k + 1) (s, v) d := fun s v q => by
      unfold wSet at q
      by_cases hs : s = c.1
      · rw [if_pos hs] at q
        cases q
        subst hs
        exact ⟨0, t, d, ht, hz, hd, rfl⟩
      · rw [if_neg hs] at q
        obtain ⟨k, hk⟩ := h.low s v q
        exact ⟨k + 1, hk.snoc ht hz hd⟩
    by_cases hp : c.1 ∈ P
    · obtain ⟨v, hv1⟩ := Option.ne_none_iff_exists'.mp ((h.iff _).mp hp)
      have h1 := hv v hv1
      have h2 := h.le _ _ hv1
      refine ⟨P, r1, low, r2, r3, h.psub, h.pnd, fun s => ?_, fun s w q => ?_, by omega⟩
      · by_cases hs : s = c.1
        · subst hs; simp [wSet, hp]
        · simp [wSet, hs]; exact h.iff s
      · unfold wSet at q
        split at q
        · cases q; omega
        · exact h.le _ _ q
    · refine ⟨c.1 :: P, r1, low, r2, r3, fun s hs => ?_, List.nodup_cons.mpr ⟨hp, h.pnd⟩, fun s => ?_, fun s w q => ?_, ?_⟩
      · rcases List.mem_cons.mp hs with rfl | hs
        · exact hc1
        · exact h.psub s hs
      · by_cases hs : s = c.1
        · subst hs; simp [wSet]
        · simp [wSet, hs]; exact h.iff s
      · rw [List.length_cons]
        unfold wSet at q
        split at q
        · cases q; omega
        · have := h.le _ _ q; omega
      · rw [List.length_cons]; omega
theorem Iv.clen {n0 : Nat} {c : Call} {C : List Call} {L : Lows} {P : List (List Nat)} (b : Tb es) (h : Iv es n0 c C L P) : C.length ≤ es.length * (n0 + 97) := by
  have := few_calls (es.map (·.1)) (n0 + 97) C h.cnd h.cb
  rwa [List.length_map] at this
end
end Z
namespace Z
/-- a coming book -/
structure CB (S : Store) (r d : Nat) (es : Eqs) : Prop where
  gr : S[r]? = some (.ins "Coming" [("terms", .ref d)])
  gd : S[d]? = some (.dk (es.map kvE))
theorem CB.keep {S S' : Store} {r d : Nat} {es : Eqs} (h : CB S r d es) (k : Keep S S') : CB S' r d es := ⟨k.get h.gr, k.get h.gd⟩
theorem CB.ne {S : Store} {r d : Nat} {es : Eqs} (h : CB S r d es) : r ≠ d := fun e => by
  have := h.gr
  rw [e, h.gd] at this
  cases this
theorem CB.lt {S : Store} {r d : Nat} {es : Eqs} (h : CB S r d es) : r < S.length ∧ d < S.length := ⟨(List.getElem?_eq_some_iff.mp h.gr).1, (List.getElem?_eq_some_iff.mp h.gd).1⟩
end Z
namespace Z
structure Lv (es : Eqs) (c0 c : Call) (C : List Call) : Prop where
  beg : ∃ j, Rch es j c0 c
  rch : ∀ d ∈ C, ∃ k, Rch es (k + 1) d c
  cnd : C.Nodup
  cb : ∀ d ∈ C, d.1 ∈ es.map (·.1) ∧ d.2 < c0.2 + 301
theorem Lv.clen {es : Eqs} {c0 c : Call} {C : List Call} (h : Lv es c0 c C) : C.length ≤ es.length * (c0.2 + 301) := by
  have := few_calls (es.map (·.1)) (c0.2 + 301) C h.cnd h.cb
  rwa [List.length_map] at this
theorem Lv.step {es : Eqs} {c0 c d : Call} {C : List Call} (h : Lv es c0 c C) (hn : c ∉ C) (hc : c.2 ≤ c0.2 + 300) {t : Tm} (ht : look es c.1 = some t) (hd : hop t c.2 = .inr d) : Lv es c0 d (C ++ [c]) := by
  have hnx := nx_of ht hd
  refine ⟨?_, fun x hx => ?_, List.nodup_append.mpr ⟨h.cnd, by simp, fun a hax x hx => by simp at hx; subst hx; exact fun e => hn (e ▸ hax)⟩, fun x hx => ?_⟩
  · obtain ⟨j, hj⟩ := h.beg
    exact ⟨j + 1, hj.snoc hnx⟩
  · rcases List.mem_append.mp hx with hx | hx
    · obtain ⟨k, hk⟩ := h.rch x hx
      exact ⟨k + 1, hk.snoc hnx⟩
    · simp at hx
      subst hx
      exact ⟨0, d, hnx, rfl⟩
  · rcases List.mem_append.mp hx with hx | hx
    · exact h.cb x hx
    · simp at hx
      subst hx
      exact ⟨List.mem_map.mpr ⟨_, look_mem ht, rfl⟩, by omega⟩
/-- a dict of told terms, locked or not -/
def TD (S : Store) (d : Nat) (es : Eqs) : Prop := S[d]? = some (.dk (es.map kvE)) ∨ S[d]? = some (.dkl (es.map kvE))
theorem TD.keep {S S' : Store} {d : Nat} {es : Eqs} (h : TD S d es) (k : Keep S S') : TD S' d es := h.imp (fun h => k.get h) (fun h => k.get h)
theorem TD.at {S : Store} {d : Nat} {es : Eqs} (h : TD S d es) : dkAt S (.ref d) = some (es.map kvE) := by
  rcases h with h | h <;> simp [h]
end Z
namespace Z
theorem Tm.In.mono {a b : List (List Nat)} (h : ∀ s ∈ a, s ∈ b) : ∀ {t : Tm}, t.In a → t.In b
  | .row s, i => h s i
  | .sign _ t, i => ⟨i.1, Tm.In.mono h i.2⟩
  | .beh t, i => Tm.In.mono (t := t) h i
  | .zip a b, i => ⟨Tm.In.mono h i.1, Tm.In.mono h i.2⟩
end Z
namespace Z
structure LI (S : Store) (p c l r d dt : Nat) (names : List (List Nat)) (es : Eqs) : Prop where
  sp : Sp S p c
  nm : Nm S p c l names
  cb : CB S r d es
  gt : S[dt]? = some (.dk (es.map kvE))
  ne : d ≠ dt
theorem sp_lst {S : Store} {p c : Nat} (h : Sp S p c) : (∃ xs, S[p]? = some (.lst xs)) ∧ ∃ xs, S[c]? = some (.lst xs) := by
  obtain ⟨s, h⟩ := h
  exact ⟨⟨_, h.hp⟩, ⟨_, h.hc⟩⟩
theorem LI.fr {S S' : Store} {p c l r d dt : Nat} {names : List (List Nat)} {es : Eqs} (h : LI S p c l r d dt names es) (f : Fr p c S S') (s : Sp S' p c) : LI S' p c l r d dt names es := by
  obtain ⟨⟨xs, hp⟩, ⟨ys, hc⟩⟩ := sp_lst h.sp
  have nl : ∀ {i : Nat} {o : MO}, S[i]? = some o → (∀ zs, o ≠ .lst zs) → S'[i]? = some o := fun {i o} g hn => by
    rw [f.old i (List.getElem?_eq_some_iff.mp g).1 (fun e => by subst e; rw [hp] at g; cases g; exact hn _ rfl) (fun e => by subst e; rw [hc] at g; cases g; exact hn _ rfl)]
    exact g
  exact ⟨s, h.nm.fr f, ⟨nl h.cb.gr (fun _ e => by cases e), nl h.cb.gd (fun _ e => by cases e)⟩, nl h.gt (fun _ e => by cases e), h.ne⟩
theorem keep_fr {p c : Nat} {S S' : Store} (k : Keep S S') : Fr p c S S' := ⟨k.1, fun i h _ _ => k.2 i h⟩
theorem keep_sp2 {S S' : Store} {p c : Nat} (hs : Sp S p c) (k : Keep S S') : Sp S' p c := by
  obtain ⟨x, h1⟩ := hs
  have h2 := h1.lt
  exact ⟨x, ⟨h1.ne, by rw [k.2 p h2.1]; exact h1.hp, by rw [k.2 c h2.2]; exact h1.hc, h1.ok⟩⟩
theorem LI.keep {S S' : Store} {p c l r d dt : Nat} {names : List (List Nat)} {es : Eqs} (h : LI S p c l r d dt names es) (k : Keep S S') : LI S' p c l r d dt names es := h.fr (keep_fr k) (keep_sp2 h.sp k)
end Z
namespace Z
structure FI (S : Store) (p c r d dt q : Nat) (es : Eqs) : Prop where
  sp : Sp S p c
  cb : CB S r d es
  td : S[dt]? = some (.dkl (es.map kvE))
  gq : S[q]? = some (.lst (es.map ent))
  qp : q ≠ p
  qc : q ≠ c
theorem FI.fr {S S' : Store} {p c r d dt q : Nat} {es : Eqs} (h : FI S p c r d dt q es) (f : Fr p c S S') (s : Sp S' p c) : FI S' p c r d dt q es := by
  obtain ⟨⟨xs, hp⟩, ⟨ys, hc⟩⟩ := sp_lst h.sp
  have nl : ∀ {i : Nat} {o : MO}, S[i]? = some o → (∀ zs, o ≠ .lst zs) → S'[i]? = some o := fun {i o} g hn => by
    rw [f.old i (List.getElem?_eq_some_iff.mp g).1 (fun e => by subst e; rw [hp] at g; cases g; exact hn _ rfl) (fun e => by subst e; rw [hc] at g; cases g; exact hn _ rfl)]
    exact g
  exact ⟨s, ⟨nl h.cb.gr (fun _ e => by cases e), nl h.cb.gd (fun _ e => by cases e)⟩, nl h.td (fun _ e => by cases e), by rw [f.old q (List.getElem?_eq_some_iff.mp h.gq).1 h.qp h.qc]; exact h.gq, h.qp, h.qc⟩
theorem FI.keep {S S' : Store} {p c r d dt q : Nat} {es : Eqs} (h : FI S p c r d dt q es) (k : Keep S S') : FI S' p c r d dt q es := h.fr (keep_fr k) (keep_sp2 h.sp k)
end Z
namespace Z
theorem wk_len (es : List (List Nat × Tm)) : ∀ (f : Nat) (c : Call) (C : List Call) (L : Lows) (r : Option Nat) (C' : List Call), wk es f c C L = some (r, C') → C.length ≤ C'.length
  | 0, c, C, L, r, C', h => by cases h
  | f + 1, c, C, L, r, C', h => by
    rw [wk] at h
    split at h
    · cases h; exact Nat.le_refl _
    · split at h
      · cases h; simp
      · have := wk_len es f _ _ _ _ _ h
        simp at this
        omega
theorem walk_loop {es : List (List Nat × Tm)} (b : Bk es) {S0 : Store} {a i : Nat} : ∀ (f : Nat) (cc : Call) (C : List Call) (L : Lows) (c : Nat) (o6 o7 o8 : Option D) (S : Store) (r : Option Nat) (C' : List Call), wk es f cc C L = some (r, C') → C'.length ≤ 900000 → C.length ≤ C'.length → cc.1 ∈ es.map (·.1) → WS S0 S a i c C L →
    ∃ S', sWh (tVal (eC (.bl true))) (lb_walk_1 R_followed R_term_of) [some (bookD es), some (.str cc.1), some (.int (cc.2 : Nat)), some (.ref a), some (.ref i), some (.ref c), o6, o7, o8] S = some (.rt (resD a r) S') ∧ S'[a]? = some (.lst (C'.map cD)) ∧ Keep S0 S'
  | 0, cc, C, L, c, o6, o7, o8, S, r, C', h, _, _, _, _ => by cases h
  | f + 1, cc, C, L, c, o6, o7, o8, S, r, C', h, h9, hlen, hs, w => by
    have st := walk_step b (o6 := o6) (o7 := o7) (o8 := o8) hs w (by omega)
    rw [wk] at h
    cases hh : hop (termOf es cc.1) cc.2 with
    | inl k =>
      rw [hh] at st h
      cases h
      obtain ⟨S', e1, e2, e3⟩ := st
      exact ⟨S', sWh_rt rfl e1, e2, e3⟩
    | inr c' =>
      rw [hh] at st h
      dsimp only at st h
      by_cases ha : wAgain C (wLows (zipf (termOf es cc.1) cc.2) L) c' = true
      · rw [if_pos ha] at st h
        cases h
        obtain ⟨S', e1, e2, e3⟩ := st
        exact ⟨S', sWh_rt rfl e1, e2, e3⟩
      · rw [if_neg ha] at st h
        obtain ⟨c2, p6, p7, p8, S2, e1, w2⟩ := st
        have hm := b.at hs
        obtain ⟨k1, _⟩ := hop_le (termOf es cc.1) cc.2 c'.1 c'.2 hh
        have hlen2 : (C ++ [c']).length ≤ C'.length := wk_len es f _ _ _ _ _ h
        obtain ⟨S', e2, e3⟩ := walk_loop b f c' (C ++ [c']) _ c2 p6 p7 p8 S2 r C' h h9 hlen2 (b.row _ hm _ k1) w2
        exact ⟨S', by rw [sWh_go rfl e1]; exact e2, e3⟩
def L0 (c : Call) : Lows := wSet (fun _ => none) c
theorem s_walk {es : List (List Nat × Tm)} (b : Bk es) {f : Nat} {cc : Call} {r : Option Nat} {C' : List Call} (h : wk es f cc [cc] (L0 cc) = some (r, C')) (h9 : C'.length ≤ 900000) (hs : cc.1 ∈ es.map (·.1)) (S : Store) :
    ∃ a S', R_walk [bookD es, .str cc.1, .int (cc.2 : Nat)] S = some (.ok (resD a r) S') ∧ S'[a]? = some (.lst (C'.map cD)) ∧ Keep S S' ∧ S.length ≤ a := by
  have w : WS S (S ++ [.lst [cD cc], .st [kD cc], .dk [(.str cc.1, .int (cc.2 : Nat))]]) S.length (S.length + 1) (S.length + 2) [cc] (L0 cc) := by
    refine ⟨.app, by simp, by simp, ⟨[(.str cc.1, .int (cc.2 : Nat))], by simp, by simp, fun t => ?_⟩, by omega, by omega, by omega, by omega, by omega, by omega⟩
    by_cases ht : t = cc.1
    · subst ht; simp [L0, wSet, fget, kEq0]
    · have : ¬ cc.1 = t := fun e => ht e.symm
      simp [L0, wSet, fget, kEq0, ht, this]
  obtain ⟨S', e1, e2, e3⟩ := walk_loop b f cc [cc] (L0 cc) (S.length + 2) none none none _ r C' h h9 (wk_len es f _ _ _ _ _ h) hs w
  refine ⟨S.length, S', ?_, e2, e3, Nat.le_refl _⟩
  unfold R_walk
  rw [run_eq (n := 3) _ _ rfl]
  unfold b_walk
  simp [cD, kD] at e1
  simp [k0, e1]
end Z
namespace Z
theorem pdL_calls (g : Nat → Option PD) : ∀ C : List Call, pdL g (C.map cD) = some (C.map fun c => PD.tup [.str c.1, .int (c.2 : Nat)])
  | [] => rfl
  | c :: C => by rw [List.map_cons, pdL, pdL_calls g C]; simp [cD, D.pd, pdL]
theorem depL_calls : ∀ C : List Call, depL (C.map fun c => PD.tup [.str c.1, .int (c.2 : Nat)]) ≤ 2
  | [] => by simp [depL]
  | c :: C => by have := depL_calls C; simp [depL, PD.dep]; omega
theorem dat_calls {S : Store} {a : Nat} {C : List Call} (h : S[a]? = some (.lst (C.map cD))) : dat S (.ref a) = some (.lst (C.map fun c => PD.tup [.str c.1, .int (c.2 : Nat)])) := by
  unfold dat
  rw [D.pd, rdR, h]
  dsimp only
  rw [pdL_calls]
  rfl
theorem ne_dat {d e : D} {S : Store} {x : PD} (h : dat S d = some x) (g : dat S e = some x) (hd : x.dep ≤ 64) : neD d e S = some (.ok (.bl false) S) := by
  unfold neD
  rw [h, g]
  dsimp only
  rw [if_pos ⟨hd, hd⟩, PD.eqv_refl]
  rfl
end Z
namespace Z
/-- the lows tell of each call made -/
def Told (C : List Call) (L : Lows) : Prop := ∀ x ∈ C, ∃ v, L x.1 = some v ∧ v ≤ x.2
def lowB (L : Lows) (c : Call) : Bool := match L c.1 with | some v => decide (v ≤ c.2) | none => false
theorem Told.again {C : List Call} {L : Lows} (h : Told C L) (c : Call) : wAgain C L c = lowB L c := by
  unfold wAgain lowB
  by_cases hm : c ∈ C
  · obtain ⟨v, h1, h2⟩ := h c hm
    rw [h1]
    simp [hm, h2]
  · cases hL : L c.1 <;> simp [hm]
theorem Told.set {C : List Call} {L : Lows} (h : Told C L) {c : Call} (hl : lowB L c = false) : Told (C ++ [c]) (wSet L c) := by
  intro x hx
  unfold wSet
  by_cases e : x.1 = c.1
  · rw [if_pos e]
    refine ⟨c.2, rfl, ?_⟩
    rcases List.mem_append.mp hx with hx | hx
    · obtain ⟨v, h1, h2⟩ := h x hx
      unfold lowB at hl
      rw [← e, h1] at hl
      simp at hl
      omega
    · simp at hx; subst hx; exact Nat.le_refl _
  · rw [if_neg e]
    rcases List.mem_append.mp hx with hx | hx
    · exact h x hx
    · simp at hx; subst hx; exact absurd rfl e
end Z
namespace Z
theorem look_mono {es fs : Eqs} {s : List Nat} {t : Tm} (h : look es s = some t) : look (es ++ fs) s = some t := by rw [look_app, h]; rfl
theorem EndIn.mono {es fs : Eqs} {i : Nat} : ∀ {k : Nat} {c : Call}, EndIn es k c (.sign i) → EndIn (es ++ fs) k c (.sign i)
  | 0, c, h => by
    have h : nx es c = .inl (.sign i) := h
    show nx (es ++ fs) c = .inl (.sign i)
    unfold nx at h ⊢
    cases e : look es c.1 with
    | none => rw [e] at h; cases h
    | some t => rw [e] at h; rw [look_mono e]; exact h
  | k + 1, c, h => by
    obtain ⟨d, h1, h2⟩ := h
    refine ⟨d, ?_, h2.mono⟩
    unfold nx at h1 ⊢
    cases e : look es c.1 with
    | none => rw [e] at h1; cases h1
    | some t => rw [e] at h1; rw [look_mono e]; exact h1
theorem EndIn.waits {es : Eqs} {s : List Nat} : ∀ {k : Nat} {c : Call}, EndIn es k c (.waits s) → s ∉ es.map (·.1)
  | 0, c, h => by
    have h : nx es c = .inl (.waits s) := h
    unfold nx at h
    cases e : look es c.1 with
    | none =>
      rw [e] at h
      cases h
      exact look_none.mp e
    | some t =>
      rw [e] at h
      dsimp only at h
      cases hh : hop t c.2 with
      | inl i => rw [hh] at h; cases h
      | inr d => rw [hh] at h; cases h
  | k + 1, c, h => by
    obtain ⟨d, _, h2⟩ := h
    exact h2.waits
theorem look_term {es : Eqs} (b : Bk es) {s : List Nat} (h : s ∈ es.map (·.1)) : look es s = some (termOf es s) := by
  obtain ⟨t, ht⟩ := look_some h
  have h1 := look_mem ht
  have := termOf_mem b.nd h1
  rw [this]
  exact ht
end Z
namespace Z
open Classical
def GK (b : Bool) (k : D) : Prop := if b = true then nkOk k = true else k0 k = true
structure DA (S : Store) (n : Nat) (b : Bool) (kvs : List (D × D)) : Prop where
  gk : ∀ p ∈ kvs, GK b p.1
  at' : S[n]? = some (if b = true then .nk kvs else .dk kvs)
theorem DA.get {S S' : Store} {n : Nat} {b : Bool} {kvs : List (D × D)} (h : DA S n b kvs) (e : S'[n]? = S[n]?) : DA S' n b kvs := ⟨h.gk, by rw [e]; exact h.at'⟩
theorem DA.lt {S : Store} {n : Nat} {b : Bool} {kvs : List (D × D)} (h : DA S n b kvs) : n < S.length := (List.getElem?_eq_some_iff.mp h.at').1
theorem DA.keep {S S' : Store} {n : Nat} {b : Bool} {kvs : List (D × D)} (h : DA S n b kvs) (k : Keep S S') : DA S' n b kvs := h.get (k.2 n h.lt)
@[simp] theorem x_dctN (ρ : Env) (S : Store) : eDctN ρ S = some (.ok (.ref S.length) (S ++ [.nk []])) := rfl
end Z
namespace Z
structure Q where
  s : Nat
  e : Nat
  o : Nat
def Q.d (q : Q) : D := .tup [.int q.s, .int q.e, .int q.o]
abbrev machD (m : List Q) : D := .tup (m.map Q.d)
structure Mach (m : List Q) : Prop where
  pos : 0 < m.length
  he : ∀ q ∈ m, q.e < m.length
  ho : ∀ q ∈ m, q.o < m.length
  hs : ∀ q ∈ m, ∀ p, m[q.e]? = some p → p.s = q.s
  h9 : ∀ q ∈ m, q.s ≤ 9
def stq (m : List Q) (s : Nat) : Q := m.getD s ⟨0, 0, 0⟩
def go (m : List Q) (s n : Nat) : Nat := if h : n = 0 then s else go m (if n % 2 = 0 then (stq m s).e else (stq m s).o) (n / 2)
termination_by n
decreasing_by omega
def sgn (m : List Q) (s n : Nat) : Nat := (stq m (go m s n)).s
theorem Mach.at {m : List Q} {s : Nat} (h : s < m.length) : m[s]? = some (stq m s) := by simp [stq, h]
theorem Mach.mem {m : List Q} {s : Nat} (h : s < m.length) : stq m s ∈ m := List.mem_of_getElem? (Mach.at h)
end Z
namespace Z
/-- among the first n places of the row from state s on -/
def cnt (m : List Q) (x s : Nat) : Nat → Nat
  | 0 => 0
  | n + 1 => cnt m x s n + if sgn m s n = x then 1 else 0
end Z
namespace Z
def en (m : List Q) (x : Nat) (q : Nat × Nat) : List D × D := ([.int q.1, .int q.2], .int (cnt m x q.1 q.2))
theorem nodup_le {α : Type} [DecidableEq α] : ∀ (P L : List α), P.Nodup → (∀ q ∈ P, q ∈ L) → P.length ≤ L.length
  | [], L, _, _ => Nat.zero_le _
  | q :: P, L, h, hs => by
    obtain ⟨h1, h2⟩ := List.nodup_cons.mp h
    have hq := hs q (by simp)
    have := nodup_le P (L.erase q) h2 fun y hy => by
      have hy' := hs y (List.mem_cons_of_mem _ hy)
      exact (List.mem_erase_of_ne (by rintro rfl; exact h1 hy)).mpr hy'
    rw [List.length_erase_of_mem hq] at this
    have := List.length_pos_of_mem hq
    simp; omega
/-- a dict of counts stands at r, its keys of L -/
def Kn (m : List Q) (x : Nat) (S : Store) (r : Nat) (L : List (Nat × Nat)) : Prop := ∃ P : List (Nat × Nat), S[r]? = some (.st (P.map (en m x))) ∧ P.Nodup ∧ ∀ q ∈ P, q ∈ L
theorem Kn.keep {m : List Q} {x : Nat} {S S' : Store} {r : Nat} {L : List (Nat × Nat)} (h : Kn m x S r L) (e : S'[r]? = S[r]?) : Kn m x S' r L := let ⟨P, a, b, c⟩ := h; ⟨P, by rw [e]; exact a, b, c⟩
def lev (m : List Q) (n j : Nat) : List (Nat × Nat) := ((List.range m.length).map fun s => (s, n / 2 ^ j)) ++ (List.range m.length).map fun s => (s, n / 2 ^ j + 1)
def hs (m : List Q) (n : Nat) : Nat → List (Nat × Nat)
  | 0 => []
  | k + 1 => hs m n k ++ lev m n k
end Z
namespace Z
open Classical
noncomputable def pushU {α : Type} (r : List α) (k : α) : List α := if k ∈ r then r else r ++ [k]
noncomputable def bfs {α : Type} (nx : α → Option (α × α)) : Nat → Nat → List α → Option (List α)
  | 0, _, _ => none
  | f + 1, i, r => match r[i]? with
    | none => some r
    | some k => match nx k with
      | none => none
      | some q => bfs nx f (i + 1) (pushU (pushU r q.1) q.2)
section
variable {α β : Type}
theorem nodup_len {P L : List α} (h : P.Nodup) (hs : ∀ q ∈ P, q ∈ L) : P.length ≤ L.length := nodup_le P L h hs
theorem bfs_more {nx : α → Option (α × α)} : ∀ {f i : Nat} {r l : List α}, bfs nx f i r = some l → bfs nx (f + 1) i r = some l
  | 0, i, r, l, h => by cases h
  | f + 1, i, r, l, h => by
    rw [bfs] at h ⊢
    cases hr : r[i]? with
    | none => rw [hr] at h; exact h
    | some k =>
      rw [hr] at h
      dsimp only at h ⊢
      cases hq : nx k with
      | none => rw [hq] at h; cases h
      | some q =>
        rw [hq] at h
        dsimp only at h ⊢
        exact bfs_more h
theorem bfs_mono {nx : α → Option (α × α)} {f g i : Nat} {r l : List α} (h : bfs nx f i r = some l) (hg : f ≤ g) : bfs nx g i r = some l := by
  obtain ⟨k, rfl⟩ := Nat.exists_eq_add_of_le hg
  clear hg
  induction k with
  | zero => exact h
  | succ k ih => exact bfs_more ih
structure MetG (nx : α → Option (α × α)) (P : α → Prop) (r l : List α) : Prop where
  pre : ∃ t, l = r ++ t
  nd : l.Nodup
  ok : ∀ x ∈ l, P x
  clo : ∀ k ∈ l, ∃ q, nx k = some q ∧ q.1 ∈ l ∧ q.2 ∈ l
end
end Z
namespace Z
open Classical
structure NQ where
  s : Nat
  e : D
  o : D
def NQ.d (q : NQ) : D := .tup [.int q.s, q.e, q.o]
abbrev Gr := List (D × NQ)
noncomputable def nxG (gs : Gr) (k : D) : Option (D × D) := (dget gs k).map fun q => (q.e, q.o)
theorem dget_mem {β : Type} {kvs : List (D × β)} {k : D} {v : β} (h : dget kvs k = some v) : (k, v) ∈ kvs := by
  unfold dget at h
  obtain ⟨p, hp, rfl⟩ := Option.map_eq_some_iff.mp h
  have h1 := List.find?_some hp
  have h2 := List.mem_of_find?_eq_some hp
  have : p.1 = k := by simpa using h1
  rw [← this]
  exact h2
theorem dget_some {β : Type} {kvs : List (D × β)} {k : D} (h : k ∈ kvs.map (·.1)) : ∃ v, dget kvs k = some v := by
  unfold dget
  obtain ⟨p, hp, rfl⟩ := List.mem_map.mp h
  cases e : kvs.find? fun q => decide (q.1 = p.1) with
  | none =>
    have := List.find?_eq_none.mp e p hp
    simp at this
  | some q => exact ⟨q.2, rfl⟩
structure GOk (gs : Gr) (b : Bool) : Prop where
  gk : ∀ p ∈ gs, GK b p.1
  clo : ∀ p ∈ gs, (∃ q, dget gs p.2.e = some q ∧ q.s = p.2.s) ∧ ∃ q, dget gs p.2.o = some q
  few : gs.length ≤ 9500000
abbrev keysG (gs : Gr) : List D := gs.map (·.1)
theorem GOk.key {gs : Gr} {b : Bool} (g : GOk gs b) {k : D} (h : k ∈ keysG gs) : GK b k := by
  obtain ⟨p, hp, rfl⟩ := List.mem_map.mp h
  exact g.gk p hp
end Z
namespace Z
open Classical
noncomputable def ixU {α : Type} (l : List α) (x : α) : Nat := if h : ∃ j, l[j]? = some x then h.choose else 0
theorem nodup_ix {α : Type} {l : List α} (hn : l.Nodup) {i j : Nat} {x : α} (hi : l[i]? = some x) (hj : l[j]? = some x) : i = j := by
  obtain ⟨h1, e1⟩ := List.getElem?_eq_some_iff.mp hi
  obtain ⟨h2, e2⟩ := List.getElem?_eq_some_iff.mp hj
  exact (List.getElem_inj hn).mp (e1.trans e2.symm)
noncomputable def sgG (gs : Gr) (k : D) : Nat := ((dget gs k).map (·.s)).getD 0
noncomputable def evG (gs : Gr) (k : D) : D := ((dget gs k).map (·.e)).getD k
noncomputable def odG (gs : Gr) (k : D) : D := ((dget gs k).map (·.o)).getD k
abbrev T3 := Nat × Nat × Nat
structure RowOk (gs : Gr) (b : Bool) (row : List D) : Prop where
  g : GOk gs b
  nd : row.Nodup
  ok : ∀ k ∈ row, k ∈ keysG gs
  clo : ∀ k ∈ row, ∃ q, dget gs k = some q ∧ q.e ∈ row ∧ q.o ∈ row
  ne : row ≠ []
theorem RowOk.of {gs : Gr} {b : Bool} {row : List D} {a : D} (g : GOk gs b) (m : MetG (nxG gs) (· ∈ keysG gs) [a] row) : RowOk gs b row := ⟨g, m.nd, m.ok, fun k hk => by
  obtain ⟨q, h1, h2, h3⟩ := m.clo k hk
  unfold nxG at h1
  obtain ⟨q', h4, rfl⟩ := Option.map_eq_some_iff.mp h1
  exact ⟨q', h4, h2, h3⟩, by
  obtain ⟨t, ht⟩ := m.pre
  rw [ht]
  simp⟩
theorem RowOk.len {gs : Gr} {b : Bool} {row : List D} (h : RowOk gs b row) : row.length ≤ 9500000 := by
  have := nodup_len h.nd h.ok
  have := h.g.few
  simp at *
  omega
theorem RowOk.at {gs : Gr} {b : Bool} {row : List D} (h : RowOk gs b row) {k : D} (hk : k ∈ row) : ∃ q, dget gs k = some q ∧ q.s = sgG gs k ∧ q.e = evG gs k ∧ q.o = odG gs k ∧ q.e ∈ row ∧ q.o ∈ row := by
  obtain ⟨q, h1, h2, h3⟩ := h.clo k hk
  exact ⟨q, h1, by simp [sgG, h1], by simp [evG, h1], by simp [odG, h1], h2, h3⟩
end Z
namespace Z
open Classical
def evF (f : Nat → Nat) : Nat → Nat := fun m => f (2 * m)
def odF (f : Nat → Nat) : Nat → Nat := fun m => f (2 * m + 1)
def nxF (f : Nat → Nat) : Option ((Nat → Nat) × (Nat → Nat)) := some (evF f, odF f)
noncomputable def macF (l : List (Nat → Nat)) : List Q := l.map fun h => ⟨h 0, ixU l (evF h), ixU l (odF h)⟩
def Canon (M : List Q) (f : Nat → Nat) : Prop := ∃ fu l, bfs nxF fu 0 [f] = some l ∧ M = macF l
theorem Canon.eq {M M' : List Q} {f : Nat → Nat} (h : Canon M f) (h' : Canon M' f) : M = M' := by
  obtain ⟨a, l, h1, rfl⟩ := h
  obtain ⟨c, l', h2, rfl⟩ := h'
  have e1 := bfs_mono h1 (Nat.le_max_left a c)
  have e2 := bfs_mono h2 (Nat.le_max_right a c)
  rw [e1] at e2
  cases e2
  rfl
end Z
namespace Z
open Classical
def mkK (mark i : Nat) : D := .tup [.int mark, .int i]
/-- the states of a machine among others -/
structure Inn (gs : Gr) (mark : Nat) (m : List Q) : Prop where
  at' : ∀ (i : Nat) (q : Q), m[i]? = some q → dget gs (mkK mark i) = some ⟨q.s, mkK mark q.e, mkK mark q.o⟩
end Z
namespace Z
open Classical
/-- a least machine with this row -/
structure Lst (M : List Q) (f : Nat → Nat) (B : Nat) : Prop where
  mach : Mach M
  len : M.length ≤ B
  row : ∀ n, sgn M 0 n = f n
  can : Canon M f
theorem Inn.clo {gs : Gr} {mark : Nat} {m : List Q} (M : Mach m) (h : Inn gs mark m) {q : Q} (hq : q ∈ m) : (∃ w, dget gs (mkK mark q.e) = some w ∧ w.s = q.s) ∧ ∃ w, dget gs (mkK mark q.o) = some w :=
  ⟨⟨_, h.at' _ _ (Mach.at (M.he q hq)), M.hs q hq _ (Mach.at (M.he q hq))⟩, _, h.at' _ _ (Mach.at (M.ho q hq))⟩
end Z
namespace Z
open Classical
theorem nat_nodup_len : ∀ (n : Nat) (vs : List Nat), vs.Nodup → (∀ i ∈ vs, i < n) → vs.length ≤ n := by
  intro n vs hn hl
  have := nodup_len (L := List.range n) hn (fun x hx => List.mem_range.mpr (hl x hx))
  simpa using this
end Z
namespace Z
open Classical
/-- this expression makes a machine with this row -/
def MG (e : SE) (ρ : Env) (f : Nat → Nat) (B : Nat) : Prop := ∀ S, ∃ m S', e ρ S = some (.ok (machD m) S') ∧ Keep S S' ∧ Mach m ∧ (∀ n, sgn m 0 n = f n) ∧ m.length ≤ B
/-- and it is the least one -/
def ML (e : SE) (ρ : Env) (f : Nat → Nat) (B : Nat) : Prop := ∀ S, ∃ m S', e ρ S = some (.ok (machD m) S') ∧ Keep S S' ∧ Lst m f B
section
variable {e a b : SE} {ρ : Env} {f g : Nat → Nat} {A B : Nat}
theorem ML.mg (h : ML e ρ f B) : MG e ρ f B := fun S => let ⟨m, S', t, k, l⟩ := h S; ⟨m, S', t, k, l.mach, l.row, l.len⟩
end
end Z
namespace Z
open Classical
section
variable {S : Store} {n kx : Nat} {gs : Gr} {row : List D} {kd : D → Nat}
theorem RowOk.all (g : GOk gs true) (hnd : (keysG gs).Nodup) (hne : gs ≠ []) : RowOk gs true (keysG gs) := ⟨g, hnd, fun k hk => hk, fun k hk => by
  obtain ⟨q, hq⟩ := dget_some hk
  obtain ⟨⟨qe, he, _⟩, qo, ho⟩ := g.clo _ (dget_mem hq)
  exact ⟨q, hq, List.mem_map.mpr ⟨_, dget_mem he, rfl⟩, List.mem_map.mpr ⟨_, dget_mem ho, rfl⟩⟩, fun e => hne (List.map_eq_nil_iff.mp e)⟩
end
end Z
namespace Z
def Q.pd (q : Q) : PD := .tup [.int q.s, .int q.e, .int q.o]
end Z
namespace Z
/-- data of so much weight, so deep -/
def Dw (k b : Nat) (S : Store) (d : D) : Prop := ∃ x, dat S d = some x ∧ x.dep ≤ k ∧ x.sml 302 = true ∧ x.wgt ≤ b
theorem Dw.mono {k b : Nat} {S S' : Store} (h : LeL S S') {d : D} : Dw k b S d → Dw k b S' d := fun ⟨x, a, r⟩ => ⟨x, dat_mono h a, r⟩
theorem Dw.le {k b k' b' : Nat} (h : k ≤ k') (h' : b ≤ b') {S : Store} {d : D} : Dw k b S d → Dw k' b' S d := fun ⟨x, a, c, e, f⟩ => ⟨x, a, by omega, e, by omega⟩
theorem Dw.dk {k b : Nat} {S : Store} {d : D} : Dw k b S d → Dk k S d := fun ⟨x, a, c, _⟩ => ⟨x, a, c⟩
theorem pdL_w {g : Nat → Option PD} {k b : Nat} : ∀ {ds : List D}, (∀ d ∈ ds, ∃ x, d.pd g = some x ∧ x.dep ≤ k ∧ x.sml 302 = true ∧ x.wgt ≤ b) → ∃ xs, pdL g ds = some xs ∧ depL xs ≤ k ∧ smlL 302 xs = true ∧ wgtL xs ≤ ds.length * (b + 1)
  | [], _ => ⟨[], rfl, by simp [depL], rfl, by simp [wgtL]⟩
  | d :: ds, h => by
    obtain ⟨x, h1, h2, h3, h4⟩ := h d (by simp)
    obtain ⟨xs, g1, g2, g3, g4⟩ := pdL_w fun e he => h e (List.mem_cons_of_mem _ he)
    refine ⟨x :: xs, by rw [pdL, h1, g1], by simp [depL]; omega, by simp [smlL, h3, g3], ?_⟩
    simp only [wgtL, List.length_cons, Nat.add_mul]
    omega
theorem Dw.tup {k b : Nat} {S : Store} {ds : List D} (h : ∀ d ∈ ds, Dw k b S d) : Dw (k + 1) (ds.length * (b + 1)) S (.tup ds) := by
  obtain ⟨xs, h1, h2, h3, h4⟩ := pdL_w (g := rdR 70 S) (k := k) (b := b) h
  exact ⟨.tup xs, by unfold dat; rw [D.pd, h1]; rfl, by simp [PD.dep]; omega, by simp [PD.sml, h3], by simp [PD.wgt]; exact h4⟩
theorem Dw.int {k b : Nat} {S : Store} {i : Int} (h : i.natAbs.log2 < 301) (hb : 302 ≤ b) : Dw k b S (.int i) := ⟨.int i, by simp [dat, D.pd], by simp [PD.dep], by simp [PD.sml]; omega, by simp [PD.wgt]; omega⟩
theorem Dw.bl {k b : Nat} {S : Store} (i : Bool) : Dw k b S (.bl i) := ⟨.bl i, by simp [dat, D.pd], by simp [PD.dep], rfl, by simp [PD.wgt]⟩
theorem Dw.non {k b : Nat} {S : Store} : Dw k b S .non := ⟨.non, by simp [dat, D.pd], by simp [PD.dep], rfl, by simp [PD.wgt]⟩
theorem Dw.str {k b : Nat} {S : Store} {s : List Nat} (h : s.length ≤ b) : Dw k b S (.str s) := ⟨.str s, by simp [dat, D.pd], by simp [PD.dep], rfl, by simp [PD.wgt]; exact h⟩
theorem Dw.ref {k b n : Nat} {S : Store} {ds : List D} (hk : k ≤ 60) (g : S[n]? = some (.lst ds)) (h : ∀ d ∈ ds, Dw k b S d) : Dw (k + 1) (ds.length * (b + 1)) S (.ref n) := by
  obtain ⟨xs, h1, h2, h3, h4⟩ := pdL_w (g := rdR 70 S) (k := k) (b := b) h
  refine ⟨.lst xs, ?_, by simp [PD.dep]; omega, by simp [PD.sml, h3], by simp [PD.wgt]; exact h4⟩
  unfold dat
  rw [D.pd, rdR, g]
  dsimp only
  rw [pdL_bnd (fun n x e hd => rdR_fuel 70 69 n x e (by omega)) ds xs h1 (Nat.le_refl _)]
  rfl
/-- a thing in a state -/
abbrev En (S : Store) (d : D) : Prop := Dw 3 310 S d
/-- a state, or what stands for it -/
def Sx (S : Store) (y : D) : Prop := (∃ xs, y = .tup xs ∧ xs.length ≤ 4 ∧ ∀ x ∈ xs, En S x) ∨ (Dw 5 1300 S y ∧ ∀ xs, y = .tup xs → xs.length ≠ 3)
theorem Sx.mono {S S' : Store} (h : LeL S S') {y : D} : Sx S y → Sx S' y
  | .inl ⟨xs, e, l, g⟩ => .inl ⟨xs, e, l, fun x hx => (g x hx).mono h⟩
  | .inr ⟨g, n⟩ => .inr ⟨g.mono h, n⟩
end Z
namespace Z
open Classical
inductive LL (B : Nat) : List (List Q) → List (Nat → Nat) → Prop
  | nil : LL B [] []
  | cons {m : List Q} {f : Nat → Nat} {ms : List (List Q)} {fs : List (Nat → Nat)} : Lst m f B → LL B ms fs → LL B (m :: ms) (f :: fs)
theorem LL.eq {A B : Nat} {ms ms' : List (List Q)} {fs : List (Nat → Nat)} (h : LL A ms fs) (h' : LL B ms' fs) : ms = ms' := by
  induction h generalizing ms' with
  | nil => cases h'; rfl
  | cons l _ ih =>
    cases h' with
    | cons l' h2 => rw [l.can.eq l'.can, ih h2]
theorem LL.len {A : Nat} {ms : List (List Q)} {fs : List (Nat → Nat)} (h : LL A ms fs) : ms.length = fs.length := by
  induction h with
  | nil => rfl
  | cons _ _ ih => simp [ih]
theorem LL.all {A : Nat} {ms : List (List Q)} {fs : List (Nat → Nat)} (h : LL A ms fs) : ∀ m ∈ ms, Mach m ∧ m.length ≤ A := by
  induction h with
  | nil => intro m hm; cases hm
  | cons l _ ih =>
    intro m hm
    rcases List.mem_cons.mp hm with rfl | hm
    · exact ⟨l.mach, l.len⟩
    · exact ih m hm
end Z
namespace Z
open Classical
theorem nodup_le9 (P L : List D) (h : P.Nodup) (hs : ∀ q ∈ P, q ∈ L) : P.length ≤ L.length := nodup_len h hs
noncomputable def lk9 {α : Type} (l : List (D × α)) (p : D) : Option α := (l.find? fun e => decide (e.1 = p)).map (·.2)
noncomputable def ud9 {α : Type} (l : List (D × α)) (p : D) (a : α) : List (D × α) := if (l.any fun e => decide (e.1 = p)) = true then l.map (fun e => if e.1 = p then (p, a) else e) else l ++ [(p, a)]
theorem lk_nil9 {α : Type} (p : D) : lk9 ([] : List (D × α)) p = none := rfl
theorem lk_cons9 {α : Type} (e : D × α) (l : List (D × α)) (p : D) : lk9 (e :: l) p = if e.1 = p then some e.2 else lk9 l p := by
  by_cases h : e.1 = p
  · simp [lk9, List.find?_cons, h]
  · simp [lk9, List.find?_cons, h]
theorem lk_any9 {α : Type} (p : D) : ∀ l : List (D × α), (l.any fun e => decide (e.1 = p)) = (lk9 l p).isSome
  | [] => rfl
  | e :: l => by
    rw [List.any_cons, lk_any9 p l, lk_cons9]
    by_cases h : e.1 = p
    · simp [h]
    · simp [h]
theorem lk_app9 {α : Type} (p q : D) (a : α) : ∀ l : List (D × α), lk9 (l ++ [(q, a)]) p = if (lk9 l p).isSome = true then lk9 l p else if q = p then some a else none
  | [] => by simp [lk_cons9, lk_nil9]
  | e :: l => by
    rw [List.cons_append, lk_cons9, lk_cons9, lk_app9 p q a l]
    by_cases h : e.1 = p
    · simp [h]
    · simp [h]
theorem lk_map9 {α : Type} (p q : D) (a : α) : ∀ l : List (D × α), lk9 (l.map fun e => if e.1 = q then (q, a) else e) p = if p = q then (lk9 l p).map fun _ => a else lk9 l p
  | [] => by simp [lk_nil9]
  | e :: l => by
    rw [List.map_cons, lk_cons9, lk_map9 p q a l, lk_cons9]
    by_cases h : e.1 = q
    · by_cases g : q = p
      · subst g; simp [h]
      · have g' : ¬ p = q := fun x => g x.symm
        have g2 : ¬ e.1 = p := fun x => g (h.symm.trans x)
        simp [h, g, g', g2]
    · by_cases g : e.1 = p
      · have g' : ¬ p = q := fun x => h (g.trans x)
        simp [h, g, g']
      · simp [h, g]
theorem lk_ud9 {α : Type} (l : List (D × α)) (p q : D) (a : α) : lk9 (ud9 l q a) p = if p = q then some a else lk9 l p := by
  unfold ud9
  rw [lk_any9]
  by_cases h : (lk9 l q).isSome = true
  · rw [if_pos h, lk_map9]
    by_cases g : p = q
    · subst g
      obtain ⟨x, hx⟩ := Option.isSome_iff_exists.mp h
      simp [hx]
    · simp [g]
  · rw [if_neg h, lk_app9]
    by_cases g : p = q
    · subst g; simp [h]
    · have g' : ¬ q = p := fun x => g x.symm
      simp only [g, g', if_false]
      cases hh : lk9 l p <;> simp
abbrev PF9 := D → Option Nat
noncomputable def setF9 (F : PF9) (s : D) (n : Nat) : PF9 := fun q => if q = s then some n else F q
noncomputable def mis9 (F : PF9) (row : List D) : Nat := (row.filter fun q => (F q).isNone).length
noncomputable def sm9 (F : PF9) : List D → Nat
  | [] => 0
  | q :: r => (F q).getD 0 + sm9 F r
noncomputable def Ltm9 (row : List D) (F' F : PF9) : Prop := mis9 F' row < mis9 F row ∨ (mis9 F' row = mis9 F row ∧ sm9 F' row < sm9 F row)
theorem Ltm9.trans {row : List D} {F'' F' F : PF9} (a : Ltm9 row F'' F') (b : Ltm9 row F' F) : Ltm9 row F'' F := by
  unfold Ltm9 at *; omega
structure PlD9 (row : List D) (l : List (D × Nat)) : Prop where
  nd : (l.map (·.1)).Nodup
  sub : ∀ q ∈ l.map (·.1), q ∈ row
theorem PlD9.len {row : List D} {l : List (D × Nat)} (P : PlD9 row l) : l.length ≤ row.length := by
  have := nodup_le9 _ _ P.nd P.sub
  simpa using this
/-- the walk from u by the bits of n ends at a marked one -/
noncomputable def MW (mk : D → Prop) (fe fo : D → D) (u : D) (n : Nat) : Prop := if h : n = 0 then mk u else MW mk fe fo (if n % 2 = 0 then fe u else fo u) (n / 2)
  termination_by n
  decreasing_by exact Nat.div_lt_self (Nat.pos_of_ne_zero h) (by decide)
section
variable {mk : D → Prop} {fe fo : D → D}
structure PI9 (row : List D) (mk : D → Prop) (fe fo : D → D) (F : PF9) : Prop where
  val : ∀ p n, F p = some n → p ∈ row ∧ MW mk fe fo p n
  mrk : ∀ p ∈ row, mk p → F p = some 0
theorem PI9.set {row : List D} {F : PF9} {s : D} {n : Nat} (P : PI9 row mk fe fo F) (hs : s ∈ row) (hd : MW mk fe fo s n) (h : ∀ u, F s = some u → n < u) : PI9 row mk fe fo (setF9 F s n) := by
  refine ⟨fun p k hk => ?_, fun p hp hm => ?_⟩
  · unfold setF9 at hk
    by_cases c : p = s
    · rw [if_pos c] at hk
      cases hk
      rw [c]
      exact ⟨hs, hd⟩
    · rw [if_neg c] at hk
      exact P.val p k hk
  · unfold setF9
    by_cases c : p = s
    · subst c
      have := h 0 (P.mrk p hp hm)
      omega
    · rw [if_neg c]
      exact P.mrk p hp hm
end
end Z
namespace Z
abbrev PP := Nat × Nat
section
variable (m1 m2 : List Q)
def nx1 (p : PP) : PP := ((stq m1 p.1).e, (stq m2 p.2).e)
def nx2 (p : PP) : PP := ((stq m1 p.1).o, (stq m2 p.2).o)
inductive RchP : PP → Prop where
  | base : RchP (0, 0)
  | one {p : PP} : RchP p → RchP (nx1 m1 m2 p)
  | two {p : PP} : RchP p → RchP (nx2 m1 m2 p)
def addP (row : List PP) (p : PP) : List PP := if p ∈ row then row else row ++ [p]
structure RowI (row : List PP) (k : Nat) : Prop where
  nd : row.Nodup
  bd : ∀ p ∈ row, p.1 < m1.length ∧ p.2 < m2.length
  zero : (0, 0) ∈ row
  cl : ∀ (i : Nat) (q : PP), i < k → row[i]? = some q → nx1 m1 m2 q ∈ row ∧ nx2 m1 m2 q ∈ row
  rch : ∀ p ∈ row, RchP m1 m2 p
end
theorem mem_add {row : List PP} {p q : PP} : q ∈ addP row p ↔ q ∈ row ∨ q = p := by
  unfold addP
  by_cases h : p ∈ row
  · rw [if_pos h]; exact ⟨.inl, fun x => x.elim id fun e => e ▸ h⟩
  · rw [if_neg h]; simp
theorem add_nd {row : List PP} {p : PP} (h : row.Nodup) : (addP row p).Nodup := by
  unfold addP
  by_cases c : p ∈ row
  · rw [if_pos c]; exact h
  · rw [if_neg c]; exact List.nodup_append.mpr ⟨h, by simp, fun a ha b hb => by simp at hb; subst hb; rintro rfl; exact c ha⟩
theorem add_get' {row : List PP} {p q : PP} {i : Nat} (hi : i < row.length) (h : (addP row p)[i]? = some q) : row[i]? = some q := by
  unfold addP at h
  split at h
  · exact h
  · rw [List.getElem?_append_left hi] at h; exact h
theorem add_len {row : List PP} {p : PP} : row.length ≤ (addP row p).length := by
  unfold addP; split <;> simp
section
variable {m1 m2 : List Q} (M1 : Mach m1) (M2 : Mach m2)
include M1 M2
theorem RowI.start : RowI m1 m2 [(0, 0)] 0 := ⟨by simp, fun p hp => by simp at hp; subst hp; exact ⟨M1.pos, M2.pos⟩, by simp, fun i q h => by omega, fun p hp => by simp at hp; subst hp; exact .base⟩
theorem nx1_bd {p : PP} (h : p.1 < m1.length ∧ p.2 < m2.length) : (nx1 m1 m2 p).1 < m1.length ∧ (nx1 m1 m2 p).2 < m2.length := ⟨M1.he _ (Mach.mem h.1), M2.he _ (Mach.mem h.2)⟩
theorem nx2_bd {p : PP} (h : p.1 < m1.length ∧ p.2 < m2.length) : (nx2 m1 m2 p).1 < m1.length ∧ (nx2 m1 m2 p).2 < m2.length := ⟨M1.ho _ (Mach.mem h.1), M2.ho _ (Mach.mem h.2)⟩
theorem RowI.step {row : List PP} {k : Nat} {q : PP} (R : RowI m1 m2 row k) (hq : row[k]? = some q) : RowI m1 m2 (addP (addP row (nx1 m1 m2 q)) (nx2 m1 m2 q)) (k + 1) := by
  have hqm := List.mem_of_getElem? hq
  refine ⟨add_nd (add_nd R.nd), fun p hp => ?_, mem_add.mpr (.inl (mem_add.mpr (.inl R.zero))), fun i p hi hp => ?_, fun p hp => ?_⟩
  · rcases mem_add.mp hp with hp | rfl
    · rcases mem_add.mp hp with hp | rfl
      · exact R.bd p hp
      · exact nx1_bd M1 M2 (R.bd q hqm)
    · exact nx2_bd M1 M2 (R.bd q hqm)
  · have hk := (List.getElem?_eq_some_iff.mp hq).1
    have hl := add_len (row := row) (p := nx1 m1 m2 q)
    have hp := add_get' (by omega) (add_get' (by omega) hp)
    by_cases c : i = k
    · subst c
      rw [hq] at hp
      cases hp
      exact ⟨mem_add.mpr (.inl (mem_add.mpr (.inr rfl))), mem_add.mpr (.inr rfl)⟩
    · obtain ⟨a, b⟩ := R.cl i p (by omega) hp
      exact ⟨mem_add.mpr (.inl (mem_add.mpr (.inl a))), mem_add.mpr (.inl (mem_add.mpr (.inl b)))⟩
  · rcases mem_add.mp hp with hp | rfl
    · rcases mem_add.mp hp with hp | rfl
      · exact R.rch p hp
      · exact .one (R.rch q hqm)
    · exact .two (R.rch q hqm)
end
theorem nodup_leP : ∀ (P L : List PP), P.Nodup → (∀ q ∈ P, q ∈ L) → P.length ≤ L.length
  | [], L, _, _ => Nat.zero_le _
  | q :: P, L, h, hs => by
    obtain ⟨h1, h2⟩ := List.nodup_cons.mp h
    have hq := hs q (by simp)
    have := nodup_leP P (L.erase q) h2 fun y hy => by
      have hy' := hs y (List.mem_cons_of_mem _ hy)
      exact (List.mem_erase_of_ne (by rintro rfl; exact h1 hy)).mpr hy'
    rw [List.length_erase_of_mem hq] at this
    have := List.length_pos_of_mem hq
    simp; omega
def grid (a b : Nat) : List PP := (List.range a).flatMap fun x => (List.range b).map fun y => (x, y)
theorem grid_len (a b : Nat) : (grid a b).length = a * b := by
  induction a with
  | zero => simp [grid]
  | succ a ih =>
    unfold grid at ih ⊢
    rw [List.range_succ, List.flatMap_append, List.length_append, ih]
    simp [Nat.succ_mul]
theorem grid_mem {a b : Nat} {p : PP} (h : p.1 < a ∧ p.2 < b) : p ∈ grid a b := by
  unfold grid
  rw [List.mem_flatMap]
  exact ⟨p.1, List.mem_range.mpr h.1, List.mem_map.mpr ⟨p.2, List.mem_range.mpr h.2, rfl⟩⟩
theorem RowI.len {m1 m2 : List Q} {row : List PP} {k : Nat} (R : RowI m1 m2 row k) : row.length ≤ m1.length * m2.length := by
  rw [← grid_len]
  exact nodup_leP row _ R.nd fun q hq => grid_mem (R.bd q hq)
/-- the row of all pairs met -/
abbrev Met (m1 m2 : List Q) (row : List PP) : Prop := RowI m1 m2 row row.length
theorem Met.closed {m1 m2 : List Q} {row : List PP} (R : Met m1 m2 row) {p : PP} (h : p ∈ row) : nx1 m1 m2 p ∈ row ∧ nx2 m1 m2 p ∈ row := by
  obtain ⟨i, hi⟩ := List.getElem?_of_mem h
  exact R.cl i p (List.getElem?_eq_some_iff.mp hi).1 hi
theorem Met.all {m1 m2 : List Q} {row : List PP} (R : Met m1 m2 row) {p : PP} (h : RchP m1 m2 p) : p ∈ row := by
  induction h with
  | base => exact R.zero
  | one _ ih => exact (R.closed ih).1
  | two _ ih => exact (R.closed ih).2
end Z
namespace Z
/-- a store that only grew -/
theorem grown {S S' : Store} (hl : S.length ≤ S'.length) (h : ∀ i, i < S.length → S'[i]? = S[i]?) : ∃ G, S' = S ++ G := by
  refine ⟨S'.drop S.length, ?_⟩
  apply List.ext_getElem?
  intro i
  by_cases hi : i < S.length
  · rw [List.getElem?_append_left hi, h i hi]
  · rw [List.getElem?_append_right (by omega), List.getElem?_drop]
    congr 1; omega
end Z
namespace Z
abbrev PF := PP → Option Nat
def setF' (F : PF) (s : PP) (n : Nat) : PF := fun q => if q = s then some n else F q
def mis (F : PF) (row : List PP) : Nat := (row.filter fun q => (F q).isNone).length
def sm (F : PF) : List PP → Nat
  | [] => 0
  | q :: r => (F q).getD 0 + sm F r
def Ltm (row : List PP) (F' F : PF) : Prop := mis F' row < mis F row ∨ (mis F' row = mis F row ∧ sm F' row < sm F row)
theorem Ltm.trans {row : List PP} {F'' F' F : PF} (a : Ltm row F'' F') (b : Ltm row F' F) : Ltm row F'' F := by
  unfold Ltm at *; omega
section
variable (m1 m2 : List Q)
def Diff (p : PP) (n : Nat) : Prop := sgn m1 p.1 n ≠ sgn m2 p.2 n
/-- what stands: differing places, the marked pairs at 0 -/
structure PlI (row : List PP) (F : PF) : Prop where
  val : ∀ p n, F p = some n → p ∈ row ∧ Diff m1 m2 p n
  mrk : ∀ p, p ∈ row → Diff m1 m2 p 0 → F p = some 0
end
section
variable {m1 m2 : List Q} (M1 : Mach m1) (M2 : Mach m2)
include M1 M2
theorem PlI.set {row : List PP} {F : PF} {s : PP} {n : Nat} (P : PlI m1 m2 row F) (hs : s ∈ row) (hd : Diff m1 m2 s n) (h : ∀ u, F s = some u → n < u) : PlI m1 m2 row (setF' F s n) := by
  refine ⟨fun p k hp => ?_, fun p hp h0 => ?_⟩
  · unfold setF' at hp
    split at hp
    · rename_i e; subst e; cases hp; exact ⟨hs, hd⟩
    · exact P.val p k hp
  · unfold setF'
    split
    · rename_i e
      subst e
      have := h 0 (P.mrk p hp h0)
      omega
    · exact P.mrk p hp h0
end
structure PlD (row : List PP) (l : List (PP × Nat)) : Prop where
  nd : (l.map (·.1)).Nodup
  sub : ∀ q ∈ l.map (·.1), q ∈ row
theorem PlD.len {row : List PP} {l : List (PP × Nat)} (P : PlD row l) : l.length ≤ row.length := by
  have := nodup_leP _ _ P.nd P.sub
  simpa using this
end Z
namespace Z
/-- a pair that is as it ought to be in a row -/
def goodP (m1 m2 : List Q) (row : List PP) (p : PP) : Prop := p.1 < m1.length ∧ p.2 < m2.length ∧ (stq m1 p.1).s = (stq m2 p.2).s ∧ nx1 m1 m2 p ∈ row ∧ nx2 m1 m2 p ∈ row
instance (m1 m2 : List Q) (row : List PP) (p : PP) : Decidable (goodP m1 m2 row p) := by unfold goodP; infer_instance
end Z
namespace Z
open Classical
def putF (fs : List D) : Tm → List D
  | .row s => fs ++ [.tup [.str wRow, .str s]]
  | .sign i t => putF fs t ++ [.tup [.str wSign, .int i, .int ((putF fs t).length - 1 : Nat)]]
  | .beh t => putF fs t ++ [.tup [.str wBeh, .int ((putF fs t).length - 1 : Nat)]]
  | .zip a b => putF (putF fs a) b ++ [.tup [.str wZip, .int ((putF fs a).length - 1 : Nat), .int ((putF (putF fs a) b).length - 1 : Nat)]]
/-- all the terms of a book, laid -/
def laidL : Eqs → List D → List D × List (D × D)
  | [], fs => (fs, [])
  | e :: r, fs => ((laidL r (putF fs e.2)).1, (.str e.1, .int ((putF fs e.2).length - 1 : Nat)) :: (laidL r (putF fs e.2)).2)
def sizeL : Eqs → Nat
  | [] => 0
  | e :: r => e.2.size + sizeL r
end Z
namespace Z
open Classical
structure NO where
  s : Option Nat
  e : D
  o : D
def oD : Option Nat → D
  | none => .non
  | some k => .int (k : Nat)
structure VOo (UL : List D) (op : D → NO) (P : Store → Prop) (fr nm : D) : Prop where
  key : ∀ u ∈ UL, nkOk u = true
  dk : ∀ u ∈ UL, ∀ S, Dk 10 S u
  e : ∀ u ∈ UL, (op u).e ∈ UL
  o : ∀ u ∈ UL, (op u).o ∈ UL
  s : ∀ u ∈ UL, ∀ k, (op u).s = some k → (op (op u).e).s = some k
  kp : ∀ S S', Keep S S' → P S → P S'
  run : ∀ u ∈ UL, ∀ S, P S → ∃ sh S1, R_opened_n [fr, nm, u] S = some (.ok sh S1) ∧ Keep S S1 ∧ (∀ T, R_halves [sh] T = some (.ok (.tup [(op u).e, (op u).o]) T)) ∧ ∀ T, R_first_sign [sh] T = some (.ok (oD (op u).s) T)
  few : UL.length ≤ 9500000
end Z
namespace Z
open Classical
def setL (op : D → NO) : Nat → D → Option Nat
  | 0, u => (op u).s
  | n + 1, u => match (op u).s with
    | some k => some k
    | none => setL op n (op u).e
noncomputable def sv (op : D → NO) (u : D) : Option Nat := if h : ∃ k n, setL op n u = some k then some h.choose else none
end Z
namespace Z
open Classical
inductive RchO (op : D → NO) (t : D) : D → Prop where
  | base : RchO op t t
  | one {u : D} : RchO op t u → RchO op t (op u).e
  | two {u : D} : RchO op t u → RchO op t (op u).o
section
variable {op : D → NO} {us UL : List D}
theorem VOo.rch {P : Store → Prop} {fr nm t : D} (U : VOo UL op P fr nm) : VOo (UL.filter fun u => decide (RchO op t u)) op P fr nm := by
  have h : ∀ {u}, u ∈ UL.filter (fun u => decide (RchO op t u)) → u ∈ UL ∧ RchO op t u := fun hu => ⟨(List.mem_filter.mp hu).1, of_decide_eq_true (List.mem_filter.mp hu).2⟩
  exact ⟨fun u hu => U.key u (h hu).1, fun u hu => U.dk u (h hu).1, fun u hu => List.mem_filter.mpr ⟨U.e u (h hu).1, decide_eq_true (.one (h hu).2)⟩, fun u hu => List.mem_filter.mpr ⟨U.o u (h hu).1, decide_eq_true (.two (h hu).2)⟩, fun u hu => U.s u (h hu).1, U.kp, fun u hu => U.run u (h hu).1, Nat.le_trans (List.length_filter_le ..) U.few⟩
end
end Z
namespace Z
open Classical
abbrev OW := List (Option Nat)
def wD (w : OW) : D := .tup (w.map oD)
/-- many is a turn of t -/
def trn (t : OW) (m : Nat) : Prop := t.length % m = 0 ∧ (List.replicate (t.length / m) (t.take m)).flatten = t
/-- the first of them, from k on, n looks -/
noncomputable def shortF (t : OW) : Nat → Nat → OW
  | _, 0 => t
  | k, n + 1 => if trn t k then t.take k else shortF t (k + 1) n
noncomputable def shortT (t : OW) : OW := shortF t 1 (t.length - 1)
end Z
namespace Z
open Classical
noncomputable def wheelL : Nat → OW → OW → OW × OW
  | 0, w, t => (w, t)
  | n + 1, w, t => match w.getLast?, t.getLast? with
    | some x, some y => if x = y then wheelL n w.dropLast (y :: t.dropLast) else (w, t)
    | _, _ => (w, t)
noncomputable def wheelP (w t : OW) : OW × OW := wheelL w.length w (shortT t)
def whD (p : OW × OW) : D := .tup [.str [119, 104, 101, 101, 108], wD p.1, wD p.2]
end Z
namespace Z
open Classical
def opF (w : Nat) (d : Nat) (F : D) (s l : Nat) : List (String × D) := [("word", .ref w), ("drop", .int d), ("form", F), ("seen", .ref s), ("lows", .ref l)]
structure OpS (S0 T : Store) (x w s l : Nat) (W : List D) (d : Nat) (F : D) (sn lw : List (D × D)) : Prop where
  gx : T[x]? = some (.ins "Opening" (opF w d F s l))
  gw : T[w]? = some (.lst W)
  gs : DA T s true sn
  gl : DA T l true lw
  kp : Keep S0 T
  b : S0.length ≤ x ∧ S0.length ≤ w ∧ S0.length ≤ s ∧ S0.length ≤ l
  d1 : x ≠ w ∧ x ≠ s ∧ x ≠ l ∧ w ≠ s ∧ w ≠ l ∧ s ≠ l
end Z
namespace Z
open Classical
section
variable {S0 T : Store} {x w s l d : Nat} {W : List D} {F : D} {sn lw : List (D × D)} {a b : Nat} {fs : List D} {nums : List (D × D)} {st : D} {o4 : Option D}
abbrev e5 (a b : Nat) (st : D) (x : Nat) (o4 : Option D) : Env := [some (.ref a), some (.ref b), some st, some (.ref x), o4]
noncomputable abbrev opB : SS := lb_opened_n_1 R_Opening_come_again_n R_Opening_step
noncomputable abbrev opT : ST := tVal (e2 neD (e2 ixD (eFld "Opening" "form" (eVar 3)) (eC (.int 0))) (eC (.str [122, 105, 112])))
end
end Z
namespace Z
open Classical
/-- a wheel's halves -/
noncomputable def hvW (p : OW × OW) : (OW × OW) × (OW × OW) :=
  let q : OW × OW := if p.1.length % 2 = 1 then (p.1 ++ p.2.take 1, p.2.drop 1 ++ p.2.take 1) else p
  (wheelP (L2.evL q.1) (L2.evL (q.2 ++ q.2)), wheelP (L2.evL (q.1.drop 1)) (L2.evL ((q.2 ++ q.2).drop 1)))
end Z
namespace Z
open Classical
section
variable {S0 T : Store} {x w s l d : Nat} {u : OW} {sn lw : List (D × D)}
def kyS (name : List Nat) (d : Nat) : D := .tup [.str name, .int (d : Nat)]
/-- what stood there, else the size -/
noncomputable def bfO (sn : List (D × D)) (name : List Nat) (d sz : Nat) : Nat := match dget sn (kyS name d) with
  | some (.int b) => b.toNat
  | _ => sz
structure IntV (kvs : List (D × D)) : Prop where
  int : ∀ k v, dget kvs k = some v → ∃ n : Nat, v = .int (n : Nat)
inductive Again (u : OW) (d : Nat) (name : List Nat) (sn lw : List (D × D)) : Option (OW × OW) → Prop
  | seen : bfO sn name d u.length < u.length → Again u d name sn lw (some (wheelP (u.take (bfO sn name d u.length)) (u.drop (bfO sn name d u.length))))
  | low : ¬ bfO sn name d u.length < u.length → bfO lw name u.length (d + 1) ≤ d → Again u d name sn lw (some (wheelP u [none]))
  | no : ¬ bfO sn name d u.length < u.length → ¬ bfO lw name u.length (d + 1) ≤ d → Again u d name sn lw none
end
end Z
namespace Z
open Classical
inductive OR where
  | zip (u : OW) (d p q : Nat)
  | wheel (p : OW × OW)
/-- how an opening goes on -/
inductive Opens (fs : List D) (nums : List (D × D)) : OW → Nat → D → List (D × D) → List (D × D) → OR → Prop
  | zip {u : OW} {d p q : Nat} {sn lw : List (D × D)} : Opens fs nums u d (.tup [.str wZip, .int p, .int q]) sn lw (.zip u d p q)
  | beh {u : OW} {d i : Nat} {F : D} {sn lw : List (D × D)} {r : OR} : fs[i]? = some F → Opens fs nums u (d + 1) F sn lw r → Opens fs nums u d (.tup [.str wBeh, .int i]) sn lw r
  | sign {u : OW} {d i k : Nat} {F : D} {sn lw : List (D × D)} {r : OR} : fs[i]? = some F → u.length < 1000 → Opens fs nums (if d = 0 then u ++ [some k] else u) (d - 1) F sn lw r → Opens fs nums u d (.tup [.str wSign, .int k, .int i]) sn lw r
  | again {u : OW} {d : Nat} {name : List Nat} {sn lw : List (D × D)} {p : OW × OW} : u.length ≤ 1000 → sn.length < 16000000 → lw.length < 16000000 → Again u d name sn lw (some p) → Opens fs nums u d (.tup [.str wRow, .str name]) sn lw (.wheel p)
  | row {u : OW} {d g : Nat} {name : List Nat} {F : D} {sn lw : List (D × D)} {r : OR} : u.length ≤ 1000 → sn.length < 16000000 → lw.length < 16000000 → Again u d name sn lw none → fget nums (.str name) = some (.int g) → fs[g]? = some F →
      Opens fs nums u d F (dput sn (kyS name d) (.int (u.length : Nat))) (dput lw (kyS name u.length) (.int (d : Nat))) r → Opens fs nums u d (.tup [.str wRow, .str name]) sn lw r
theorem Again.det {u : OW} {d : Nat} {name : List Nat} {sn lw : List (D × D)} {a b : Option (OW × OW)} (h : Again u d name sn lw a) (h' : Again u d name sn lw b) : a = b := by
  cases h <;> cases h' <;> first | rfl | (exfalso; omega) | contradiction
theorem dget_dput (kvs : List (D × D)) (k v k' : D) : dget (dput kvs k v) k' = if k' = k then some v else dget kvs k' := by
  have e : dput kvs k v = ud9 kvs k v := by
    unfold dput ud9
    split
    · refine List.map_congr_left fun p _ => ?_
      by_cases h : p.1 = k
      · simp [h]
      · simp [h]
    · rfl
  rw [e]
  exact lk_ud9 kvs k' k v
theorem IntV.put {kvs : List (D × D)} (h : IntV kvs) (k : D) (n : Nat) : IntV (dput kvs k (.int (n : Nat))) := ⟨fun k' v hv => by
  rw [dget_dput] at hv
  by_cases c : k' = k
  · rw [if_pos c] at hv
    cases hv
    exact ⟨n, rfl⟩
  · rw [if_neg c] at hv
    exact h.int k' v hv⟩
theorem IntV.nil : IntV [] := ⟨fun k v h => by cases h⟩
section
variable {S0 : Store} {x w s l a b : Nat} {fs : List D} {nums : List (D × D)} {st : D}
def LoopR (S0 : Store) (x w s l a b : Nat) (st : D) (o4 : Option D) (T : Store) : OR → Prop
  | .zip u' d' p q => ∃ o4' T' sn' lw', sWh opT opB (e5 a b st x o4) T = some (.nx (e5 a b st x o4') T') ∧ OpS S0 T' x w s l (u'.map oD) d' (.tup [.str wZip, .int p, .int q]) sn' lw'
  | .wheel p => ∃ T', sWh opT opB (e5 a b st x o4) T = some (.rt (whD p) T') ∧ Keep S0 T'
theorem LoopR.go {S0 : Store} {x w s l a b : Nat} {st : D} {o4 o4' : Option D} {T T1 : Store} (e : sWh opT opB (e5 a b st x o4) T = sWh opT opB (e5 a b st x o4') T1) : ∀ {r : OR}, LoopR S0 x w s l a b st o4' T1 r → LoopR S0 x w s l a b st o4 T r
  | .zip u d p q, h => by
    obtain ⟨o, T', sn', lw', h1, h2⟩ := h
    exact ⟨o, T', sn', lw', e.trans h1, h2⟩
  | .wheel p, h => by
    obtain ⟨T', h1, h2⟩ := h
    exact ⟨T', e.trans h1, h2⟩
def pastP (d p q : Nat) : Nat × Nat × Nat × Nat := if d % 2 = 0 then (d / 2, p, d / 2, q) else (d / 2, q, d / 2 + 1, p)
end
end Z
namespace Z
open Classical
def hdO : OW → Option Nat
  | [] => none
  | x :: _ => x
/-- states: ropes and wheels -/
inductive VS where
  | rope (u : OW) (d i : Nat)
  | wheel (p : OW × OW)
/-- what an opening shows: the first sign, and the two states behind it -/
noncomputable def show3 : OR → Option Nat × VS × VS
  | .zip u d p q => (hdO u, if u.length % 2 = 1 then (.rope (L2.evL u) (pastP d p q).2.2.1 (pastP d p q).2.2.2, .rope (L2.evL (u.drop 1)) (pastP d p q).1 (pastP d p q).2.1) else (.rope (L2.evL u) (pastP d p q).1 (pastP d p q).2.1, .rope (L2.evL (u.drop 1)) (pastP d p q).2.2.1 (pastP d p q).2.2.2))
  | .wheel p => (hdO (p.1 ++ p.2), .wheel (hvW p).1, .wheel (hvW p).2)
/-- how a state is opened -/
inductive OpenV (fs : List D) (nums : List (D × D)) : VS → OR → Prop
  | rope {u : OW} {d i : Nat} {F : D} {r : OR} : fs[i]? = some F → Opens fs nums u d F [] [] r → OpenV fs nums (.rope u d i) r
  | wheel (p : OW × OW) : OpenV fs nums (.wheel p) (.wheel p)
end Z
namespace Z
open Classical
/-- at i stands the form of t -/
inductive FrmAt (fs : List D) : Nat → Tm → Prop
  | row {i : Nat} {s : List Nat} : fs[i]? = some (.tup [.str wRow, .str s]) → FrmAt fs i (.row s)
  | sign {i j k : Nat} {t : Tm} : fs[i]? = some (.tup [.str wSign, .int k, .int j]) → FrmAt fs j t → FrmAt fs i (.sign k t)
  | beh {i j : Nat} {t : Tm} : fs[i]? = some (.tup [.str wBeh, .int j]) → FrmAt fs j t → FrmAt fs i (.beh t)
  | zip {i j k : Nat} {a b : Tm} : fs[i]? = some (.tup [.str wZip, .int j, .int k]) → FrmAt fs j a → FrmAt fs k b → FrmAt fs i (.zip a b)
end Z
namespace Z
open Classical
/-- signs, and behinds, ahead of the first zip or row -/
def sgs : Tm → Nat
  | .sign _ t => sgs t + 1
  | .beh t => sgs t
  | _ => 0
def bhs : Tm → Nat
  | .sign _ t => bhs t
  | .beh t => bhs t + 1
  | _ => 0
end Z
namespace Z
open Classical
theorem filt_le {α : Type} {p q : α → Bool} : ∀ {l : List α}, (∀ x ∈ l, q x = true → p x = true) → (l.filter q).length ≤ (l.filter p).length
  | [], _ => Nat.le_refl _
  | x :: l, h => by
    have ih := filt_le (l := l) (fun y hy => h y (List.mem_cons_of_mem _ hy))
    rw [List.filter_cons, List.filter_cons]
    cases hq : q x with
    | true =>
      rw [h x (by simp) hq]
      simpa using ih
    | false =>
      cases p x
      · simpa using ih
      · simp
        omega
theorem filt_lt {α : Type} {p q : α → Bool} : ∀ {l : List α} {y : α}, (∀ x ∈ l, q x = true → p x = true) → y ∈ l → p y = true → q y = false → (l.filter q).length < (l.filter p).length
  | [], y, _, hy, _, _ => nomatch hy
  | x :: l, y, h, hy, hp, hq => by
    have hle := filt_le (l := l) (fun z hz => h z (List.mem_cons_of_mem _ hz))
    rw [List.filter_cons, List.filter_cons]
    rcases List.mem_cons.mp hy with rfl | hy
    · rw [hp, hq]
      simp
      omega
    · have ih := filt_lt (l := l) (fun z hz => h z (List.mem_cons_of_mem _ hz)) hy hp hq
      cases hqx : q x with
      | true =>
        rw [h x (by simp) hqx]
        simpa using ih
      | false =>
        cases p x
        · simpa using ih
        · simp
          omega
theorem kyS_inj {s t : List Nat} {a b : Nat} (h : kyS s a = kyS t b) : s = t ∧ a = b := by
  unfold kyS at h
  simp at h
  exact ⟨h.1, by omega⟩
def prN (N : List (List Nat)) (B : Nat) : List (List Nat × Nat) := N.flatMap fun s => (List.range (B + 1)).map fun d => (s, d)
theorem prN_mem {N : List (List Nat)} {B : Nat} {s : List Nat} {d : Nat} : (s, d) ∈ prN N B ↔ s ∈ N ∧ d ≤ B := by
  unfold prN
  simp only [List.mem_flatMap, List.mem_map, List.mem_range, Prod.mk.injEq]
  constructor
  · rintro ⟨x, hx, y, hy, rfl, rfl⟩
    exact ⟨hx, by omega⟩
  · rintro ⟨h1, h2⟩
    exact ⟨s, h1, d, by omega, rfl, rfl⟩
noncomputable def Pc (N : List (List Nat)) (B : Nat) (sn : List (D × D)) : Nat := ((prN N B).filter fun p => decide (dget sn (kyS p.1 p.2) = none)).length
noncomputable def Uc (N : List (List Nat)) (lw : List (D × D)) (n : Nat) : Nat := (N.filter fun s => decide (dget lw (kyS s n) = none)).length
section
variable {N : List (List Nat)} {B : Nat}
theorem Uc_put (lw : List (D × D)) (k v : D) (n : Nat) : Uc N (dput lw k v) n ≤ Uc N lw n := filt_le fun p _ h => by
  have h := of_decide_eq_true h
  rw [dget_dput] at h
  split at h
  · cases h
  · exact decide_eq_true h
theorem Uc_put_lt {lw : List (D × D)} {s : List Nat} {n : Nat} (v : D) (hs : s ∈ N) (h0 : dget lw (kyS s n) = none) : Uc N (dput lw (kyS s n) v) n < Uc N lw n := filt_lt (y := s) (fun p _ h => by
  have h := of_decide_eq_true h
  rw [dget_dput] at h
  split at h
  · cases h
  · exact decide_eq_true h) hs (decide_eq_true h0) (decide_eq_false (by rw [dget_dput, if_pos rfl]; simp))
theorem dput_keys (kvs : List (D × D)) (k v : D) : (dput kvs k v).map (·.1) = if k ∈ kvs.map (·.1) then kvs.map (·.1) else kvs.map (·.1) ++ [k] := by
  unfold dput
  have e : (kvs.any fun p => decide (p.1 = k)) = decide (k ∈ kvs.map (·.1)) := by
    rw [Bool.eq_iff_iff]
    simp
  rw [e]
  by_cases h : k ∈ kvs.map (·.1)
  · rw [decide_eq_true h, if_pos rfl, if_pos h, List.map_map]
    refine List.map_congr_left fun p _ => ?_
    by_cases g : p.1 = k <;> simp [g]
  · rw [decide_eq_false h, if_neg (by decide), if_neg h]
    simp
structure KIn (L : List D) (kvs : List (D × D)) : Prop where
  nd : (kvs.map (·.1)).Nodup
  sub : ∀ k ∈ kvs.map (·.1), k ∈ L
theorem KIn.put {L : List D} {kvs : List (D × D)} (h : KIn L kvs) {k : D} (hk : k ∈ L) (v : D) : KIn L (dput kvs k v) := by
  refine ⟨?_, fun x hx => ?_⟩
  · rw [dput_keys]
    by_cases c : k ∈ kvs.map (·.1)
    · rw [if_pos c]; exact h.nd
    · rw [if_neg c, List.nodup_append]
      exact ⟨h.nd, by simp, fun a ha b hb e => by simp at hb; subst hb; subst e; exact c ha⟩
  · rw [dput_keys] at hx
    by_cases c : k ∈ kvs.map (·.1)
    · rw [if_pos c] at hx; exact h.sub x hx
    · rw [if_neg c] at hx
      rcases List.mem_append.mp hx with hx | hx
      · exact h.sub x hx
      · simp at hx; rw [hx]; exact hk
theorem KIn.len {L : List D} {kvs : List (D × D)} (h : KIn L kvs) : kvs.length ≤ L.length := by
  have := nodup_len h.nd h.sub
  simpa using this
end
end Z
namespace Z
open Classical
def kyL (N : List (List Nat)) (K : Nat) : List D := (prN N K).map fun p => kyS p.1 p.2
theorem kyL_mem {N : List (List Nat)} {K d : Nat} {s : List Nat} (hs : s ∈ N) (hd : d ≤ K) : kyS s d ∈ kyL N K := List.mem_map.mpr ⟨(s, d), prN_mem.mpr ⟨hs, hd⟩, rfl⟩
structure RV (N : List (List Nat)) (B G K e : Nat) (u : OW) (d : Nat) (s : List Nat) (sn lw : List (D × D)) : Prop where
  sN : s ∈ N
  sv : ∀ t x b, dget sn (kyS t x) = some (.int (b : Nat)) → b ≤ u.length
  iS : IntV sn
  iL : IntV lw
  lv : ∀ t n, u.length < n → dget lw (kyS t n) = none
  sz : u.length + 2 * G * Pc N B sn + 2 * G ≤ 1000 + e
  j1 : d + Uc N lw u.length * B ≤ K
  j2 : ∀ t x, dget lw (kyS t u.length) = some (.int (x : Nat)) → x + B + Uc N lw u.length * B ≤ K
  kS : KIn (kyL N K) sn
  kL : KIn (kyL N 1000) lw
section
variable {fs : List D} {nums : List (D × D)} {N : List (List Nat)} {B G K e : Nat} {u : OW} {d : Nat} {s : List Nat} {sn lw : List (D × D)}
theorem bfO_none {lw : List (D × D)} {s : List Nat} {n z : Nat} (h : dget lw (kyS s n) = none) : bfO lw s n z = z := by
  unfold bfO
  rw [h]
theorem bfO_some {lw : List (D × D)} {s : List Nat} {n z x : Nat} (h : dget lw (kyS s n) = some (.int (x : Nat))) : bfO lw s n z = x := by
  unfold bfO
  rw [h]
  simp
/-- the low at this size: none yet, or above the drop -/
theorem RV.low (R : RV N B G K e u d s sn lw) (h : ¬ bfO lw s u.length (d + 1) ≤ d) : dget lw (kyS s u.length) = none ∨ ∃ x : Nat, dget lw (kyS s u.length) = some (.int (x : Nat)) ∧ d < x := by
  cases hg : dget lw (kyS s u.length) with
  | none => exact .inl rfl
  | some v =>
    obtain ⟨x, rfl⟩ := R.iL.int _ _ hg
    rw [bfO_some hg] at h
    exact .inr ⟨x, rfl, by omega⟩
/-- after a visit that tells nothing: the bound on what comes -/
theorem RV.kb (R : RV N B G K e u d s sn lw) (h : ¬ bfO lw s u.length (d + 1) ≤ d) : d + B + Uc N (dput lw (kyS s u.length) (.int (d : Nat))) u.length * B ≤ K := by
  have j1 := R.j1
  rcases R.low h with h0 | ⟨x, hx, hd⟩
  · have h1 := Uc_put_lt (v := .int (d : Nat)) R.sN h0
    have h2 : (Uc N (dput lw (kyS s u.length) (.int (d : Nat))) u.length + 1) * B ≤ Uc N lw u.length * B := Nat.mul_le_mul_right B h1
    rw [Nat.add_mul] at h2
    omega
  · have h1 := Uc_put (N := N) lw (kyS s u.length) (.int (d : Nat)) u.length
    have h2 := Nat.mul_le_mul_right B h1
    have := R.j2 s x hx
    omega
theorem RV.next (R : RV N B G K e u d s sn lw) (h : ¬ bfO lw s u.length (d + 1) ≤ d) (hK : B + N.length * B ≤ K) (hu1 : u.length ≤ 1000) {u' : OW} {d' e' : Nat} {s' : List Nat} (hs' : s' ∈ N) (hl : u.length ≤ u'.length) (hd : d' ≤ d + B) (hg : u.length < u'.length → d' ≤ B)
    (hsz : u'.length + 2 * G * Pc N B (dput sn (kyS s d) (.int (u.length : Nat))) + 2 * G ≤ 1000 + e') : RV N B G K e' u' d' s' (dput sn (kyS s d) (.int (u.length : Nat))) (dput lw (kyS s u.length) (.int (d : Nat))) := by
  have kb := R.kb h
  have hdK : d ≤ K := by have := R.j1; omega
  refine ⟨hs', fun t x b hb => ?_, R.iS.put _ _, R.iL.put _ _, fun t n hn => ?_, hsz, ?_, fun t x hx => ?_, R.kS.put (kyL_mem R.sN hdK) _, R.kL.put (kyL_mem R.sN hu1) _⟩
  · rw [dget_dput] at hb
    split at hb
    · cases hb
      omega
    · have := R.sv t x b hb
      omega
  · rw [dget_dput, if_neg (fun q => by have := (kyS_inj q).2; omega)]
    exact R.lv t n (by omega)
  · by_cases c : u.length < u'.length
    · have := hg c
      have h2 : Uc N (dput lw (kyS s u.length) (.int (d : Nat))) u'.length ≤ N.length := List.length_filter_le ..
      have := Nat.mul_le_mul_right B h2
      omega
    · have e0 : u'.length = u.length := by omega
      rw [e0]
      omega
  · by_cases c : u.length < u'.length
    · rw [dget_dput, if_neg (fun q => by have := (kyS_inj q).2; omega), R.lv t _ c] at hx
      cases hx
    · have e0 : u'.length = u.length := by omega
      rw [e0] at hx ⊢
      rw [dget_dput] at hx
      split at hx
      · cases hx
        exact kb
      · have := R.j2 t x hx
        have := Nat.mul_le_mul_right B (Uc_put (N := N) lw (kyS s u.length) (.int (d : Nat)) u.length)
        omega
end
end Z
namespace Z
open Classical
section
variable {fs : List D} {nums : List (D × D)} {N : List (List Nat)} {B G K : Nat}
theorem RV.start {u : OW} {d : Nat} {s : List Nat} (hs : s ∈ N) (hu : u.length + 2 * G * (prN N B).length + 2 * G ≤ 1000) (hd : d + N.length * B ≤ K) : RV N B G K 0 u d s [] [] := by
  have h1 : Pc N B [] ≤ (prN N B).length := List.length_filter_le ..
  have h2 : Uc N [] u.length ≤ N.length := List.length_filter_le ..
  have h3 := Nat.mul_le_mul_left (2 * G) h1
  have h4 := Nat.mul_le_mul_right B h2
  exact ⟨hs, fun t x b h => (nomatch h), .nil, .nil, fun t n _ => rfl, by omega, by omega, fun t x h => (nomatch h), ⟨by simp, fun k hk => (nomatch hk)⟩, ⟨by simp, fun k hk => (nomatch hk)⟩⟩
/-- the shape of a zip that an opening tells: its word has grown by few signs, its drop is small or has not grown much; it stands on forms -/
theorem Opens.det {u : OW} {d : Nat} {F : D} {sn lw : List (D × D)} {r r' : OR} (h : Opens fs nums u d F sn lw r) (h' : Opens fs nums u d F sn lw r') : r = r' := by
  induction h generalizing r' with
  | zip => cases h'; rfl
  | beh hF _ ih =>
    cases h' with
    | beh hF' h2 =>
      rw [hF] at hF'
      cases hF'
      exact ih h2
  | sign hF _ _ ih =>
    cases h' with
    | sign hF' _ h2 =>
      rw [hF] at hF'
      cases hF'
      exact ih h2
  | again _ _ _ ha =>
    cases h' with
    | again _ _ _ ha' =>
      have := ha.det ha'
      cases this
      rfl
    | row _ _ _ ha' =>
      have := ha.det ha'
      cases this
  | row _ _ _ ha hn hF _ ih =>
    cases h' with
    | again _ _ _ ha' =>
      have := ha.det ha'
      cases this
    | row _ _ _ ha' hn' hF' h2 =>
      rw [hn] at hn'
      cases hn'
      rw [hF] at hF'
      cases hF'
      exact ih h2
end
end Z
namespace Z
open Classical
/-- the sign at n of a term, the rows' signs given (none: free) -/
def TV (V : List Nat → Nat → Option Nat) : Tm → Nat → Option Nat
  | .row s, n => V s n
  | .sign k t, n => if n = 0 then some k else TV V t (n - 1)
  | .beh t, n => TV V t (n + 1)
  | .zip a b, n => if n % 2 = 0 then TV V a (n / 2) else TV V b (n / 2)
/-- the sign at n of a rope -/
def RVl (V : List Nat → Nat → Option Nat) (u : OW) (d : Nat) (t : Tm) (n : Nat) : Option Nat := if n < u.length then u.getD n none else TV V t (n - u.length + d)
section
variable {V : List Nat → Nat → Option Nat} {fs : List D} {nums : List (D × D)} {N : List (List Nat)} {B G : Nat}
/-- the equations of the names hold -/
structure EqV (fs : List D) (nums : List (D × D)) (N : List (List Nat)) (V : List Nat → Nat → Option Nat) : Prop where
  at' : ∀ s ∈ N, ∀ g : Nat, fget nums (.str s) = some (.int g) → ∃ t, FrmAt fs g t ∧ (∀ r ∈ t.rows, r ∈ N) ∧ ∀ n, V s n = TV V t n
end
end Z
namespace Z
open Classical
def wv (w t : OW) (n : Nat) : Option Nat := if n < w.length then w.getD n none else t.getD ((n - w.length) % t.length) none
end Z
namespace Z
open Classical
def wSg : Option Wr → Option Nat
  | some (.sign i) => some i
  | _ => none
/-- the sign at n of the row of s, by the equations told -/
noncomputable def sgV (es : Eqs) (s : List Nat) (n : Nat) : Option Nat := wSg (wres es (s, n))
section
variable {es : Eqs}
/-- a walk from sign n of a term ends so, behind j calls -/
def TkE (es : Eqs) (t : Tm) (n j : Nat) (r : Wr) : Prop := match hop t n with
  | .inl i => r = .sign i ∧ j = 0
  | .inr c => ∃ k, j = k + 1 ∧ EndIn es k c r
theorem tkE_row {s : List Nat} {n j : Nat} {r : Wr} : TkE es (.row s) n j r ↔ ∃ k, j = k + 1 ∧ EndIn es k (s, n) r := Iff.rfl
theorem tkE_beh {t : Tm} {n j : Nat} {r : Wr} : TkE es (.beh t) n j r ↔ TkE es t (n + 1) j r := Iff.rfl
theorem tkE_signS {t : Tm} {i n j : Nat} {r : Wr} : TkE es (.sign i t) (n + 1) j r ↔ TkE es t n j r := Iff.rfl
theorem tkE_sign0 {t : Tm} {i j : Nat} {r : Wr} : TkE es (.sign i t) 0 j r ↔ r = .sign i ∧ j = 0 := Iff.rfl
theorem tkE_zip {a b : Tm} {n j : Nat} {r : Wr} : TkE es (.zip a b) n j r ↔ TkE es (if n % 2 = 0 then a else b) (n / 2) j r := by
  unfold TkE
  rw [hop]
  by_cases c : n % 2 = 0
  · rw [if_pos c, if_pos c]
  · rw [if_neg c, if_neg c]
theorem endIn_tk {s : List Nat} {T : Tm} (h : look es s = some T) {n j : Nat} {r : Wr} : EndIn es j (s, n) r ↔ TkE es T n j r := by
  unfold TkE
  cases hh : hop T n with
  | inl i =>
    dsimp only
    have hn : nx es (s, n) = .inl (.sign i) := by
      unfold nx
      dsimp only
      rw [h]
      dsimp only
      rw [hh]
    cases j with
    | zero =>
      rw [EndIn, hn]
      constructor
      · intro e; cases e; exact ⟨rfl, rfl⟩
      · rintro ⟨rfl, _⟩; rfl
    | succ k =>
      rw [EndIn]
      constructor
      · rintro ⟨d, e, _⟩; rw [hn] at e; cases e
      · rintro ⟨_, e⟩; cases e
  | inr c =>
    dsimp only
    have hn := nx_of (es := es) (c := (s, n)) h hh
    cases j with
    | zero =>
      rw [EndIn, hn]
      constructor
      · intro e; cases e
      · rintro ⟨k, e, _⟩; cases e
    | succ k =>
      rw [EndIn]
      constructor
      · rintro ⟨d, e, q⟩; rw [hn] at e; cases e; exact ⟨k, rfl, q⟩
      · rintro ⟨k', e, q⟩; cases e; exact ⟨c, hn, q⟩
theorem sgV_of {s : List Nat} {n j i : Nat} (h : EndIn es j (s, n) (.sign i)) : sgV es s n = some i := by
  unfold sgV
  rw [wres_some h]
  rfl
theorem sgV_is {s : List Nat} {n i : Nat} (h : sgV es s n = some i) : ∃ j, EndIn es j (s, n) (.sign i) := by
  unfold sgV wres at h
  split at h
  · rename_i hx
    obtain ⟨k, hk⟩ := hx.choose_spec
    refine ⟨k, ?_⟩
    cases e : hx.choose with
    | sign q => rw [e] at h hk; cases h; exact hk
    | waits q => rw [e] at h; cases h
  · cases h
theorem sgV_none {s : List Nat} {n : Nat} (h : ∀ j r, ¬ EndIn es j (s, n) r) : sgV es s n = none := by
  unfold sgV
  rw [wres_none h]
  rfl
theorem tv_of {t : Tm} : ∀ {n j i : Nat}, TkE es t n j (.sign i) → TV (sgV es) t n = some i := by
  induction t with
  | row s =>
    intro n j i h
    obtain ⟨k, _, h⟩ := tkE_row.mp h
    exact sgV_of h
  | sign q t ih =>
    intro n j i h
    cases n with
    | zero => obtain ⟨h, _⟩ := tkE_sign0.mp h; cases h; rw [TV, if_pos rfl]
    | succ n => rw [TV, if_neg (by omega)]; exact ih (tkE_signS.mp h)
  | beh t ih => intro n j i h; rw [TV]; exact ih (tkE_beh.mp h)
  | zip a b iha ihb =>
    intro n j i h
    have h := tkE_zip.mp h
    rw [TV]
    by_cases c : n % 2 = 0
    · rw [if_pos c] at h ⊢; exact iha h
    · rw [if_neg c] at h ⊢; exact ihb h
theorem tv_is {t : Tm} : ∀ {n i : Nat}, TV (sgV es) t n = some i → ∃ j, TkE es t n j (.sign i) := by
  induction t with
  | row s =>
    intro n i h
    obtain ⟨k, h⟩ := sgV_is h
    exact ⟨k + 1, tkE_row.mpr ⟨k, rfl, h⟩⟩
  | sign q t ih =>
    intro n i h
    cases n with
    | zero => rw [TV, if_pos rfl] at h; cases h; exact ⟨0, tkE_sign0.mpr ⟨rfl, rfl⟩⟩
    | succ n =>
      rw [TV, if_neg (by omega)] at h
      obtain ⟨j, h⟩ := ih h
      exact ⟨j, tkE_signS.mpr h⟩
  | beh t ih =>
    intro n i h
    rw [TV] at h
    obtain ⟨j, h⟩ := ih h
    exact ⟨j, tkE_beh.mpr h⟩
  | zip a b iha ihb =>
    intro n i h
    rw [TV] at h
    by_cases c : n % 2 = 0
    · rw [if_pos c] at h
      obtain ⟨j, h⟩ := iha h
      exact ⟨j, tkE_zip.mpr (by rw [if_pos c]; exact h)⟩
    · rw [if_neg c] at h
      obtain ⟨j, h⟩ := ihb h
      exact ⟨j, tkE_zip.mpr (by rw [if_neg c]; exact h)⟩
theorem sgV_tv {s : List Nat} {T : Tm} (h : look es s = some T) (n : Nat) : sgV es s n = TV (sgV es) T n := by
  cases hv : TV (sgV es) T n with
  | some i =>
    obtain ⟨j, hj⟩ := tv_is hv
    exact sgV_of ((endIn_tk h).mpr hj)
  | none =>
    cases hs : sgV es s n with
    | none => rfl
    | some i =>
      obtain ⟨j, hj⟩ := sgV_is hs
      rw [tv_of ((endIn_tk h).mp hj)] at hv
      cases hv
/-- names whose equations are told, with those that are met from them -/
structure ClsB (es : Eqs) (N : List (List Nat)) : Prop where
  at' : ∀ s ∈ N, ∃ T, look es s = some T ∧ ∀ r ∈ T.rows, r ∈ N
/-- the forms are the terms' -/
structure FrmB (es : Eqs) (N : List (List Nat)) (fs : List D) (nums : List (D × D)) : Prop where
  cls : ClsB es N
  at' : ∀ s ∈ N, ∃ (T : Tm) (g : Nat), look es s = some T ∧ fget nums (.str s) = some (.int g) ∧ FrmAt fs g T ∧ ∀ r ∈ T.rows, r ∈ N
variable {N : List (List Nat)} {fs : List D} {nums : List (D × D)} {f : Nat → Option Nat}
theorem FrmB.eqv (F : FrmB es N fs nums) : EqV fs nums N (sgV es) := ⟨fun s hs g hg => by
  obtain ⟨T, g', h1, h2, h3, h4⟩ := F.at' s hs
  rw [hg] at h2
  injection h2 with h2
  injection h2 with h2
  have e : g = g' := Int.ofNat_inj.mp h2
  subst e
  exact ⟨T, h3, h4, fun n => sgV_tv h1 n⟩⟩
/-- lows that stand at this size: walks from there come by here -/
structure LoI (es : Eqs) (lw : List (D × D)) (sz : Nat) (t : Tm) (d : Nat) : Prop where
  at' : ∀ s x, dget lw (kyS s sz) = some (.int (x : Nat)) → ∃ c, ∀ m j r, EndIn es j (s, x + m) r → c ≤ j ∧ TkE es t (d + m) (j - c) r
  far : ∀ s n, sz < n → dget lw (kyS s n) = none
theorem LoI.end {lw : List (D × D)} {sz d : Nat} {s : List Nat} (h : LoI es lw sz (.row s) d) (hi : IntV lw) (hl : bfO lw s sz (d + 1) ≤ d) : ∀ m, sgV es s (d + m) = none := by
  cases hg : dget lw (kyS s sz) with
  | none => rw [bfO_none hg] at hl; omega
  | some v =>
    obtain ⟨x, rfl⟩ := hi.int _ _ hg
    rw [bfO_some hg] at hl
    obtain ⟨c, hc⟩ := h.at' _ _ hg
    have key : ∀ (j m : Nat) (r : Wr), ¬ EndIn es j (s, x + m) r := fun j => by
      induction j using Nat.strongRecOn with
      | ind j ih =>
        intro m r he
        obtain ⟨h1, h2⟩ := hc m j r he
        obtain ⟨k, hk, h3⟩ := tkE_row.mp h2
        refine ih k (by omega) (d - x + m) r ?_
        rw [show x + (d - x + m) = d + m by omega]
        exact h3
    intro m
    refine sgV_none fun j r he => key j (d - x + m) r ?_
    rw [show x + (d - x + m) = d + m by omega]
    exact he
end
end Z
namespace Z
open Classical
def tailT : Tm → Tm
  | .sign _ t => tailT t
  | .beh t => tailT t
  | .row s => .row s
  | .zip a b => .zip a b
theorem tailT_rows : ∀ (t : Tm), ∀ x ∈ (tailT t).rows, x ∈ t.rows
  | .sign _ t, x, h => tailT_rows t x h
  | .beh t, x, h => tailT_rows t x h
  | .row s, x, h => h
  | .zip a b, x, h => h
/-- through k names to a zip; the signs, the behinds on the way -/
inductive ZC (es : Eqs) : Nat → Tm → Tm → Tm → Nat → Nat → Prop
  | zip {t a b : Tm} : tailT t = .zip a b → ZC es 0 t a b (sgs t) (bhs t)
  | row {t a b T : Tm} {s : List Nat} {k σ β : Nat} : tailT t = .row s → look es s = some T → ZC es k T a b σ β → ZC es (k + 1) t a b (sgs t + σ) (bhs t + β)
/-- through k names to one more -/
inductive RC (es : Eqs) : Nat → Tm → List Nat → Nat → Nat → Prop
  | here {t : Tm} {s : List Nat} : tailT t = .row s → RC es 0 t s (sgs t) (bhs t)
  | next {t T : Tm} {s q : List Nat} {k σ β : Nat} : tailT t = .row s → look es s = some T → RC es k T q σ β → RC es (k + 1) t q (sgs t + σ) (bhs t + β)
/-- the signs are figures -/
def sg9 : Tm → Prop
  | .row _ => True
  | .sign i t => i ≤ 9 ∧ sg9 t
  | .beh t => sg9 t
  | .zip a b => sg9 a ∧ sg9 b
section
variable {es : Eqs} {N : List (List Nat)} {fs : List D} {nums : List (D × D)}
theorem ZC.det {k : Nat} {t a b : Tm} {σ β : Nat} (h : ZC es k t a b σ β) : ∀ {k' : Nat} {a' b' : Tm} {σ' β' : Nat}, ZC es k' t a' b' σ' β' → k = k' ∧ a = a' ∧ b = b' ∧ σ = σ' ∧ β = β' := by
  induction h with
  | zip h =>
    intro k' a' b' σ' β' h'
    cases h' with
    | zip g => rw [h] at g; cases g; exact ⟨rfl, rfl, rfl, rfl, rfl⟩
    | row g _ _ => rw [h] at g; cases g
  | row h hl _ ih =>
    intro k' a' b' σ' β' h'
    cases h' with
    | zip g => rw [h] at g; cases g
    | row g gl g2 =>
      rw [h] at g
      cases g
      rw [hl] at gl
      cases gl
      obtain ⟨rfl, rfl, rfl, rfl, rfl⟩ := ih g2
      exact ⟨rfl, rfl, rfl, rfl, rfl⟩
end
end Z
namespace Z
open Classical
section
variable {es : Eqs} {N : List (List Nat)}
theorem tail_tv (V : List Nat → Nat → Option Nat) : ∀ (t : Tm) (m : Nat), sgs t ≤ m → TV V t m = TV V (tailT t) (m - sgs t + bhs t)
  | .row s, m, h => by simp [sgs, bhs, tailT]
  | .zip a b, m, h => by simp [sgs, bhs, tailT]
  | .beh t, m, h => by
    rw [TV, tailT, tail_tv V t (m + 1) (by simp only [sgs] at h; omega)]
    simp only [sgs, bhs] at h ⊢
    congr 1
    omega
  | .sign i t, m, h => by
    simp only [sgs] at h
    rw [TV, if_neg (by omega), tailT, tail_tv V t (m - 1) (by omega)]
    simp only [sgs, bhs]
    congr 1
    omega
theorem tail_tk : ∀ (t : Tm) (m j : Nat) (r : Wr), sgs t ≤ m → TkE es t m j r → TkE es (tailT t) (m - sgs t + bhs t) j r
  | .row s, m, j, r, h, q => by simpa [sgs, bhs, tailT] using q
  | .zip a b, m, j, r, h, q => by simpa [sgs, bhs, tailT] using q
  | .beh t, m, j, r, h, q => by
    have := tail_tk t (m + 1) j r (by simp only [sgs] at h; omega) (tkE_beh.mp q)
    simp only [sgs, bhs, tailT] at h ⊢
    rw [show m - sgs t + (bhs t + 1) = m + 1 - sgs t + bhs t by omega]
    exact this
  | .sign i t, m, j, r, h, q => by
    simp only [sgs] at h
    rw [show m = (m - 1) + 1 by omega] at q
    have := tail_tk t (m - 1) j r (by omega) (tkE_signS.mp q)
    simp only [sgs, bhs, tailT]
    rw [show m - (sgs t + 1) + bhs t = m - 1 - sgs t + bhs t by omega]
    exact this
theorem RC.val {k : Nat} {t : Tm} {s : List Nat} {σ β : Nat} (h : RC es k t s σ β) : ∀ m, σ ≤ m → TV (sgV es) t m = sgV es s (m - σ + β) ∧ ∀ j r, TkE es t m j r → ∃ j', j = j' + k + 1 ∧ EndIn es j' (s, m - σ + β) r := by
  induction h with
  | @here t s ht =>
    intro m hm
    refine ⟨?_, fun j r q => ?_⟩
    · rw [tail_tv _ t m hm, ht, TV]
    · have := tail_tk t m j r hm q
      rw [ht] at this
      obtain ⟨k, hk, h2⟩ := tkE_row.mp this
      exact ⟨k, by omega, h2⟩
  | @next t T s q k σ β ht hl h ih =>
    intro m hm
    obtain ⟨i1, i2⟩ := ih (m - sgs t + bhs t) (by omega)
    have e : m - sgs t + bhs t - σ + β = m - (sgs t + σ) + (bhs t + β) := by omega
    rw [e] at i1 i2
    refine ⟨?_, fun j r g => ?_⟩
    · rw [tail_tv _ t m (by omega), ht, TV, sgV_tv hl, i1]
    · have := tail_tk t m j r (by omega) g
      rw [ht] at this
      obtain ⟨k', hk', h2⟩ := tkE_row.mp this
      obtain ⟨j', hj', h3⟩ := i2 k' r ((endIn_tk hl).mp h2)
      exact ⟨j', by omega, h3⟩
theorem RC.det {k : Nat} {t : Tm} {s : List Nat} {σ β : Nat} (h : RC es k t s σ β) : ∀ {s' : List Nat} {σ' β' : Nat}, RC es k t s' σ' β' → s = s' ∧ σ = σ' ∧ β = β' := by
  induction h with
  | here ht =>
    intro s' σ' β' h'
    cases h' with
    | here h2 => rw [ht] at h2; cases h2; exact ⟨rfl, rfl, rfl⟩
  | next ht hl _ ih =>
    intro s' σ' β' h'
    cases h' with
    | next h2 hl2 h3 =>
      rw [ht] at h2
      cases h2
      rw [hl] at hl2
      cases hl2
      obtain ⟨rfl, rfl, rfl⟩ := ih h3
      exact ⟨rfl, rfl, rfl⟩
theorem two_same {α : Type} {L : List α} (g : Nat → α) (hg : ∀ k, k ≤ L.length → g k ∈ L) : ∃ i j, i < j ∧ j ≤ L.length ∧ g i = g j := by
  by_cases c : ∃ i j, i < j ∧ j ≤ L.length ∧ g i = g j
  · exact c
  · exfalso
    have hnd : ((List.range (L.length + 1)).map g).Nodup := by
      rw [List.nodup_iff_pairwise_ne, List.pairwise_map]
      refine List.Pairwise.imp_of_mem (R := fun a b => a < b) (fun {a b} ha hb hab e => c ⟨a, b, hab, by have := List.mem_range.mp hb; omega, e⟩) ?_
      exact List.pairwise_lt_range
    have := nodup_len hnd (L := L) (fun x hx => by
      obtain ⟨k, hk, rfl⟩ := List.mem_map.mp hx
      exact hg k (by have := List.mem_range.mp hk; omega))
    rw [List.length_map, List.length_range] at this
    omega
end
end Z
namespace Z
open Classical
/-- the turn, again and again -/
def gT (t : OW) (n : Nat) : Option Nat := t.getD (n % t.length) none
def Per {α : Type} (g : Nat → α) (p : Nat) : Prop := ∀ n, g (n + p) = g n
/-- no shorter turn -/
def Prim (t : OW) : Prop := ∀ j, 1 ≤ j → Per (gT t) j → t.length ≤ j
structure CW (w t : OW) : Prop where
  ne : t ≠ []
  prim : Prim t
  last : w = [] ∨ w.getLast? ≠ t.getLast?
/-- from Θ on a period -/
def EvP {α : Type} (f : Nat → α) (p Θ : Nat) : Prop := ∀ n, Θ ≤ n → f (n + p) = f n
end Z
namespace Z
open Classical
theorem FrmAt.det {fs : List D} {i : Nat} {t : Tm} (h : FrmAt fs i t) : ∀ {t' : Tm}, FrmAt fs i t' → t = t' := by
  induction h with
  | row h =>
    intro t' h'
    cases h' with
    | row g => rw [h] at g; simp at g; rw [g]
    | sign g _ => rw [h] at g; cases g
    | beh g _ => rw [h] at g; cases g
    | zip g _ _ => rw [h] at g; cases g
  | sign h _ ih =>
    intro t' h'
    cases h' with
    | row g => rw [h] at g; cases g
    | sign g g2 =>
      rw [h] at g
      simp at g
      have q1 := Int.ofNat_inj.mp g.1
      have q2 := Int.ofNat_inj.mp g.2
      subst q1
      subst q2
      rw [ih g2]
    | beh g _ => rw [h] at g; cases g
    | zip g _ _ => rw [h] at g; cases g
  | beh h _ ih =>
    intro t' h'
    cases h' with
    | row g => rw [h] at g; cases g
    | sign g _ => rw [h] at g; cases g
    | beh g g2 =>
      rw [h] at g
      simp at g
      have q1 := Int.ofNat_inj.mp g
      subst q1
      rw [ih g2]
    | zip g _ _ => rw [h] at g; cases g
  | zip h _ _ i1 i2 =>
    intro t' h'
    cases h' with
    | row g => rw [h] at g; cases g
    | sign g _ => rw [h] at g; cases g
    | beh g _ => rw [h] at g; cases g
    | zip g g1 g2 =>
      rw [h] at g
      simp at g
      have q1 := Int.ofNat_inj.mp g.1
      have q2 := Int.ofNat_inj.mp g.2
      subst q1
      subst q2
      rw [i1 g1, i2 g2]
/-- few signs and behinds in a row, everywhere in a term -/
def GBt (G B : Nat) : Tm → Prop
  | .row _ => True
  | .sign i t => sgs t + 1 ≤ G ∧ bhs t ≤ B ∧ GBt G B t
  | .beh t => sgs t ≤ G ∧ bhs t + 1 ≤ B ∧ GBt G B t
  | .zip a b => GBt G B a ∧ GBt G B b
theorem GBt.le {G B : Nat} : ∀ {t : Tm}, GBt G B t → sgs t ≤ G ∧ bhs t ≤ B
  | .row _, _ => by simp [sgs, bhs]
  | .sign i t, h => by simp only [sgs, bhs]; exact ⟨h.1, h.2.1⟩
  | .beh t, h => by simp only [sgs, bhs]; exact ⟨h.1, h.2.1⟩
  | .zip a b, h => by simp [sgs, bhs]
theorem GBt.tail {G B : Nat} : ∀ {t a b : Tm}, GBt G B t → tailT t = .zip a b → GBt G B a ∧ GBt G B b
  | .row _, a, b, _, e => by cases e
  | .sign i t, a, b, h, e => GBt.tail h.2.2 e
  | .beh t, a, b, h, e => GBt.tail h.2.2 e
  | .zip x y, a, b, h, e => by cases e; exact h
theorem sg9.tail : ∀ {t a b : Tm}, sg9 t → tailT t = .zip a b → sg9 a ∧ sg9 b
  | .row _, a, b, _, e => by cases e
  | .sign i t, a, b, h, e => sg9.tail (t := t) h.2 e
  | .beh t, a, b, h, e => sg9.tail (t := t) h e
  | .zip x y, a, b, h, e => by cases e; exact h
/-- a book laid, its names told, few signs and behinds in a row -/
structure BU (es : Eqs) (N : List (List Nat)) (fs : List D) (nums : List (D × D)) (G B : Nat) : Prop where
  fb : FrmB es N fs nums
  s9 : ∀ s ∈ N, ∀ T, look es s = some T → sg9 T
  gb : ∀ s ∈ N, ∀ T, look es s = some T → GBt G B T
def LbU (N : List (List Nat)) (G : Nat) : Nat := (N.length + 1) * G + 1
def DbU (N : List (List Nat)) (B : Nat) : Nat := (N.length + 1) * B + 2
def ThU (N : List (List Nat)) (G : Nat) : Nat := (N.length + 1) * G
section
variable {es : Eqs} {N : List (List Nat)} {fs : List D} {nums : List (D × D)} {G B : Nat}
theorem ZC.few (C : ClsB es N) {k : Nat} {t a b : Tm} {σ β : Nat} (h : ZC es k t a b σ β) : (∀ r ∈ t.rows, r ∈ N) → ∃ l : List (List Nat), l.length = k ∧ l.Nodup ∧ ∀ s ∈ l, s ∈ N ∧ ∃ T k' σ' β', look es s = some T ∧ k' < k ∧ ZC es k' T a b σ' β' := by
  induction h with
  | zip h => exact fun _ => ⟨[], rfl, List.nodup_nil, fun s hs => (nomatch hs)⟩
  | @row t a b T s k σ β ht hl hz ih =>
    intro hr
    have hs := hr s (tailT_rows t s (by rw [ht]; simp [Tm.rows]))
    obtain ⟨T', e1, e2⟩ := C.at' s hs
    rw [hl] at e1
    cases e1
    obtain ⟨l, h1, h2, h3⟩ := ih e2
    refine ⟨s :: l, by simp [h1], List.nodup_cons.mpr ⟨fun hm => ?_, h2⟩, fun x hx => ?_⟩
    · obtain ⟨_, T', k', σ', β', q1, q2, q3⟩ := h3 s hm
      rw [hl] at q1
      cases q1
      have := (hz.det q3).1
      omega
    · rcases List.mem_cons.mp hx with rfl | hx
      · exact ⟨hs, T, k, σ, β, hl, by omega, hz⟩
      · obtain ⟨p1, T', k', σ', β', q1, q2, q3⟩ := h3 x hx
        exact ⟨p1, T', k', σ', β', q1, by omega, q3⟩
theorem ZC.sum (A : BU es N fs nums G B) {k : Nat} {t a b : Tm} {σ β : Nat} (h : ZC es k t a b σ β) : (∀ r ∈ t.rows, r ∈ N) → sg9 t → GBt G B t → σ ≤ (k + 1) * G ∧ β ≤ (k + 1) * B ∧ sg9 a ∧ sg9 b ∧ GBt G B a ∧ GBt G B b ∧ (∀ r ∈ a.rows, r ∈ N) ∧ ∀ r ∈ b.rows, r ∈ N := by
  induction h with
  | @zip t a b h =>
    intro hr h9 hg
    have := hg.le
    obtain ⟨p1, p2⟩ := h9.tail h
    obtain ⟨q1, q2⟩ := hg.tail h
    refine ⟨by omega, by omega, p1, p2, q1, q2, fun r hx => hr r (tailT_rows t r (by rw [h]; simp [Tm.rows, hx])), fun r hx => hr r (tailT_rows t r (by rw [h]; simp [Tm.rows, hx]))⟩
  | @row t a b T s k σ β ht hl hz ih =>
    intro hr h9 hg
    have hs := hr s (tailT_rows t s (by rw [ht]; simp [Tm.rows]))
    obtain ⟨T', e1, e2⟩ := A.fb.cls.at' s hs
    rw [hl] at e1
    cases e1
    obtain ⟨i1, i2, i3⟩ := ih e2 (A.s9 s hs T hl) (A.gb s hs T hl)
    have := hg.le
    have m1 : (k + 1 + 1) * G = (k + 1) * G + G := by rw [Nat.add_mul, Nat.one_mul]
    have m2 : (k + 1 + 1) * B = (k + 1) * B + B := by rw [Nat.add_mul, Nat.one_mul]
    exact ⟨by omega, by omega, i3⟩
theorem ZC.most (A : BU es N fs nums G B) {k : Nat} {t a b : Tm} {σ β : Nat} (h : ZC es k t a b σ β) (hr : ∀ r ∈ t.rows, r ∈ N) (h9 : sg9 t) (hg : GBt G B t) : k ≤ N.length ∧ σ ≤ ThU N G ∧ β ≤ (N.length + 1) * B := by
  obtain ⟨l, h1, h2, h3⟩ := h.few A.fb.cls hr
  have hk : k ≤ N.length := by
    rw [← h1]
    exact nd_le' h2 fun s hs => (h3 s hs).1
  obtain ⟨i1, i2, _⟩ := h.sum A hr h9 hg
  have m1 := Nat.mul_le_mul_right G (show k + 1 ≤ N.length + 1 by omega)
  have m2 := Nat.mul_le_mul_right B (show k + 1 ≤ N.length + 1 by omega)
  exact ⟨hk, by unfold ThU; omega, by omega⟩
/-- what a state means -/
inductive VM (es : Eqs) (N : List (List Nat)) (fs : List D) (G B : Nat) (f : Nat → Option Nat) : VS → Prop
  | rope {u : OW} {d i : Nat} {t : Tm} : FrmAt fs i t → (∀ r ∈ t.rows, r ∈ N) → sg9 t → GBt G B t → u.length ≤ LbU N G → d ≤ DbU N B → (∀ x ∈ u, ∃ k, x = some k ∧ k ≤ 9) → (∀ n, RVl (sgV es) u d t n = f n) → VM es N fs G B f (.rope u d i)
  | wheel {p : OW × OW} : CW p.1 p.2 → (∀ n, wv p.1 p.2 n = f n) → (∃ q, 1 ≤ q ∧ q ≤ ThU N G + 1 ∧ EvP f q (LbU N G + ThU N G)) → (∀ n k, f n = some k → k ≤ 9) → VM es N fs G B f (.wheel p)
end
end Z
namespace Z
open Classical
noncomputable def hfS (b : Nat) (r : OR) : VS := if b = 0 then (show3 r).2.1 else (show3 r).2.2
/-- numbers within the model's bounds -/
structure Sane (N : List (List Nat)) (G B : Nat) : Prop where
  n8 : N.length ≤ 8
  o1 : LbU N G + G + 2 * G * (N.length * (B + 1)) + 2 * G ≤ 1000
  o2 : ThU N G + 1 ≤ 500
  o3 : DbU N B + B + N.length * B ≤ 1000
section
variable {es : Eqs} {N : List (List Nat)} {fs : List D} {nums : List (D × D)} {G B : Nat}
theorem OpenV.det {v : VS} {r r' : OR} (h : OpenV fs nums v r) (h' : OpenV fs nums v r') : r = r' := by
  cases h with
  | rope h1 h2 =>
    cases h' with
    | rope g1 g2 =>
      rw [h1] at g1
      cases g1
      exact h2.det g2
  | wheel p => cases h'; rfl
end
end Z
namespace Z
open Classical
noncomputable def shV (fs : List D) (nums : List (D × D)) (v : VS) : OR := if h : ∃ r, OpenV fs nums v r then h.choose else .wheel ([], [])
noncomputable def hvS (fs : List D) (nums : List (D × D)) (b : Nat) (v : VS) : VS := hfS b (shV fs nums v)
noncomputable def goS (fs : List D) (nums : List (D × D)) : Nat → Nat → VS → VS
  | 0, _, v => v
  | k + 1, r, v => goS fs nums k (r / 2) (hvS fs nums (r % 2) v)
section
variable {es : Eqs} {N : List (List Nat)} {fs : List D} {nums : List (D × D)} {G B : Nat}
theorem go_add : ∀ (a b r q : Nat) (v : VS), r < 2 ^ a → goS fs nums (a + b) (r + 2 ^ a * q) v = goS fs nums b q (goS fs nums a r v)
  | 0, b, r, q, v, h => by
    have : r = 0 := by simpa using h
    subst this
    rw [Nat.zero_add, Nat.pow_zero, Nat.one_mul, Nat.zero_add, goS]
  | a + 1, b, r, q, v, h => by
    rw [Nat.pow_succ] at h
    rw [show a + 1 + b = (a + b) + 1 by omega, goS, goS]
    have e1 : (r + 2 ^ (a + 1) * q) % 2 = r % 2 := by
      rw [Nat.pow_succ, show 2 ^ a * 2 * q = 2 * (2 ^ a * q) by rw [Nat.mul_comm (2 ^ a) 2, Nat.mul_assoc]]
      omega
    have e2 : (r + 2 ^ (a + 1) * q) / 2 = r / 2 + 2 ^ a * q := by
      rw [Nat.pow_succ, show 2 ^ a * 2 * q = 2 * (2 ^ a * q) by rw [Nat.mul_comm (2 ^ a) 2, Nat.mul_assoc]]
      omega
    rw [e1, e2]
    exact go_add a b (r / 2) q _ (by omega)
end
end Z
namespace Z
open Classical
section
variable {es : Eqs} {N : List (List Nat)} {fs : List D} {nums : List (D × D)} {G B : Nat}
def codeN (N : List (List Nat)) (G B K F : Nat) : Nat := 2 ^ K + F * ((LbU N G + DbU N B + 2 ^ K) * (10 * (LbU N G + 1))) + F * ((LbU N G + DbU N B + 2 ^ K) * 11) + F * ((ThU N G + 2) * ((ThU N G + 2) * 11))
theorem FrmAt.lt {i : Nat} {t : Tm} (h : FrmAt fs i t) : i < fs.length := by
  cases h with
  | row h => exact (List.getElem?_eq_some_iff.mp h).1
  | sign h _ => exact (List.getElem?_eq_some_iff.mp h).1
  | beh h _ => exact (List.getElem?_eq_some_iff.mp h).1
  | zip h _ _ => exact (List.getElem?_eq_some_iff.mp h).1
end
end Z
namespace Z
open Classical
section
variable {es : Eqs} {N : List (List Nat)} {fs : List D} {nums : List (D × D)} {G B : Nat}
def RchV (fs : List D) (nums : List (D × D)) (st v : VS) : Prop := ∃ k r, r < 2 ^ k ∧ v = goS fs nums k r st
theorem RchV.next {st v : VS} (h : RchV fs nums st v) {b : Nat} (hb : b < 2) : RchV fs nums st (hvS fs nums b v) := by
  obtain ⟨k, r, hr, rfl⟩ := h
  refine ⟨k + 1, r + 2 ^ k * b, ?_, ?_⟩
  · rw [Nat.pow_succ]
    have : 2 ^ k * b ≤ 2 ^ k * 1 := Nat.mul_le_mul_left _ (by omega)
    omega
  · rw [go_add k 1 r b st hr]
    show _ = goS fs nums 0 (b / 2) (hvS fs nums (b % 2) _)
    rw [goS, Nat.mod_eq_of_lt hb]
end
end Z
namespace Z
open Classical
/-- few names, few signs and behinds in a row: all that a verdict wants -/
structure VBk (es : Eqs) (N : List (List Nat)) (G B K : Nat) : Prop where
  cls : ClsB es N
  nd : (es.map (·.1)).Nodup
  kok : ((es.map kvE).all fun p => kOk p.1) = true
  dep : ∀ e ∈ es, e.2.depth ≤ 24
  sz : sizeL es < 90000
  len : es.length ≤ 1000
  s9 : ∀ s ∈ N, ∀ T, look es s = some T → sg9 T
  gb : ∀ s ∈ N, ∀ T, look es s = some T → GBt G B T
  sane : Sane N G B
  hK : LbU N G + ThU N G ≤ 2 ^ K
  hN : codeN N G B K (sizeL es + 1) ≤ 9500000
section
variable {es : Eqs} {N : List (List Nat)} {G B K : Nat}
theorem VBk.start (V : VBk es N G B K) {name : List Nat} (hN : name ∈ N) : VM es N ((laidL es []).1 ++ [.tup [.str [114, 111, 119], .str name]]) G B (sgV es name) (.rope [] 0 (laidL es []).1.length) := by
  refine .rope (t := .row name) (.row (by simp)) (fun r hr => by simp [Tm.rows] at hr; rw [hr]; exact hN) trivial trivial (by simp) (by simp) (fun x hx => (nomatch hx)) fun n => ?_
  unfold RVl
  rw [if_neg (by simp), TV]
  simp
end
end Z
namespace Z
open Classical
theorem hop_low : ∀ (t : Tm) (n : Nat) (s : List Nat) (m : Nat), hop t n = .inr (s, m) → n + 1 ≤ 2 ^ (t.depth - 1) * (m + 1)
  | .row q, n, s, m, h => by simp [hop] at h; obtain ⟨rfl, rfl⟩ := h; simp [Tm.depth]
  | .sign i t, 0, s, m, h => by simp [hop] at h
  | .sign i t, n + 1, s, m, h => by
    have := hop_low t n s m h
    have hp : 1 ≤ t.depth := by cases t <;> simp [Tm.depth]
    have e : t.depth + 1 - 1 = (t.depth - 1) + 1 := by omega
    rw [Tm.depth, e, Nat.pow_succ]
    have : 2 ^ (t.depth - 1) * 2 * (m + 1) = 2 ^ (t.depth - 1) * (m + 1) + 2 ^ (t.depth - 1) * (m + 1) := by rw [Nat.mul_assoc, Nat.mul_comm 2, ← Nat.mul_assoc]; omega
    omega
  | .beh t, n, s, m, h => by
    have := hop_low t (n + 1) s m h
    have hp : 1 ≤ t.depth := by cases t <;> simp [Tm.depth]
    have e : t.depth + 1 - 1 = (t.depth - 1) + 1 := by omega
    rw [Tm.depth, e, Nat.pow_succ]
    have : 2 ^ (t.depth - 1) * 2 * (m + 1) = 2 ^ (t.depth - 1) * (m + 1) + 2 ^ (t.depth - 1) * (m + 1) := by rw [Nat.mul_assoc, Nat.mul_comm 2, ← Nat.mul_assoc]; omega
    omega
  | .zip a b, n, s, m, h => by
    rw [hop] at h
    have up : ∀ t : Tm, t.depth ≤ max a.depth b.depth → n / 2 + 1 ≤ 2 ^ (t.depth - 1) * (m + 1) → n + 1 ≤ 2 ^ ((Tm.zip a b).depth - 1) * (m + 1) := fun t ht h => by
      have hp : 1 ≤ t.depth := by cases t <;> simp [Tm.depth]
      have e : (Tm.zip a b).depth - 1 = max a.depth b.depth := by simp [Tm.depth]
      rw [e]
      have h1 : 2 ^ ((t.depth - 1) + 1) ≤ 2 ^ max a.depth b.depth := Nat.pow_le_pow_right (by decide) (by omega)
      rw [Nat.pow_succ] at h1
      have h2 := Nat.mul_le_mul_right (m + 1) h1
      have : 2 ^ (t.depth - 1) * 2 * (m + 1) = 2 ^ (t.depth - 1) * (m + 1) + 2 ^ (t.depth - 1) * (m + 1) := by rw [Nat.mul_assoc, Nat.mul_comm 2, ← Nat.mul_assoc]; omega
      omega
    split at h
    · exact up a (by omega) (hop_low a _ s m h)
    · exact up b (by omega) (hop_low b _ s m h)
/-- a step without a zip -/
theorem hop_tail : ∀ (t : Tm) (n : Nat) (s : List Nat) (m : Nat), zipf t n = false → hop t n = .inr (s, m) → tailT t = .row s ∧ m + sgs t = n + bhs t
  | .row q, n, s, m, _, h => by simp [hop] at h; obtain ⟨rfl, rfl⟩ := h; simp [tailT, sgs, bhs]
  | .sign i t, 0, s, m, _, h => by simp [hop] at h
  | .sign i t, n + 1, s, m, z, h => by
    obtain ⟨h1, h2⟩ := hop_tail t n s m z h
    exact ⟨h1, by simp only [sgs, bhs]; omega⟩
  | .beh t, n, s, m, z, h => by
    obtain ⟨h1, h2⟩ := hop_tail t (n + 1) s m z h
    exact ⟨h1, by simp only [sgs, bhs]; omega⟩
  | .zip a b, n, s, m, z, h => by simp [zipf] at z
theorem hop_up : ∀ (t : Tm) (n : Nat) (s : List Nat) (m : Nat), hop t n = .inr (s, m) → m ≤ n + (t.depth - 1) ∧ (zipf t n = true → m ≤ n / 2 + (t.depth - 1))
  | .row q, n, s, m, h => by simp [hop] at h; obtain ⟨rfl, rfl⟩ := h; simp [Tm.depth, zipf]
  | .sign i t, 0, s, m, h => by simp [hop] at h
  | .sign i t, n + 1, s, m, h => by
    have hp : 1 ≤ t.depth := by cases t <;> simp [Tm.depth]
    obtain ⟨h1, h2⟩ := hop_up t n s m h
    exact ⟨by simp only [Tm.depth]; omega, fun z => by have := h2 z; simp only [Tm.depth]; omega⟩
  | .beh t, n, s, m, h => by
    have hp : 1 ≤ t.depth := by cases t <;> simp [Tm.depth]
    obtain ⟨h1, h2⟩ := hop_up t (n + 1) s m h
    exact ⟨by simp only [Tm.depth]; omega, fun z => by have := h2 z; simp only [Tm.depth]; omega⟩
  | .zip a b, n, s, m, h => by
    have ha : 1 ≤ a.depth := by cases a <;> simp [Tm.depth]
    have hb : 1 ≤ b.depth := by cases b <;> simp [Tm.depth]
    rw [hop] at h
    split at h
    · obtain ⟨h1, _⟩ := hop_up a (n / 2) s m h
      exact ⟨by simp only [Tm.depth]; omega, fun z => by simp only [Tm.depth]; omega⟩
    · obtain ⟨h1, _⟩ := hop_up b (n / 2) s m h
      exact ⟨by simp only [Tm.depth]; omega, fun z => by simp only [Tm.depth]; omega⟩
/-- a few names, closed, terms at most four deep -/
structure S4 (es : Eqs) (N : List (List Nat)) : Prop where
  cls : ClsB es N
  n4 : N.length ≤ 4
  dep : ∀ s ∈ N, ∀ T, look es s = some T → T.depth ≤ 4
  nd : N.Nodup
section
variable {es : Eqs} {N : List (List Nat)}
/-- paths of names -/
inductive SP (es : Eqs) (C : List Nat → Prop) : List (List Nat) → List Nat → List Nat → Prop
  | here {s : List Nat} : C s → SP es C [] s s
  | next {l : List (List Nat)} {s s1 s2 : List Nat} {T : Tm} : ¬ C s → s ∉ l → look es s = some T → s1 ∈ T.rows → SP es C l s1 s2 → SP es C (s :: l) s s2
theorem SP.cut {C : List Nat → Prop} {l : List (List Nat)} {a b : List Nat} (h : SP es C l a b) : ∀ {s : List Nat}, s ∈ l → ∃ l', SP es C l' s b := by
  induction h with
  | here _ => intro s hs; cases hs
  | next h1 h2 h3 h4 h5 ih =>
    intro s hs
    rcases List.mem_cons.mp hs with rfl | hs
    · exact ⟨_, .next h1 h2 h3 h4 h5⟩
    · exact ih hs
theorem SP.ok (S : S4 es N) {C : List Nat → Prop} {l : List (List Nat)} {a b : List Nat} (h : SP es C l a b) : a ∈ N → l.Nodup ∧ (∀ s ∈ l, s ∈ N ∧ ¬ C s) ∧ b ∈ N ∧ C b := by
  induction h with
  | here hc => exact fun ha => ⟨List.nodup_nil, fun s hs => (nomatch hs), ha, hc⟩
  | next h1 h2 h3 h4 h5 ih =>
    intro ha
    obtain ⟨T', e1, e2⟩ := S.cls.at' _ ha
    rw [h3] at e1
    cases e1
    obtain ⟨i1, i2, i3, i4⟩ := ih (e2 _ h4)
    refine ⟨List.nodup_cons.mpr ⟨h2, i1⟩, fun s hs => ?_, i3, i4⟩
    rcases List.mem_cons.mp hs with rfl | hs
    · exact ⟨ha, h1⟩
    · exact i2 s hs
/-- the walk goes on -/
theorem free_next (S : S4 es N) {c : Call} (hc : c.1 ∈ N) (hf : ∀ j r, ¬ EndIn es j c r) : ∃ (T : Tm) (d : Call), look es c.1 = some T ∧ hop T c.2 = .inr d ∧ nx es c = .inr d ∧ d.1 ∈ N ∧ (∀ j r, ¬ EndIn es j d r) ∧ d.2 ≤ c.2 + 3 ∧ (zipf T c.2 = true → d.2 ≤ c.2 / 2 + 3) ∧ c.2 + 1 ≤ 8 * (d.2 + 1) := by
  obtain ⟨T, hT, hr⟩ := S.cls.at' _ hc
  have hd := S.dep _ hc T hT
  cases hh : hop T c.2 with
  | inl i =>
    exfalso
    refine hf 0 (.sign i) ?_
    rw [EndIn]
    unfold nx
    rw [hT]
    dsimp only
    rw [hh]
  | inr d =>
    have hn := nx_of (es := es) (c := c) hT hh
    obtain ⟨h1, h2, h3⟩ := hop_le T c.2 d.1 d.2 hh
    have h4 := hop_low T c.2 d.1 d.2 hh
    have h8 : 2 ^ (T.depth - 1) ≤ 8 := by
      have := Nat.pow_le_pow_right (show 0 < 2 by decide) (show T.depth - 1 ≤ 3 by omega)
      exact this
    have h9 := Nat.mul_le_mul_right (d.2 + 1) h8
    have h5 : d.2 ≤ c.2 + (T.depth - 1) ∧ (zipf T c.2 = true → d.2 ≤ c.2 / 2 + (T.depth - 1)) := hop_up T c.2 d.1 d.2 hh
    exact ⟨T, d, hT, hh, hn, hr _ h1, fun j r g => hf (j + 1) r ⟨d, hn, g⟩, by omega, fun z => by have := h5.2 z; omega, by omega⟩
end
end Z
namespace Z
open Classical
noncomputable def nxc (es : Eqs) (c : Call) : Call := match nx es c with | .inr d => d | .inl _ => c
noncomputable def wS (es : Eqs) (c : Call) : Nat → Call
  | 0 => c
  | j + 1 => nxc es (wS es c j)
def zq (es : Eqs) (c : Call) : Bool := match look es c.1 with | some T => zipf T c.2 | none => false
theorem zipf_tail : ∀ (t : Tm) (s : List Nat) (n : Nat), tailT t = .row s → zipf t n = false
  | .row _, s, n, _ => rfl
  | .sign _ t, s, 0, _ => rfl
  | .sign _ t, s, n + 1, h => zipf_tail t s n h
  | .beh t, s, n, h => zipf_tail t s (n + 1) h
  | .zip a b, s, n, h => by cases h
section
variable {es : Eqs} {N : List (List Nat)}
structure FW (es : Eqs) (N : List (List Nat)) (c : Call) : Prop where
  mem : c.1 ∈ N
  free : ∀ j r, ¬ EndIn es j c r
theorem FW.at (S : S4 es N) {c : Call} (h : FW es N c) : ∀ j, FW es N (wS es c j) ∧ nx es (wS es c j) = .inr (wS es c (j + 1))
  | 0 => by
    obtain ⟨T, d, h1, h2, h3, h4, h5, _⟩ := free_next S h.mem h.free
    exact ⟨h, by show nx es c = .inr (nxc es c); unfold nxc; rw [h3]⟩
  | j + 1 => by
    obtain ⟨i1, i2⟩ := h.at S j
    obtain ⟨T, d, h1, h2, h3, h4, h5, _⟩ := free_next S i1.mem i1.free
    have e : wS es c (j + 1) = d := by
      rw [h3] at i2
      injection i2 with i2
      exact i2.symm
    have hf : FW es N (wS es c (j + 1)) := by rw [e]; exact ⟨h4, h5⟩
    obtain ⟨T', d', g1, g2, g3, g4, g5, _⟩ := free_next S hf.mem hf.free
    exact ⟨hf, by show nx es (wS es c (j + 1)) = .inr (nxc es (wS es c (j + 1))); unfold nxc; rw [g3]⟩
theorem FW.step (S : S4 es N) {c : Call} (h : FW es N c) (j : Nat) : ∃ T, look es (wS es c j).1 = some T ∧ hop T (wS es c j).2 = .inr (wS es c (j + 1)) ∧ (wS es c (j + 1)).2 ≤ (wS es c j).2 + 3 ∧ (zq es (wS es c j) = true → (wS es c (j + 1)).2 ≤ (wS es c j).2 / 2 + 3) ∧ (wS es c j).2 + 1 ≤ 8 * ((wS es c (j + 1)).2 + 1) := by
  obtain ⟨i1, i2⟩ := h.at S j
  obtain ⟨T, d, h1, h2, h3, h4, h5, h6, h7, h8⟩ := free_next S i1.mem i1.free
  rw [h3] at i2
  injection i2 with i2
  subst i2
  refine ⟨T, h1, h2, h6, fun z => h7 ?_, h8⟩
  unfold zq at z
  rw [h1] at z
  exact z
theorem FW.rch (S : S4 es N) {c : Call} (h : FW es N c) : ∀ j, Rch es j c (wS es c j)
  | 0 => rfl
  | j + 1 => (h.rch S j).snoc (h.at S j).2
/-- along a row of names -/
theorem FW.along (S : S4 es N) {c : Call} (h : FW es N c) {k : Nat} {T : Tm} {s : List Nat} {σ β : Nat} (hr : RC es k T s σ β) : ∀ x, look es (wS es c x).1 = some T → (wS es c (x + k + 1)).1 = s ∧ (wS es c (x + k + 1)).2 + σ = (wS es c x).2 + β := by
  induction hr with
  | @here t s ht =>
    intro x hx
    obtain ⟨T, h1, h2, _⟩ := h.step S x
    rw [hx] at h1
    cases h1
    have hz := zipf_tail t s (wS es c x).2 ht
    obtain ⟨q1, q2⟩ := hop_tail t _ (wS es c (x + 1)).1 (wS es c (x + 1)).2 hz h2
    rw [ht] at q1
    cases q1
    exact ⟨rfl, q2⟩
  | @next t T s q k σ β ht hl hr ih =>
    intro x hx
    obtain ⟨T', h1, h2, _⟩ := h.step S x
    rw [hx] at h1
    cases h1
    have hz := zipf_tail t s (wS es c x).2 ht
    obtain ⟨q1, q2⟩ := hop_tail t _ (wS es c (x + 1)).1 (wS es c (x + 1)).2 hz h2
    rw [ht] at q1
    injection q1 with q1
    obtain ⟨i1, i2⟩ := ih (x + 1) (by rw [← q1]; exact hl)
    rw [show x + (k + 1) + 1 = x + 1 + k + 1 by omega]
    exact ⟨i1, by omega⟩
/-- within a segment no name twice, up to K -/
def NoA (es : Eqs) (c : Call) (K : Nat) : Prop := ∀ b a, b < a → a ≤ K → (∀ j, b ≤ j → j < a → zq es (wS es c j) = false) → (wS es c b).1 ≠ (wS es c a).1
theorem NoA.zip (S : S4 es N) {c : Call} (h : FW es N c) {K : Nat} (hA : NoA es c K) {j : Nat} (hj : j + 4 ≤ K) : ∃ i, j ≤ i ∧ i < j + 4 ∧ zq es (wS es c i) = true := by
  by_cases hx : ∃ i, j ≤ i ∧ i < j + 4 ∧ zq es (wS es c i) = true
  · exact hx
  · exfalso
    have hz : ∀ i, j ≤ i → i < j + 4 → zq es (wS es c i) = false := fun i h1 h2 => by
      cases hq : zq es (wS es c i) with
      | false => rfl
      | true => exact absurd ⟨i, h1, h2, hq⟩ hx
    obtain ⟨i1, i2, h1, h2, e⟩ := two_same (L := N) (fun i => (wS es c (j + min i 4)).1) (fun i _ => (h.at S _).1.mem)
    have := S.n4
    exact hA (j + min i1 4) (j + min i2 4) (by omega) (by omega) (fun i g1 g2 => hz i (by omega) (by omega)) e
theorem NoA.fall (S : S4 es N) {c : Call} (h : FW es N c) {K : Nat} (hA : NoA es c K) {j : Nat} (hj : j + 4 ≤ K) : (wS es c (j + 4)).2 ≤ (wS es c j).2 / 2 + 12 := by
  obtain ⟨i, h1, h2, h3⟩ := hA.zip S h hj
  have st : ∀ x y, y = x + 1 → (wS es c y).2 ≤ (wS es c x).2 + 3 ∧ (zq es (wS es c x) = true → (wS es c y).2 ≤ (wS es c x).2 / 2 + 3) := fun x y e => by
    subst e
    obtain ⟨_, _, _, a, b, _⟩ := h.step S x
    exact ⟨a, b⟩
  obtain ⟨a0, b0⟩ := st j (j + 1) rfl
  obtain ⟨a1, b1⟩ := st (j + 1) (j + 2) rfl
  obtain ⟨a2, b2⟩ := st (j + 2) (j + 3) rfl
  obtain ⟨a3, b3⟩ := st (j + 3) (j + 4) rfl
  have hi : i = j ∨ i = j + 1 ∨ i = j + 2 ∨ i = j + 3 := by omega
  rcases hi with rfl | rfl | rfl | rfl
  · have := b0 h3; omega
  · have := b1 h3; omega
  · have := b2 h3; omega
  · have := b3 h3; omega
theorem NoA.low (S : S4 es N) {c : Call} (h : FW es N c) {K X : Nat} (hA : NoA es c K) (hX : c.2 ≤ 2 ^ X) : ∀ i, 4 * i ≤ K → (wS es c (4 * i)).2 ≤ 24 + 2 ^ (X - i)
  | 0, _ => by
    show c.2 ≤ _
    rw [Nat.sub_zero]
    omega
  | i + 1, hi => by
    have ih := hA.low S h hX i (by omega)
    have hf := hA.fall S h (j := 4 * i) (by omega)
    rw [show 4 * (i + 1) = 4 * i + 4 by omega]
    by_cases c : i < X
    · have e : X - i = (X - (i + 1)) + 1 := by omega
      rw [e, Nat.pow_succ] at ih
      omega
    · have e : X - i = 0 := by omega
      have e2 : X - (i + 1) = 0 := by omega
      rw [e] at ih
      rw [e2]
      omega
theorem NoA.small (S : S4 es N) {c : Call} (h : FW es N c) {K X : Nat} (hA : NoA es c K) (hX : c.2 ≤ 2 ^ X) {j : Nat} (h1 : 4 * X ≤ j) (h2 : j ≤ K) : (wS es c j).2 ≤ 34 := by
  have hl := hA.low S h hX (j / 4) (by omega)
  have e : X - j / 4 = 0 := by omega
  rw [e] at hl
  have st : ∀ x y, y = x + 1 → (wS es c y).2 ≤ (wS es c x).2 + 3 := fun x y e => by
    subst e
    obtain ⟨_, _, _, a, b, _⟩ := h.step S x
    exact a
  have a0 := st (4 * (j / 4)) (4 * (j / 4) + 1) rfl
  have a1 := st (4 * (j / 4) + 1) (4 * (j / 4) + 2) rfl
  have a2 := st (4 * (j / 4) + 2) (4 * (j / 4) + 3) rfl
  have hi : j = 4 * (j / 4) ∨ j = 4 * (j / 4) + 1 ∨ j = 4 * (j / 4) + 2 ∨ j = 4 * (j / 4) + 3 := by omega
  have fin : ∀ y, j = y → (wS es c y).2 ≤ 34 → (wS es c j).2 ≤ 34 := fun y e h => by rw [e]; exact h
  rcases hi with e | e | e | e
  · exact fin _ e (by omega)
  · exact fin _ e (by omega)
  · exact fin _ e (by omega)
  · exact fin _ e (by omega)
theorem NoA.count (S : S4 es N) {c : Call} (h : FW es N c) {K X : Nat} (hA : NoA es c (K - 1)) (hX : c.2 ≤ 2 ^ X) (hnd : ((List.range K).map (wS es c)).Nodup) : K ≤ 4 * X + 140 := by
  by_cases c0 : K ≤ 4 * X
  · omega
  · have hsub : ((List.range (K - 4 * X)).map fun j => wS es c (4 * X + j)).Nodup := by
      have e : (List.range K).map (wS es c) = (List.range (4 * X)).map (wS es c) ++ (List.range (K - 4 * X)).map fun j => wS es c (4 * X + j) := by
        have h1 : K = 4 * X + (K - 4 * X) := by omega
        conv => lhs; rw [h1, List.range_add, List.map_append, List.map_map]
        rfl
      rw [e, List.nodup_append] at hnd
      exact hnd.2.1
    have := few_calls N 35 _ hsub fun x hx => by
      obtain ⟨j, hj, rfl⟩ := List.mem_map.mp hx
      have hj := List.mem_range.mp hj
      have := hA.small S h hX (j := 4 * X + j) (by omega) (by omega)
      exact ⟨(h.at S _).1.mem, by omega⟩
    have n4 := S.n4
    have : N.length * 35 ≤ 4 * 35 := Nat.mul_le_mul_right _ n4
    simp at *
    omega
end
end Z
namespace Z
open Classical
section
variable {es : Eqs} {N : List (List Nat)}
/-- round and round -/
theorem FW.round (S : S4 es N) {c : Call} (h : FW es N c) {k b : Nat} {T : Tm} {σ β : Nat} (hT : look es (wS es c b).1 = some T) (hr : RC es k T (wS es c b).1 σ β) : ∀ q, (wS es c (b + q * (k + 1))).1 = (wS es c b).1 ∧ (wS es c (b + q * (k + 1))).2 + q * σ = (wS es c b).2 + q * β
  | 0 => by simp
  | q + 1 => by
    obtain ⟨i1, i2⟩ := h.round S hT hr q
    obtain ⟨g1, g2⟩ := h.along S hr (b + q * (k + 1)) (by rw [i1]; exact hT)
    have e : b + (q + 1) * (k + 1) = b + q * (k + 1) + k + 1 := by rw [Nat.add_mul, Nat.one_mul]; omega
    rw [e]
    refine ⟨g1, ?_⟩
    rw [Nat.add_mul q 1 σ, Nat.add_mul q 1 β, Nat.one_mul, Nat.one_mul]
    omega
end
end Z
namespace Z
open Classical
section
variable (m : List Q) (ks : List Nat) (nm : Nat → List Nat) (k0' : Nat)
def tmM (k : Nat) : Tm := .sign (stq m k).s (.beh (.zip (.row (nm (stq m k).e)) (.row (nm (stq m k).o))))
def esM : Eqs := ks.map fun k => (nm k, tmM m nm k)
end
section
variable {m : List Q} {ks : List Nat} {nm : Nat → List Nat} {k0' : Nat}
/-- all states of the machine are told, each once -/
structure Told77 (m : List Q) (ks : List Nat) (nm : Nat → List Nat) : Prop where
  M : Mach m
  nd : ks.Nodup
  lt : ∀ k ∈ ks, k < m.length
  all : ∀ k, k < m.length → k ∈ ks
  names : (ks.map nm).Nodup
  few : m.length ≤ 8
theorem Told77.len (h : Told77 m ks nm) : ks.length = m.length := by
  have h1 := nat_nodup_len m.length ks h.nd h.lt
  have h2 := nodup_len (P := List.range m.length) (L := ks) List.nodup_range (fun k hk => h.all k (List.mem_range.mp hk))
  simp at h2
  omega
end
end Z
namespace Z
open Classical
structure CT (S : Store) (r d : Nat) (es : Eqs) : Prop where
  gr : S[r]? = some (.ins "Coming" [("terms", .ref d)])
  td : TD S d es
theorem CT.keep {S S' : Store} {r d : Nat} {es : Eqs} (h : CT S r d es) (k : Keep S S') : CT S' r d es := ⟨k.get h.gr, h.td.keep k⟩
end Z
namespace Z
open Classical
section
variable {S : Store} {r d : Nat} {es : Eqs} {names : List (List Nat)}
theorem CB.ct (h : CB S r d es) : CT S r d es := ⟨h.gr, .inl h.gd⟩
/-- all names have their equations -/
def AllT (names : List (List Nat)) (es : Eqs) : Prop := ∀ s ∈ names, (look es s).isSome = true
end
end Z
namespace Z
open Classical
theorem sp_kp {S S' : Store} {p c : Nat} (h : Sp S p c) (k : Keep S S') : Sp S' p c := by
  obtain ⟨s, h⟩ := h
  exact ⟨s, ⟨h.ne, k.get h.hp, k.get h.hc, h.ok⟩⟩
def nmF (names : List (List Nat)) (k : Nat) : List Nat := names.getD k []
structure TL (T : Store) (p c ln r d lf : Nat) (m : List Q) (names : List (List Nat)) (ks vs : List Nat) : Prop where
  sp : Sp T p c
  gn : T[ln]? = some (.lst (names.map .str))
  cb : CB T r d (esM m ks (nmF names))
  gl : T[lf]? = some (.lst (natD vs))
  nd : (ks ++ vs).Nodup
  mem : ∀ k, k ∈ ks ++ vs ↔ k < m.length
  n1 : ln ≠ p ∧ ln ≠ c ∧ ln ≠ d ∧ ln ≠ lf
  n2 : r ≠ p ∧ r ≠ c ∧ r ≠ lf
  n3 : d ≠ p ∧ d ≠ c ∧ d ≠ lf
  n4 : lf ≠ p ∧ lf ≠ c
structure Nms (m : List Q) (names : List (List Nat)) : Prop where
  M : Mach m
  few : m.length ≤ 8
  l8 : names.length = 8
  ok : ∀ s ∈ names, IsNm s
  nd : names.Nodup
section
variable {T : Store} {p c ln r d lf : Nat} {m : List Q} {names : List (List Nat)} {ks vs : List Nat}
theorem Nms.at (N : Nms m names) {k : Nat} (hk : k < m.length) : names[k]? = some (nmF names k) := by
  have h1 := N.l8
  have h2 := N.few
  unfold nmF
  rw [List.getD_eq_getElem?_getD, List.getElem?_eq_getElem (by omega)]
  rfl
theorem Nms.mem (N : Nms m names) {k : Nat} (hk : k < m.length) : nmF names k ∈ names := List.mem_of_getElem? (N.at hk)
theorem Nms.inj (N : Nms m names) {k j : Nat} (hk : k < m.length) (hj : j < m.length) (e : nmF names k = nmF names j) : k = j := nodup_ix N.nd (by rw [N.at hk, e]) (N.at hj)
theorem TL.lt (L : TL T p c ln r d lf m names ks vs) : ∀ k ∈ ks, k < m.length := fun k hk => (L.mem k).mp (List.mem_append_left _ hk)
theorem TL.count (L : TL T p c ln r d lf m names ks vs) : ks.length + vs.length = m.length := by
  have h1 := nodup_len L.nd (L := List.range m.length) (fun k hk => List.mem_range.mpr ((L.mem k).mp hk))
  have h2 := nodup_len (P := List.range m.length) (L := ks ++ vs) List.nodup_range (fun k hk => (L.mem k).mpr (List.mem_range.mp hk))
  simp at h1 h2
  omega
theorem TL.keep (L : TL T p c ln r d lf m names ks vs) {T' : Store} (k : Keep T T') : TL T' p c ln r d lf m names ks vs := ⟨sp_kp L.sp k, k.get L.gn, L.cb.keep k, k.get L.gl, L.nd, L.mem, L.n1, L.n2, L.n3, L.n4⟩
theorem TL.fr (L : TL T p c ln r d lf m names ks vs) {T' : Store} (f : Fr p c T T') (hs : Sp T' p c) : TL T' p c ln r d lf m names ks vs := by
  have g : ∀ {i : Nat} {o : MO}, T[i]? = some o → i ≠ p → i ≠ c → T'[i]? = some o := fun {i o} h a b => by
    rw [f.old i (List.getElem?_eq_some_iff.mp h).1 a b]
    exact h
  exact ⟨hs, g L.gn L.n1.1 L.n1.2.1, ⟨g L.cb.gr L.n2.1 L.n2.2.1, g L.cb.gd L.n3.1 L.n3.2.1⟩, g L.gl L.n4.1 L.n4.2, L.nd, L.mem, L.n1, L.n2, L.n3, L.n4⟩
end
end Z
namespace Z
open Classical
theorem in_sg9 {ns : List (List Nat)} : ∀ {t : Tm}, t.In ns → sg9 t ∧ ∀ r ∈ t.rows, r ∈ ns
  | .row s, h => ⟨trivial, fun r hr => by simp [Tm.rows] at hr; rw [hr]; exact h⟩
  | .sign i t, h => by
    obtain ⟨h1, h2⟩ := in_sg9 (t := t) h.2
    have hi : i < 10 := h.1
    exact ⟨⟨by omega, h1⟩, h2⟩
  | .beh t, h => in_sg9 (t := t) h
  | .zip a b, h => by
    obtain ⟨a1, a2⟩ := in_sg9 (t := a) h.1
    obtain ⟨b1, b2⟩ := in_sg9 (t := b) h.2
    exact ⟨⟨a1, b1⟩, fun r hr => by
      rcases List.mem_append.mp hr with hr | hr
      · exact a2 r hr
      · exact b2 r hr⟩
theorem size_depth : ∀ {t : Tm}, t.size + 1 ≤ 2 ^ t.depth
  | .row _ => by simp [Tm.size, Tm.depth]
  | .sign i t => by
    have := size_depth (t := t)
    simp only [Tm.size, Tm.depth, Nat.pow_succ]
    omega
  | .beh t => by
    have := size_depth (t := t)
    simp only [Tm.size, Tm.depth, Nat.pow_succ]
    omega
  | .zip a b => by
    have h1 := size_depth (t := a)
    have h2 := size_depth (t := b)
    have p1 : 2 ^ a.depth ≤ 2 ^ max a.depth b.depth := Nat.pow_le_pow_right (by decide) (by omega)
    have p2 : 2 ^ b.depth ≤ 2 ^ max a.depth b.depth := Nat.pow_le_pow_right (by decide) (by omega)
    simp only [Tm.size, Tm.depth, Nat.pow_succ]
    omega
/-- told equations: names unlike, terms of them -/
structure Bk4 (es : Eqs) : Prop where
  nd : (es.map (·.1)).Nodup
  inn : ∀ e ∈ es, e.2.In (es.map (·.1))
  dep : ∀ e ∈ es, e.2.depth ≤ 4
  nm : ∀ e ∈ es, IsNm e.1
section
variable {es : Eqs}
theorem Bk4.cls (b : Bk4 es) : ClsB es (es.map (·.1)) := ⟨fun s hs => by
  obtain ⟨t, ht⟩ := look_some hs
  exact ⟨t, ht, (in_sg9 (b.inn _ (look_mem ht))).2⟩⟩
theorem Bk4.all (es : Eqs) : AllT (es.map (·.1)) es := fun s hs => by
  obtain ⟨t, ht⟩ := look_some hs
  rw [ht]
  rfl
end
end Z
namespace Z
open Classical
inductive RchN (es : Eqs) (s : List Nat) : List Nat → Prop
  | self : RchN es s s
  | go {x y : List Nat} {t : Tm} : RchN es s x → look es x = some t → y ∈ t.rows → RchN es s y
/-- all that it leads to is told -/
def Rdy (es : Eqs) (s : List Nat) : Prop := ∀ x, RchN es s x → x ∈ es.map (·.1)
theorem RchN.trans {es : Eqs} {s x y : List Nat} (h : RchN es s x) (g : RchN es x y) : RchN es s y := by
  induction g with
  | self => exact h
  | go _ h1 h2 ih => exact .go ih h1 h2
theorem Rdy.told {es : Eqs} {s : List Nat} (h : Rdy es s) : s ∈ es.map (·.1) := h s .self
theorem RchN.cls {es : Eqs} {N : List (List Nat)} (C : ClsB es N) {s x : List Nat} (h : RchN es s x) (hs : s ∈ N) : x ∈ N := by
  induction h with
  | self => exact hs
  | go _ h1 h2 ih =>
    obtain ⟨T, h3, h4⟩ := C.at' _ ih
    rw [h1] at h3
    cases h3
    exact h4 _ h2
/-- what a ready name leads to -/
noncomputable def rdN (es : Eqs) (s : List Nat) : List (List Nat) := (es.map (·.1)).filter fun x => decide (RchN es s x)
theorem rdN_mem {es : Eqs} {s x : List Nat} : x ∈ rdN es s ↔ x ∈ es.map (·.1) ∧ RchN es s x := by
  unfold rdN
  rw [List.mem_filter]
  simp
theorem Rdy.cls {es : Eqs} {s : List Nat} (h : Rdy es s) : ClsB es (rdN es s) := ⟨fun x hx => by
  obtain ⟨h1, h2⟩ := rdN_mem.mp hx
  obtain ⟨t, ht⟩ := look_some h1
  exact ⟨t, ht, fun r hr => rdN_mem.mpr ⟨h r (.go h2 ht hr), .go h2 ht hr⟩⟩⟩
theorem Rdy.mem {es : Eqs} {s : List Nat} (h : Rdy es s) : s ∈ rdN es s := rdN_mem.mpr ⟨h.told, .self⟩
end Z
namespace Z
open Classical
structure Bk8 (U : List (List Nat)) (es : Eqs) : Prop where
  nd : (es.map (·.1)).Nodup
  len : es.length ≤ 8
  u : U.length ≤ 50
  nm : ∀ s ∈ U, IsNm s
  sub : ∀ e ∈ es, e.1 ∈ U
  inn : ∀ e ∈ es, e.2.In U
  dep : ∀ e ∈ es, e.2.depth ≤ 4
section
variable {U : List (List Nat)} {es : Eqs}
theorem Bk8.sz (b : Bk8 U es) : ∀ e ∈ es, e.2.size ≤ 15 := fun e he => by
  have := size_depth (t := e.2)
  have h2 : 2 ^ e.2.depth ≤ 2 ^ 4 := Nat.pow_le_pow_right (by decide) (b.dep e he)
  omega
end
end Z
namespace Z
open Classical
theorem Fr.at {p c : Nat} {S S' : Store} (f : Fr p c S S') {i : Nat} {o : MO} (h : S[i]? = some o) (h1 : i ≠ p) (h2 : i ≠ c) : S'[i]? = some o := by
  rw [f.old i (List.getElem?_eq_some_iff.mp h).1 h1 h2]
  exact h
theorem CB.fr {p c : Nat} {S S' : Store} {r d : Nat} {es : Eqs} (h : CB S r d es) (f : Fr p c S S') (h1 : r ≠ p) (h2 : r ≠ c) (h3 : d ≠ p) (h4 : d ≠ c) : CB S' r d es := ⟨f.at h.gr h1 h2, f.at h.gd h3 h4⟩
end Z
namespace Z
open Classical
structure TmB (k : Nat) (t : Tm) : Prop where
  s : sgs t ≤ k
  b : bhs t ≤ k
  s9 : sg9 t
  g : GBt 6 6 t
  z : t.size ≤ 1 + 6 * k
structure OtB (t : Tm) : Prop where
  s9 : sg9 t
  g : GBt 6 6 t
  z : t.size ≤ 5
structure TmE (t : Tm) : Prop where
  s9 : sg9 t
  g : GBt 6 6 t
  z : t.size ≤ 32
theorem tmb_row {s : List Nat} : TmB 0 (.row s) := ⟨by simp [sgs], by simp [bhs], trivial, trivial, by simp [Tm.size]⟩
theorem TmB.sign {k i : Nat} {t : Tm} (h : TmB k t) (hi : i ≤ 9) (hk : k < 5) : TmB (k + 1) (.sign i t) := by
  have h1 := h.s; have h2 := h.b; have h5 := h.z
  exact ⟨by simp only [sgs]; omega, by simp only [bhs]; omega, ⟨hi, h.s9⟩, ⟨by omega, by omega, h.g⟩, by simp only [Tm.size]; omega⟩
theorem TmB.beh {k : Nat} {t : Tm} (h : TmB k t) (hk : k < 5) : TmB (k + 1) (.beh t) := by
  have h1 := h.s; have h2 := h.b; have h5 := h.z
  exact ⟨by simp only [sgs]; omega, by simp only [bhs]; omega, h.s9, ⟨by omega, by omega, h.g⟩, by simp only [Tm.size]; omega⟩
theorem TmB.zipl {k : Nat} {t o : Tm} (h : TmB k t) (q : OtB o) : TmB (k + 1) (.zip t o) := by
  have h5 := h.z; have h6 := q.z
  exact ⟨by simp [sgs], by simp [bhs], ⟨h.s9, q.s9⟩, ⟨h.g, q.g⟩, by simp only [Tm.size]; omega⟩
theorem TmB.zipr {k : Nat} {t o : Tm} (h : TmB k t) (q : OtB o) : TmB (k + 1) (.zip o t) := by
  have h5 := h.z; have h6 := q.z
  exact ⟨by simp [sgs], by simp [bhs], ⟨q.s9, h.s9⟩, ⟨q.g, h.g⟩, by simp only [Tm.size]; omega⟩
theorem TmB.mono {k j : Nat} {t : Tm} (h : TmB k t) (q : k ≤ j) : TmB j t := by
  have h1 := h.s; have h2 := h.b; have h5 := h.z
  exact ⟨by omega, by omega, h.s9, h.g, by omega⟩
theorem TmB.toE {t : Tm} (h : TmB 5 t) : TmE t := ⟨h.s9, h.g, by have := h.z; omega⟩
theorem TmB.signE {i : Nat} {t : Tm} (h : TmB 5 t) (hi : i ≤ 9) : TmE (.sign i t) := by
  have h1 := h.s; have h2 := h.b; have h5 := h.z
  exact ⟨⟨hi, h.s9⟩, ⟨by omega, by omega, h.g⟩, by simp only [Tm.size]; omega⟩
theorem otb1 {i : Nat} {s1 s2 : List Nat} (hi : i ≤ 9) : OtB (.beh (.zip (.sign i (.row s1)) (.row s2))) := ⟨⟨⟨hi, trivial⟩, trivial⟩, ⟨by simp [sgs], by simp [bhs], ⟨by simp [sgs], by simp [bhs], trivial⟩, trivial⟩, by simp [Tm.size]⟩
theorem otb2 {i : Nat} {s1 : List Nat} (hi : i ≤ 9) : OtB (.sign i (.row s1)) := ⟨⟨hi, trivial⟩, ⟨by simp [sgs], by simp [bhs], trivial⟩, by simp [Tm.size]⟩
theorem otb3 {s1 s2 : List Nat} : OtB (.beh (.zip (.row s1) (.row s2))) := ⟨⟨trivial, trivial⟩, ⟨by simp [sgs], by simp [bhs], trivial, trivial⟩, by simp [Tm.size]⟩
theorem otb4 {s1 : List Nat} : OtB (.row s1) := ⟨trivial, trivial, by simp [Tm.size]⟩
theorem poolw_nm : ∀ p ∈ poolw, ∀ s ∈ p, IsNm s := by
  have h : ∀ p ∈ poolw, ∀ s ∈ p, 1 ≤ s.length ∧ s.length ≤ 8 ∧ (∀ k ∈ s, k ∈ Z.az) ∧ s ≠ wZip ∧ s ≠ wBeh := by decide
  exact fun p hp s hs => let ⟨a, b, c, d, e⟩ := h p hp s hs; ⟨a, b, c, d, e⟩
/-- the cells, the same at each store -/
theorem s_law_cellU {ns : List Int} (hl : ns.length ≤ 63) {k : Int} (h0 : 0 ≤ k) (h1 : k < 1000) : ∃ c : Int, (∀ S, R_law_cell [.fl (ns.map .int), .int k] S = some (.ok (.int c) S)) ∧ 0 ≤ c ∧ c < 1000000000000000000 := by
  have e18 : (10:Int) ^ (18:Int).toNat = 1000000000000000000 := by decide
  have hk : small k := (small_iff k).mpr (by omega)
  by_cases hc : k < ns.length
  · have hv : k.toNat < ns.length := by omega
    refine ⟨ns[k.toNat] % 1000000000000000000, fun S => ?_, Int.emod_nonneg _ (by decide), Int.emod_lt_of_pos _ (by decide)⟩
    unfold R_law_cell
    rw [run_eq (n := 2) _ _ rfl]
    unfold b_law_cell
    simp [hc, atI, ixN, h0, hv, small_iff (10 : Int)]
  · have fin : ∀ near : Int, small (near * 48271 % 2147483647) ∧ 0 ≤ (near * 48271 % 2147483647) ^ 5 % 2147483647 / 3 ∧ (near * 48271 % 2147483647) ^ 5 % 2147483647 / 3 < 1000000000000000000 := fun near => by
      have a := Int.emod_nonneg (near * 48271) (b := 2147483647) (by decide)
      have b := Int.emod_lt_of_pos (near * 48271) (b := 2147483647) (by decide)
      have c := Int.emod_nonneg ((near * 48271 % 2147483647) ^ 5) (b := 2147483647) (by decide)
      have d := Int.emod_lt_of_pos ((near * 48271 % 2147483647) ^ 5) (b := 2147483647) (by decide)
      exact ⟨(small_iff _).mpr (by omega), by omega, by omega⟩
    cases ns with
    | nil =>
      obtain ⟨f1, f2, f3⟩ := fin (19 + 11 * k * k)
      refine ⟨(((19 + 11 * k * k) * 48271 % 2147483647) ^ 5 % 2147483647 / 3), fun S => ?_, f2, f3⟩
      unfold R_law_cell
      rw [run_eq (n := 2) _ _ rfl]
      unfold b_law_cell
      simp at hc
      have hc' : ¬ k < 0 := by omega
      simp [hc', hk, small_iff (11 : Int), small_iff (48271 : Int), f1]
    | cons x r =>
      have hm0 := Int.emod_nonneg k (b := ((x :: r).length : Int)) (by simp only [List.length_cons]; omega)
      have hm1 := Int.emod_lt_of_pos k (b := ((x :: r).length : Int)) (by simp only [List.length_cons]; omega)
      obtain ⟨y, q1, q2⟩ := atI_mem (xs := (x :: r).map D.int) hm0 (by simpa using hm1)
      obtain ⟨z, q3, rfl⟩ := List.mem_map.mp q2
      obtain ⟨f1, f2, f3⟩ := fin (19 + 11 * k * k + z % 1000003 * (k + 7))
      refine ⟨(((19 + 11 * k * k + z % 1000003 * (k + 7)) * 48271 % 2147483647) ^ 5 % 2147483647 / 3), fun S => ?_, f2, f3⟩
      unfold R_law_cell
      rw [run_eq (n := 2) _ _ rfl]
      unfold b_law_cell
      simp at hc q1
      have hc' : ¬ k < (r.length : Int) + 1 := by omega
      have hpos : (0 : Int) < (r.length : Int) + 1 := by omega
      have hk7 : small (k + 7) := (small_iff _).mpr (by omega)
      simp [hc', hpos, hk, hk7, small_iff (11 : Int), small_iff (48271 : Int), f1, q1]
theorem term_step {names : List (List Nat)} {cell : Int} {size : Nat} (hn : 0 < names.length) (hs : size ≤ 5) {k : Nat} (hk : k < size) {t : Tm} {rest : Int} (hd : t.depth ≤ k + 5) (hw : t.Rw names) (hB : TmB k t) :
    ∃ (t' : Tm) (rest' : Int), t'.depth ≤ k + 1 + 5 ∧ t'.Rw names ∧ TmB (k + 1) t' ∧ ∀ (S : Store) (l : Nat), S[l]? = some (.lst (names.map .str)) → ∀ (o6 o7 : Option D), ∃ (o6' o7' : Option D) (G : Store), lb_law_term_v2_1 [some (.int cell), some (.ref l), some (.int size), some t.d, some (.int rest), some (.int k), o6, o7] S = some (.nx [some (.int cell), some (.ref l), some (.int size), some t'.d, some (.int rest'), some (.int k), o6', o7'] (S ++ G)) := by
  have hk' : small (k : Int) := small_nat (by omega)
  have hr0 : (0:Int) < 5 := by decide
  by_cases c1 : rest % 5 < 2
  · obtain ⟨i, hi, hi3⟩ := mod_nat (rest / 5 + 977 * (k : Int)) (m := 3) (by decide)
    obtain ⟨j, hj, hj2⟩ := mod_nat cell (m := 2) (by decide)
    refine ⟨.sign (i + 7 * j) t, rest / 5 + 977 * (k : Int), by simp [Tm.depth]; omega, hw, hB.sign (by omega) (by omega), fun S l hg o6 o7 => ⟨some (.int (rest % 5)), o7, [], ?_⟩⟩
    simp [lb_law_term_v2_1, hk', c1, hi, hj, Tm.d]
  by_cases c2 : rest % 5 = 2
  · refine ⟨.beh t, rest / 5 + 977 * (k : Int), by simp [Tm.depth]; omega, hw, hB.beh (by omega), fun S l hg o6 o7 => ⟨some (.int (rest % 5)), o7, [], ?_⟩⟩
    simp [lb_law_term_v2_1, hk', c2, Tm.d]
  · let r : Int := rest / 5 + 977 * (k : Int)
    have hnL : (0 : Int) < names.length := by omega
    obtain ⟨s1, m1, p1⟩ := pick_str hn (r / 3)
    obtain ⟨s2, m2, p2⟩ := pick_str hn (r / 19)
    obtain ⟨i, hi, hi3⟩ := mod_nat (r / 13) (m := 3) (by decide)
    obtain ⟨o, ho, how, hoB, hod⟩ : ∃ o : Tm, o.depth ≤ 4 ∧ o.Rw names ∧ OtB o ∧ o.d = (if k = 0 ∧ r / 17 % 4 = 0 then D.tup [.str wBeh, .tup [.str wZip, (if r / 11 % 2 = 0 then D.tup [.str wSign, .int (r / 13 % 3), .tup [.str wRow, .str s1]] else .tup [.str wRow, .str s1]), .tup [.str wRow, .str s2]]] else (if r / 11 % 2 = 0 then D.tup [.str wSign, .int (r / 13 % 3), .tup [.str wRow, .str s1]] else .tup [.str wRow, .str s1])) := by
      by_cases d1 : r / 11 % 2 = 0 <;> by_cases d2 : k = 0 ∧ r / 17 % 4 = 0
      · exact ⟨.beh (.zip (.sign i (.row s1)) (.row s2)), by simp [Tm.depth], rw_zip (a := .sign i (.row s1)) (rw_row m1) (rw_row m2), otb1 (by omega), by simp [Tm.d, d1, d2, hi]⟩
      · exact ⟨.sign i (.row s1), by simp [Tm.depth], rw_row m1, otb2 (by omega), by simp [Tm.d, d1, d2, hi]⟩
      · exact ⟨.beh (.zip (.row s1) (.row s2)), by simp [Tm.depth], rw_zip (rw_row m1) (rw_row m2), otb3, by simp [Tm.d, d1, d2]⟩
      · exact ⟨.row s1, by simp [Tm.depth], rw_row m1, otb4, by simp [Tm.d, d1, d2]⟩
    have v0 := Int.emod_nonneg (r / 2) (b := 2) (by decide)
    have v1 := Int.emod_lt_of_pos (r / 2) (b := 2) (by decide)
    have hsel : atI [(Tm.zip t o).d, (Tm.zip o t).d] (r / 2 % 2) = some (if r / 2 % 2 = 0 then Tm.zip t o else .zip o t).d := by
      by_cases e : r / 2 % 2 = 0
      · rw [e]; simp [at0]
      · have e' : r / 2 % 2 = ((1 : Nat) : Int) := by omega
        rw [if_neg e, e']; simp [atI, ixN]
    refine ⟨if r / 2 % 2 = 0 then Tm.zip t o else .zip o t, r, ?_, ?_, ?_, fun S l hg o6 o7 => ⟨some (.int (rest % 5)), some o.d, [.lst [(Tm.zip t o).d, (Tm.zip o t).d]], ?_⟩⟩
    · split <;> (simp [Tm.depth]; omega)
    · split
      · exact rw_zip hw how
      · exact rw_zip how hw
    · split
      · exact hB.zipl hoB
      · exact hB.zipr hoB
    · have c1' : ¬ rest % 5 < 2 := c1
      have er : rest / 5 + 977 * (k : Int) = r := rfl
      simp only [Tm.d, apply_ite Tm.d] at hsel ⊢
      by_cases d3 : k = 0
      · have er2 : rest / 5 = r := by simp [r, d3]
        by_cases d1 : r / 11 % 2 = 0 <;> by_cases d4 : r / 17 % 4 = 0
        all_goals
          simp only [d1, d3, d4, true_and, and_true, if_true, if_false, and_self, false_and, and_false] at hod
          rw [hod] at hsel ⊢
          simp [lb_law_term_v2_1, c1', c2, hg, hn, er2, p1, p2, d1, d3, d4] at hsel ⊢
          simp [hsel]
      · by_cases d1 : r / 11 % 2 = 0
        all_goals
          simp only [d1, d3, true_and, and_true, if_true, if_false, and_self, false_and, and_false] at hod
          rw [hod] at hsel ⊢
          simp [lb_law_term_v2_1, hk', c1', c2, hg, hn, er, p1, p2, d1, d3] at hsel ⊢
          simp [hsel]
theorem term_from {names : List (List Nat)} {cell : Int} {size : Nat} (hn : 0 < names.length) (hs : size ≤ 5) : ∀ (m k : Nat) (t : Tm) (rest : Int), k + m = size → t.depth ≤ k + 5 → t.Rw names → TmB k t →
    ∃ (t' : Tm) (rest' : Int), t'.depth ≤ size + 5 ∧ t'.Rw names ∧ TmB size t' ∧ ∀ (S : Store) (l : Nat), S[l]? = some (.lst (names.map .str)) → ∀ (o5 o6 o7 : Option D), ∃ (o5' o6' o7' : Option D) (G : Store), forL (fun _ => True) (gName 5) lb_law_term_v2_1 ((List.range' k m).map fun (k : Nat) => D.int k) [some (.int cell), some (.ref l), some (.int size), some t.d, some (.int rest), o5, o6, o7] S = some (.nx [some (.int cell), some (.ref l), some (.int size), some t'.d, some (.int rest'), o5', o6', o7'] (S ++ G))
  | 0, k, t, rest, h, hd, hw, hB => ⟨t, rest, by omega, hw, hB.mono (by omega), fun S l hg o5 o6 o7 => ⟨o5, o6, o7, [], by
      rw [List.range'_zero, List.map_nil, forL, if_pos trivial, List.append_nil]⟩⟩
  | m + 1, k, t, rest, h, hd, hw, hB => by
    obtain ⟨t1, rest1, a1, a2, a3, a4⟩ := term_step (cell := cell) (rest := rest) hn hs (k := k) (by omega) hd hw hB
    obtain ⟨t2, rest2, b1, b2, b3, b4⟩ := term_from (cell := cell) hn hs m (k + 1) t1 rest1 (by omega) (by omega) a2 a3
    refine ⟨t2, rest2, b1, b2, b3, fun S l hg o5 o6 o7 => ?_⟩
    obtain ⟨o6', o7', G, e⟩ := a4 S l hg o6 o7
    obtain ⟨p5, p6, p7, G2, e2'⟩ := b4 (S ++ G) l (get_app hg _) (some (.int k)) o6' o7'
    refine ⟨p5, p6, p7, G ++ G2, ?_⟩
    rw [List.range'_succ, List.map_cons, forL_cons (ρ1 := [some (.int cell), some (.ref l), some (.int size), some t.d, some (.int rest), some (.int k), o6, o7]) (S1 := S) trivial rfl e, e2', List.append_assoc]
theorem s_law_termU {names : List (List Nat)} (hn : 0 < names.length) (cell : Int) {size : Nat} (hs : size ≤ 5) :
    ∃ t : Tm, t.depth ≤ size + 5 ∧ t.Rw names ∧ TmB size t ∧ ∀ (S : Store) (l : Nat), S[l]? = some (.lst (names.map .str)) → ∃ G, R_law_term_v2 [.int cell, .ref l, .int size] S = some (.ok (Tm.d t) (S ++ G)) := by
  obtain ⟨s0, m0, p0⟩ := pick_str hn cell
  have hnL : (0 : Int) < names.length := by omega
  obtain ⟨t, rest, h1, h2, h3, h4⟩ := term_from (cell := cell) hn hs size 0 (.row s0) (cell / 7) (by omega) (by simp [Tm.depth]) (rw_row m0) tmb_row
  refine ⟨t, h1, h2, h3, fun S l hS => ?_⟩
  obtain ⟨o5, o6, o7, G, h⟩ := h4 S l hS none none none
  rw [← List.range_eq_range'] at h
  refine ⟨G, ?_⟩
  unfold R_law_term_v2
  rw [run_eq (n := 3) _ _ rfl]
  unfold b_law_term_v2
  simp [Tm.d] at h
  simp [hS, hn, hnL, p0, show size ≤ 1000000000 by omega, h]
/-- one equation -/
theorem bookU_step {ns : List Int} (hl : ns.length ≤ 63) {names : List (List Nat)} (hn8 : names.length ≤ 8) {k : Nat} {s : List Nat} (hk : names[k]? = some s) :
    ∃ t : Tm, t.depth ≤ 12 ∧ t.Rw names ∧ TmE t ∧ ∀ (S : Store) (l5 l4 : Nat) (es : List (List Nat × Tm)) (o1 o2 o6 o7 : Option D), S[l4]? = some (.lst (names.map .str)) → S[l5]? = some (.lst (es.map ent)) → es.length < 100 → ∃ (o6' o7' : Option D) (G : Store),
      lb_law_book_v2_1 R_law_cell R_law_term_v2 [some (.fl (ns.map .int)), o1, o2, some (.ref l4), some (.ref l5), some (.int k), o6, o7] S = some (.nx [some (.fl (ns.map .int)), o1, o2, some (.ref l4), some (.ref l5), some (.int k), o6', o7'] ((S ++ G).set l5 (.lst ((es ++ [(s, t)]).map ent)))) := by
  have hkl := (List.getElem?_eq_some_iff.mp hk).1
  obtain ⟨near, hne, n0, n1⟩ := s_law_cellU hl (k := 1 + (k : Int)) (by omega) (by omega)
  obtain ⟨z, hz, hz5⟩ := mod_nat near (m := 5) (by decide)
  have hsz : (1 : Int) + z = ((1 + z : Nat) : Int) := by omega
  obtain ⟨t, hd2, hw2, hB2, ht⟩ := s_law_termU (names := names) (by omega) (near / 6) (size := 1 + z) (by omega)
  obtain ⟨i, hi, hi3⟩ := mod_nat (near / 15) (m := 3) (by decide)
  have hs : atI (names.map D.str) (k : Int) = some (.str s) := atI_nat (by rw [List.getElem?_map, hk]; rfl)
  refine ⟨if 0 < near / 5 % 3 then .sign i t else t, ?_, ?_, ?_, fun S l5 l4 es o1 o2 o6 o7 g4 g5 hes => ?_⟩
  · split
    · simp [Tm.depth]; omega
    · omega
  · split
    · exact hw2
    · exact hw2
  · split
    · exact (hB2.mono (j := 5) (by omega)).signE (by omega)
    · exact (hB2.mono (j := 5) (by omega)).toE
  · obtain ⟨G, e⟩ := ht S l4 g4
    have hesl : es.length < LINE := by rw [LINE_eq]; omega
    have g4' := get_app g4 G
    have g5' := get_app g5 G
    rw [hsz.symm] at e
    have hne' := hne S
    refine ⟨some (.int near), some (if 0 < near / 5 % 3 then Tm.sign i t else t).d, G, ?_⟩
    by_cases c : 0 < near / 5 % 3
    · simp [lb_law_book_v2_1, hne', hz, e, c, hi, g4', g5', hs, hesl, Tm.d, ent]
    · simp [lb_law_book_v2_1, hne', hz, e, c, hi, g4', g5', hs, hesl, ent]
theorem book_from {ns : List Int} (hl : ns.length ≤ 63) {names : List (List Nat)} (hn8 : names.length ≤ 8) : ∀ (m k : Nat), k + m = names.length →
    ∃ fs : List (List Nat × Tm), fs.map (·.1) = names.drop k ∧ (∀ e ∈ fs, e.2.depth ≤ 12 ∧ e.2.Rw names ∧ TmE e.2) ∧ ∀ (S : Store) (l5 l4 : Nat) (es : List (List Nat × Tm)) (o1 o2 o5 o6 o7 : Option D), S[l4]? = some (.lst (names.map .str)) → S[l5]? = some (.lst (es.map ent)) → l4 ≠ l5 → es.length + m < 100 → ∃ (o5' o6' o7' : Option D) (S' : Store),
      forL (fun _ => True) (gName 5) (lb_law_book_v2_1 R_law_cell R_law_term_v2) ((List.range' k m).map fun (k : Nat) => D.int k) [some (.fl (ns.map .int)), o1, o2, some (.ref l4), some (.ref l5), o5, o6, o7] S = some (.nx [some (.fl (ns.map .int)), o1, o2, some (.ref l4), some (.ref l5), o5', o6', o7'] S') ∧ S'[l5]? = some (.lst ((es ++ fs).map ent)) ∧ S.length ≤ S'.length ∧ ∀ j, j < S.length → j ≠ l5 → S'[j]? = S[j]?
  | 0, k, h => ⟨[], by rw [List.drop_of_length_le (by omega)]; rfl, fun e he => (nomatch he), fun S l5 l4 es o1 o2 o5 o6 o7 g4 g5 hne hes => ⟨o5, o6, o7, S, by rw [List.range'_zero, List.map_nil, forL, if_pos trivial], by simpa using g5, Nat.le_refl _, fun _ _ _ => rfl⟩⟩
  | m + 1, k, h => by
    obtain ⟨s, hs⟩ : ∃ s, names[k]? = some s := ⟨_, List.getElem?_eq_getElem (by omega)⟩
    obtain ⟨t, a1, a2, a3, a4⟩ := bookU_step hl hn8 hs
    obtain ⟨fs, b1, b2, b3⟩ := book_from hl hn8 m (k + 1) (by omega)
    refine ⟨(s, t) :: fs, ?_, fun e he => ?_, fun S l5 l4 es o1 o2 o5 o6 o7 g4 g5 hne hes => ?_⟩
    · have hkn : k < names.length := by omega
      rw [List.map_cons, b1, List.drop_eq_getElem_cons hkn]
      rw [List.getElem?_eq_getElem (by omega)] at hs
      cases hs
      rfl
    · rcases List.mem_cons.mp he with rfl | he
      · exact ⟨a1, a2, a3⟩
      · exact b2 e he
    · obtain ⟨o6', o7', G, e⟩ := a4 S l5 l4 es o1 o2 o6 o7 g4 g5 (by omega)
      have hl5 := (List.getElem?_eq_some_iff.mp g5).1
      obtain ⟨p5, p6, p7, S', e2', c1, c2, c3⟩ := b3 ((S ++ G).set l5 (.lst ((es ++ [(s, t)]).map ent))) l5 l4 (es ++ [(s, t)]) o1 o2 (some (.int k)) o6' o7' (by rw [List.getElem?_set_ne (Ne.symm hne)]; exact get_app g4 _) (List.getElem?_set_self (by simp; omega)) hne (by simp; omega)
      refine ⟨p5, p6, p7, S', ?_, by simpa using c1, by simp at c2; omega, fun j hj hj5 => ?_⟩
      · rw [List.range'_succ, List.map_cons, forL_cons (ρ1 := [some (.fl (ns.map .int)), o1, o2, some (.ref l4), some (.ref l5), some (.int k), o6, o7]) (S1 := S) trivial rfl e, e2']
      · rw [c3 j (by simp; omega) hj5, List.getElem?_set_ne (Ne.symm hj5), List.getElem?_append_left hj]
theorem s_law_bookU {ns : List Int} (hl : ns.length ≤ 63) : ∃ es : Eqs, (∀ e ∈ es, e.2.depth ≤ 12 ∧ e.2.Rw (es.map (·.1)) ∧ TmE e.2) ∧ (es.map (·.1)).Nodup ∧ 0 < es.length ∧ es.length ≤ 4 ∧ (∀ e ∈ es, IsNm e.1) ∧ ∀ S, ∃ S', R_law_book_v2 [.fl (ns.map .int)] S = some (.ok (bookD es) S') ∧ Keep S S' := by
  obtain ⟨cell, hcell, c0, c1⟩ := s_law_cellU hl (k := 0) (by decide) (by decide)
  obtain ⟨j, hj, hj3⟩ := mod_nat cell (m := 3) (by decide)
  obtain ⟨v, hv, hv4⟩ := mod_nat (cell / 3) (m := 4) (by decide)
  have hjn : j < 3 := by omega
  obtain ⟨pool, hpool⟩ : ∃ pool, poolw[j]? = some pool := ⟨poolw[j]'(by simpa [poolw] using hjn), by simp⟩
  have hpl : pool.length = 4 := poolw_len pool (List.mem_of_getElem? hpool)
  obtain ⟨names, hnames⟩ : ∃ names, names = pool.take (v + 1) := ⟨_, rfl⟩
  have hnl : names.length = v + 1 := by simp [hnames, hpl]; omega
  obtain ⟨es, hes, hd, hrun⟩ := book_from hl (names := names) (by omega) names.length 0 (by omega)
  rw [List.drop_zero] at hes
  have hel := congrArg List.length hes
  rw [List.length_map] at hel
  have hmem := List.mem_of_getElem? hpool
  refine ⟨es, by rw [hes]; exact hd, by rw [hes, hnames]; exact (poolw_nd pool hmem).sublist (List.take_sublist _ _), by omega, by omega, fun e he => ?_, fun S => ?_⟩
  · have : e.1 ∈ names := by rw [← hes]; exact List.mem_map.mpr ⟨e, he, rfl⟩
    rw [hnames] at this
    exact poolw_nm pool hmem _ (List.mem_of_mem_take this)
  · obtain ⟨B4, hB4⟩ : ∃ B4 : Store, B4 = [.lst [.str [97], .str [98], .str [99], .str [100]], .lst [.str [120, 120], .str [120], .str [120, 120, 120], .str [121]], .lst [.str [114, 111], .str [115, 105, 103, 110], .str [114, 111, 119], .str [111, 110, 101]], .lst [.ref S.length, .ref (S.length + 1), .ref (S.length + 2)]] := ⟨_, rfl⟩
    have hat : atI [D.ref S.length, .ref (S.length + 1), .ref (S.length + 2)] (j : Int) = some (.ref (S.length + j)) := by
      apply atI_nat
      match j, hjn with
      | 0, _ => rfl
      | 1, _ => rfl
      | 2, _ => rfl
    have hgp : (S ++ B4)[S.length + j]? = some (.lst (pool.map .str)) := by
      match j, hjn, hpool with
      | 0, _, h => cases h; simp [hB4, poolw]
      | 1, _, h => cases h; simp [hB4, poolw]
      | 2, _, h => cases h; simp [hB4, poolw]
    obtain ⟨S2, hS2⟩ : ∃ S2, S2 = S ++ B4 ++ [.lst (names.map .str), .lst []] := ⟨_, rfl⟩
    have lB : B4.length = 4 := by rw [hB4]; rfl
    obtain ⟨p5, p6, p7, S', e, e2', e3, e4⟩ := hrun S2 (S.length + 5) (S.length + 4) [] (some (.int cell)) (some (.ref (S.length + j))) none none none (by rw [hS2]; simp [lB]) (by rw [hS2, List.getElem?_append_right (by simp [lB])]; simp [lB]) (by omega) (by simp; omega)
    rw [List.nil_append] at e2'
    rw [← List.range_eq_range'] at e
    have lS2 : S2.length = S.length + 6 := by rw [hS2]; simp [lB]
    refine ⟨S', ?_, by omega, fun i hi => by rw [e4 i (by omega) (by omega), hS2, List.append_assoc, List.getElem?_append_left hi]⟩
    unfold R_law_book_v2
    rw [run_eq (n := 1) _ _ rfl]
    unfold b_law_book_v2
    have hcut : cut (pool.map D.str) none (some (1 + (v : Int))) = names.map .str := by
      rw [cut_map, show (1 + (v : Int)) = ((v + 1 : Nat) : Int) by omega, cut_take, hnames]
    have hc0 := hcell S
    simp [hB4] at hgp
    simp [hB4] at hS2
    rw [hS2] at e
    skip
    simp [hc0, hj, hv, Nat.add_assoc, hat, slD, new1, hgp, hcut, show names.length ≤ 1000000000 by omega, e, e2']
end Z
namespace Z
/-- the calls, up to the one whose sign stands -/
def trail (es : Eqs) : Nat → Call → List Call
  | 0, c => [c]
  | k + 1, c => c :: (match nx es c with | .inr d => trail es k d | .inl _ => [])
theorem trail_step {es : Eqs} {k : Nat} {c d : Call} (h : nx es c = .inr d) : trail es (k + 1) c = c :: trail es k d := by rw [trail, h]
structure WkF (es : Eqs) (n0 : Nat) (c : Call) (Cx : List Call) (r : Option Nat) (C' : List Call) : Prop where
  len : C'.length ≤ es.length * (n0 + 97) + 1
  res : wres es c = r.map Wr.sign
  sgn : ∀ i, r = some i → ∃ k, EndIn es k c (.sign i) ∧ C' = Cx ++ trail es k c
  fre : r = none → ∃ D d, C' = D ++ [d] ∧ D.Nodup ∧ wres es d = none ∧ d.1 ∈ es.map (·.1) ∧ d.2 ≤ n0 + 96
theorem wk_full {es : Eqs} (b : Bk es) (tb : Tb es) {n0 : Nat} (hn0 : 120 ≤ n0) : ∀ (f : Nat) (c : Call) (Cx : List Call) (Lx : Lows) (P : List (List Nat)), Iv es n0 c Cx Lx P → wAgain Cx Lx c = false → c.1 ∈ es.map (·.1) → es.length * (n0 + 97) < f + Cx.length →
    ∃ r C', wk es f c (Cx ++ [c]) (wSet Lx c) = some (r, C') ∧ WkF es n0 c Cx r C'
  | 0, c, Cx, Lx, P, v, ha, hc, hf => by
    have := v.clen tb
    omega
  | f + 1, c, Cx, Lx, P, v, ha, hc, hf => by
    have ht := look_term b hc
    have hcl := v.clen tb
    rw [wk]
    cases hh : hop (termOf es c.1) c.2 with
    | inl i =>
      have hn : nx es c = .inl (.sign i) := by unfold nx; rw [ht]; dsimp only; rw [hh]
      refine ⟨some i, _, rfl, ⟨by simp; omega, by rw [wres_inl hn]; rfl, fun j hj => ?_, fun h => nomatch h⟩⟩
      cases hj
      exact ⟨0, hn, rfl⟩
    | inr d =>
      obtain ⟨P', v'⟩ := v.step tb hn0 ht ha hh
      have hcl' := v'.clen tb
      have hn := nx_of ht hh
      have hd : d.1 ∈ es.map (·.1) := b.row _ (b.at hc) _ (hop_le _ _ d.1 d.2 hh).1
      dsimp only
      by_cases ha' : wAgain (Cx ++ [c]) (wLows (zipf (termOf es c.1) c.2) (wSet Lx c)) d = true
      · rw [if_pos ha']
        have hw : wres es d = none := wres_none (v'.again ha')
        refine ⟨none, _, rfl, ⟨by simp at hcl' ⊢; omega, by rw [wres_inr hn, hw]; rfl, fun i h => (nomatch h), fun _ => ⟨Cx ++ [c], d, rfl, v'.cnd, hw, hd, ?_⟩⟩⟩
        have h8 := v'.p8 tb
        have := v'.cur
        omega
      · rw [if_neg ha']
        obtain ⟨r, C', h1, F⟩ := wk_full b tb hn0 f d (Cx ++ [c]) _ P' v' (by simpa using ha') hd (by simp; omega)
        refine ⟨r, C', h1, ⟨F.len, by rw [wres_inr hn]; exact F.res, fun i hi => ?_, F.fre⟩⟩
        obtain ⟨k, k1, k2⟩ := F.sgn i hi
        exact ⟨k + 1, ⟨d, hn, k1⟩, by rw [trail_step hn, k2, List.append_assoc]; rfl⟩
/-- the program's walk -/
theorem walk_full {es : Eqs} (b : Bk es) (tb : Tb es) {s : List Nat} {n n0 : Nat} (h1 : 120 ≤ n0) (h2 : n ≤ n0) (h3 : n0 ≤ 5000) (hs : s ∈ es.map (·.1)) :
    ∃ r C', WkF es n0 (s, n) [] r C' ∧ ∀ S, ∃ a S', R_walk [bookD es, .str s, .int (n : Nat)] S = some (.ok (resD a r) S') ∧ S'[a]? = some (.lst (C'.map cD)) ∧ Keep S S' := by
  obtain ⟨r, C', w1, F⟩ := wk_full b tb h1 (es.length * (n0 + 97) + 1) (s, n) [] (fun _ => none) [] (.beg h2) (by simp [wAgain]) hs (by simp)
  have hl := b.len
  have := F.len
  have h8 : es.length * (n0 + 97) ≤ 8 * (5000 + 97) := Nat.mul_le_mul hl (by omega)
  refine ⟨r, C', F, fun S => ?_⟩
  obtain ⟨a, S', q1, q2, q3, _⟩ := s_walk b (cc := (s, n)) w1 (by omega) hs S
  exact ⟨a, S', q1, q2, q3⟩
/-- one step on: the same answer, the calls but the first -/
theorem step_same {es : Eqs} (b : Bk es) {s : List Nat} (hs : s ∈ es.map (·.1)) {n n0 n1 : Nat} {d : Call} (hh : hop (termOf es s) n = .inr d) {r r' : Option Nat} {C C' : List Call} (F : WkF es n0 (s, n) [] r C) (F' : WkF es n1 d [] r' C') : r = r' ∧ (∀ i, r = some i → C = (s, n) :: C') := by
  have hn : nx es (s, n) = .inr d := nx_of (c := (s, n)) (look_term b hs) hh
  have e : r.map Wr.sign = r'.map Wr.sign := by rw [← F.res, ← F'.res, wres_inr hn]
  have er : r = r' := by
    cases r with
    | none => cases r' with
      | none => rfl
      | some j => cases e
    | some i => cases r' with
      | none => cases e
      | some j => cases e; rfl
  refine ⟨er, fun i hi => ?_⟩
  obtain ⟨k, k1, k2⟩ := F.sgn i hi
  obtain ⟨m, m1, m2⟩ := F'.sgn i (er ▸ hi)
  have h2 : EndIn es (m + 1) (s, n) (.sign i) := ⟨d, hn, m1⟩
  obtain ⟨rfl, _⟩ := EndIn.uniq k1 h2
  rw [k2, m2, List.nil_append, List.nil_append, trail_step hn]
end Z
namespace Z
open Classical
theorem tvt {e : SE} {ρ : Env} {S S1 : Store} {b : Bool} (h : e ρ S = some (.ok (.bl b) S1)) : tVal e ρ S = some (.ok b S1) := by rw [show tVal e ρ S = bd (e ρ S) fun x S1 => match x with | .bl b => some (.ok b S1) | _ => none from rfl, h]; rfl
theorem sqn {a b : SS} {ρ ρ1 : Env} {S S1 : Store} (h : a ρ S = some (.nx ρ1 S1)) : sq a b ρ S = b ρ1 S1 := by unfold sq; rw [h]
theorem sqc {a b : SS} {ρ ρ1 : Env} {S S1 : Store} (h : a ρ S = some (.ct ρ1 S1)) : sq a b ρ S = some (.ct ρ1 S1) := by unfold sq; rw [h]
theorem sift {t : ST} {a b : SS} {ρ : Env} {S S1 : Store} (h : t ρ S = some (.ok true S1)) : sIf t a b ρ S = a ρ S1 := by unfold sIf; rw [h]; rfl
theorem siff {t : ST} {a b : SS} {ρ : Env} {S S1 : Store} (h : t ρ S = some (.ok false S1)) : sIf t a b ρ S = b ρ S1 := by unfold sIf; rw [h]; rfl
theorem torf {a b : ST} {ρ : Env} {S S1 : Store} (h : a ρ S = some (.ok false S1)) : tOr a b ρ S = b ρ S1 := by unfold tOr; rw [h]; rfl
theorem tandt {a b : ST} {ρ : Env} {S S1 : Store} (h : a ρ S = some (.ok true S1)) : tAnd a b ρ S = b ρ S1 := by unfold tAnd; rw [h]; rfl
theorem tandf {a b : ST} {ρ : Env} {S S1 : Store} (h : a ρ S = some (.ok false S1)) : tAnd a b ρ S = some (.ok false S1) := by unfold tAnd; rw [h]; rfl
theorem asg1 {e : SE} {i : Nat} {ρ : Env} {S S1 : Store} {d : D} (h : e ρ S = some (.ok d S1)) : sAsg e (gName i) ρ S = match gName i d ρ S1 with | some (ρ', S') => some (.nx ρ' S') | none => none := by
  rw [x_asg, h]
  rfl
theorem neS (x : List Nat) (S : Store) : neD (.str x) (.str x) S = some (.ok (.bl false) S) := ne_same (x := .str x) rfl (by simp [PD.dep])
theorem eqS (x : List Nat) (S : Store) : eqD (.str x) (.str x) S = some (.ok (.bl true) S) := eq_same (x := .str x) rfl (by simp [PD.dep])
theorem eqSn {x y : List Nat} (h : x ≠ y) (S : Store) : eqD (.str x) (.str y) S = some (.ok (.bl false) S) := by simp [eqD, dat, D.pd, PD.dep, PD.eqv, h]
theorem resAt (a : Nat) (i : Nat) : atI [D.str wSign, .int (i : Nat), .ref a] 0 = some (.str wSign) ∧ atI [D.str wSign, .int (i : Nat), .ref a] 1 = some (.int (i : Nat)) ∧ atI [D.str wSign, .int (i : Nat), .ref a] 2 = some (.ref a) := ⟨atI_nat (k := 0) rfl, atI_nat (k := 1) rfl, atI_nat (k := 2) rfl⟩
theorem freAt (a : Nat) : atI [D.str wFree, .ref a] 0 = some (.str wFree) ∧ atI [D.str wFree, .ref a] 1 = some (.ref a) := ⟨atI_nat (k := 0) rfl, atI_nat (k := 1) rfl⟩
theorem lst_c {ρ : Env} {S : Store} {s : List Nat} {n : Nat} (h3 : ρ[3]? = some (some (.str s))) (h5 : ρ[5]? = some (some (.int (n : Nat)))) : eLst [eTup [eVar 3, eVar 5]] ρ S = some (.ok (.ref S.length) (S ++ [.lst ([(s, n)].map cD)])) := by
  simp only [x_lst, x_cons, x_nil, x_tup, x_var, h3, h5, bd_ok]
  rfl
theorem ne_calls {S : Store} {a b : Nat} {C : List Call} (h : S[a]? = some (.lst (C.map cD))) (g : S[b]? = some (.lst (C.map cD))) : neD (.ref a) (.ref b) S = some (.ok (.bl false) S) := by
  have := depL_calls C
  exact ne_dat (dat_calls h) (dat_calls g) (by simp only [PD.dep]; omega)
/-- the env -/
def e22 (A B P : Option D) (s : List Nat) (T : Option D) (n : Nat) (a b c d k : Option D) : Env := [A, B, P, some (.str s), T, some (.int (n : Nat)), a, b, c, d, k]
section
variable {es : Eqs} (b : Bk es) (tb : Tb es)
include b tb
theorem place22 (h4 : es.length ≤ 4) {s : List Nat} (hs : s ∈ es.map (·.1)) {n : Nat} (hn : n ≤ 100) (A P : Option D) (o6 o7 o8 o9 o10 : Option D) (S : Store) :
    ∃ (p6 p7 p8 p9 : Option D) (S' : Store), (lb_law_v14_1 R_walk R_hangs (e22 A (some (bookD es)) P s (some (termOf es s).d) n o6 o7 o8 o9 o10) S = some (.nx (e22 A (some (bookD es)) P s (some (termOf es s).d) n p6 p7 p8 p9 o10) S') ∨ lb_law_v14_1 R_walk R_hangs (e22 A (some (bookD es)) P s (some (termOf es s).d) n o6 o7 o8 o9 o10) S = some (.ct (e22 A (some (bookD es)) P s (some (termOf es s).d) n p6 p7 p8 p9 o10) S')) ∧ Keep S S' := by
  obtain ⟨r, C, F, hw⟩ := walk_full b tb (n0 := 120) (Nat.le_refl _) (by omega : n ≤ 120) (by decide) hs
  obtain ⟨a, S1, w1, g1, k1⟩ := hw S
  have hg := s_hangs (termOf es s) n S1
  rw [hang_hop] at hg
  obtain ⟨Z, hZ⟩ : ∃ Z : Option D → Option D → Option D → Option D → Env, Z = fun x y z u => e22 A (some (bookD es)) P s (some (termOf es s).d) n x y z u o10 := ⟨_, rfl⟩
  have st1 : sAsg (eCall R_walk [eVar 1, eVar 3, eVar 5]) (gName 6) (Z o6 o7 o8 o9) S = some (.nx (Z (some (resD a r)) o7 o8 o9) S1) := by
    rw [hZ, asg1 (d := resD a r) (S1 := S1) (by
      rw [x_call]
      show bd (bd (eVar 1 _ S) fun d S1 => _) _ = _
      exact w1)]
    rfl
  have st2 : sAsg (eCall R_hangs [eVar 4, eVar 5]) (gName 7) (Z (some (resD a r)) o7 o8 o9) S1 = some (.nx (Z (some (resD a r)) (some (hopD (hop (termOf es s) n))) o8 o9) S1) := by
    rw [hZ, asg1 (d := hopD (hop (termOf es s) n)) (S1 := S1) (by
      rw [x_call]
      show bd (bd (eVar 4 _ S1) fun d S1 => _) _ = _
      exact hg)]
    rfl
  rw [← show Z o6 o7 o8 o9 = e22 A (some (bookD es)) P s (some (termOf es s).d) n o6 o7 o8 o9 o10 by rw [hZ]]
  have zz : ∀ x y z u, e22 A (some (bookD es)) P s (some (termOf es s).d) n x y z u o10 = Z x y z u := fun x y z u => by rw [hZ]
  simp only [zz]
  have v6 : ∀ x y z u T, eVar 6 (Z (some x) y z u) T = some (.ok x T) := fun x y z u T => by rw [hZ]; rfl
  have v7 : ∀ x y z u T, eVar 7 (Z x (some y) z u) T = some (.ok y T) := fun x y z u T => by rw [hZ]; rfl
  have v8 : ∀ x y z u T, eVar 8 (Z x y (some z) u) T = some (.ok z T) := fun x y z u T => by rw [hZ]; rfl
  have v9 : ∀ x y z u T, eVar 9 (Z x y z (some u)) T = some (.ok u T) := fun x y z u T => by rw [hZ]; rfl
  have v1 : ∀ x y z u T, eVar 1 (Z x y z u) T = some (.ok (bookD es) T) := fun x y z u T => by rw [hZ]; rfl
  have vc : ∀ x y z u T, eLst [eTup [eVar 3, eVar 5]] (Z x y z u) T = some (.ok (.ref T.length) (T ++ [.lst ([(s, n)].map cD)])) := fun x y z u T => lst_c (by rw [hZ]; rfl) (by rw [hZ]; rfl)
  have ix : ∀ {e : SE} {ρ : Env} {T T' : Store} {xs : List D} {k : Int} {d : D}, e ρ T = some (.ok (.tup xs) T') → atI xs k = some d → e2 ixD e (eC (.int k)) ρ T = some (.ok d T') := fun {e ρ T T' xs k d} h g => by
    rw [x_2, h, bd_ok, x_c, bd_ok, o_ixt, g]
  have sl : ∀ {e : SE} {ρ : Env} {T : Store} {i a : Nat}, e ρ T = some (.ok (resD a (some i)) T) → eSl e none (some (eC (.int 2))) ρ T = some (.ok (.tup [.str wSign, .int (i : Nat)]) T) := fun {e ρ T i a} h => by
    unfold eSl
    rw [h, bd_ok]
    rfl
  cases hh : hop (termOf es s) n with
  | inl i =>
    -- a sign in the term itself
    rw [hh] at st2
    have hn' : nx es (s, n) = .inl (.sign i) := by unfold nx; rw [look_term b hs]; dsimp only; rw [hh]
    have hr : r = some i := by
      have := F.res
      rw [wres_inl hn'] at this
      cases r with
      | none => cases this
      | some j => cases this; rfl
    subst hr
    obtain ⟨k, c1, c2⟩ := F.sgn i rfl
    have c0 : EndIn es 0 (s, n) (.sign i) := hn'
    obtain ⟨rfl, _⟩ := EndIn.uniq c1 c0
    have hC : C = [(s, n)] := c2
    subst hC
    obtain ⟨ρ, hρ⟩ : ∃ ρ, ρ = Z (some (resD a (some i))) (some (hopD (.inl i))) o8 o9 := ⟨_, rfl⟩
    have g6 : ∀ T, eVar 6 ρ T = some (.ok (resD a (some i)) T) := fun T => by rw [hρ]; exact v6 _ _ _ _ T
    have g7 : ∀ T, eVar 7 ρ T = some (.ok (.tup [.str wSign, .int (i : Nat)]) T) := fun T => by rw [hρ]; exact v7 _ _ _ _ T
    have t0 : atI [D.str wSign, .int (i : Nat)] 0 = some (.str wSign) := atI_nat (k := 0) rfl
    have t0' : atI [D.str wSign, .int (i : Nat)] 1 = some (.int (i : Nat)) := atI_nat (k := 1) rfl
    obtain ⟨S2, hS2⟩ : ∃ S2, S2 = S1 ++ [.lst ([(s, n)].map cD)] := ⟨_, rfl⟩
    have k2 : Keep S1 S2 := by rw [hS2]; exact .app
    have t1 : tVal (e2 eqD (e2 ixD (eVar 7) (eC (.int 0))) (eC (.str [115, 105, 103, 110]))) ρ S1 = some (.ok true S1) := tvt (by
      rw [x_2, ix (g7 S1) t0, bd_ok, x_c, bd_ok]
      exact eqS _ _)
    have t2 : tVal (e2 neD (eSl (eVar 6) none (some (eC (.int 2)))) (eTup [eC (.str [115, 105, 103, 110]), e2 ixD (eVar 7) (eC (.int 1))])) ρ S1 = some (.ok false S1) := tvt (by
      rw [x_2, sl (g6 S1), bd_ok, x_tup, x_cons, x_c, bd_ok, x_cons, ix (g7 S1) t0', bd_ok, x_nil, bd_ok, bd_ok, bd_ok]
      have hdt : dat S1 (.tup [.str wSign, .int (i : Nat)]) = some (.tup [.str wSign, .int (i : Nat)]) := rfl
      exact ne_same hdt (by simp [PD.dep, depL]))
    have t3 : tVal (e2 neD (e2 ixD (eVar 6) (eC (.int 2))) (eLst [eTup [eVar 3, eVar 5]])) ρ S1 = some (.ok false S2) := tvt (by
      rw [x_2, ix (g6 S1) (resAt a i).2.2, bd_ok, hρ, vc, bd_ok, ← hS2]
      exact ne_calls (k2.get g1) (by rw [hS2]; simp))
    refine ⟨some (resD a (some i)), some (hopD (.inl i)), o8, o9, S2, .inr ?_, k1.trans k2⟩
    unfold lb_law_v14_1
    rw [sqn st1, sqn st2, ← hρ, sqc (ρ1 := ρ) (S1 := S2)]
    rw [sift t1, sqn (ρ1 := ρ) (S1 := S2) (by rw [siff (by rw [torf t2, t3])]; rfl)]
    rfl
  | inr d =>
    rw [hh] at st2
    have hd : d.1 ∈ es.map (·.1) := b.row _ (b.at hs) _ (hop_le _ _ d.1 d.2 hh).1
    have hdn : d.2 ≤ 112 := by
      obtain ⟨_, h1, h2⟩ := hop_le (termOf es s) n d.1 d.2 hh
      have h12 : (termOf es s).depth ≤ 12 := b.dep _ (b.at hs)
      cases hz : zipf (termOf es s) n with
      | false => have := h1 hz; omega
      | true => have := h2 hz; omega
    obtain ⟨r', C', F', hw'⟩ := walk_full b tb (n0 := 120) (Nat.le_refl _) (by omega : d.2 ≤ 120) (by decide) hd
    obtain ⟨a', S2, w2, g2, k2⟩ := hw' S1
    obtain ⟨hrr, hcc⟩ := step_same b hs hh F F'
    subst hrr
    have hdD : hopD (.inr d) = .tup [.str wCall, .str d.1, .int (d.2 : Nat)] := rfl
    have d0 : atI [D.str wCall, .str d.1, .int (d.2 : Nat)] 0 = some (.str wCall) := atI_nat (k := 0) rfl
    have d1 : atI [D.str wCall, .str d.1, .int (d.2 : Nat)] 1 = some (.str d.1) := atI_nat (k := 1) rfl
    have d2 : atI [D.str wCall, .str d.1, .int (d.2 : Nat)] 2 = some (.int (d.2 : Nat)) := atI_nat (k := 2) rfl
    rw [hdD] at st2
    have g12 := k2.get g1
    have st3 : ∀ X, sIf (tVal (e2 eqD (e2 ixD (eVar 7) (eC (.int 0))) (eC (.str [115, 105, 103, 110])))) X sNx (Z (some (resD a r)) (some (.tup [.str wCall, .str d.1, .int (d.2 : Nat)])) o8 o9) S1 = some (.nx (Z (some (resD a r)) (some (.tup [.str wCall, .str d.1, .int (d.2 : Nat)])) o8 o9) S1) := fun X => by
      rw [siff (S1 := S1) (tvt (by
        rw [x_2, ix (v7 _ _ _ _ S1) d0, bd_ok, x_c, bd_ok]
        exact eqSn (by decide) _))]
      rfl
    have st4 : sAsg (eCall R_walk [eVar 1, e2 ixD (eVar 7) (eC (.int 1)), e2 ixD (eVar 7) (eC (.int 2))]) (gName 8) (Z (some (resD a r)) (some (.tup [.str wCall, .str d.1, .int (d.2 : Nat)])) o8 o9) S1 = some (.nx (Z (some (resD a r)) (some (.tup [.str wCall, .str d.1, .int (d.2 : Nat)])) (some (resD a' r)) o9) S2) := by
      rw [asg1 (d := resD a' r) (S1 := S2) (by
        rw [x_call, x_cons, v1, bd_ok, x_cons, ix (v7 _ _ _ _ S1) d1, bd_ok, x_cons, ix (v7 _ _ _ _ S1) d2, bd_ok, x_nil, bd_ok, bd_ok, bd_ok, bd_ok]
        exact w2), hZ]
      rfl
    obtain ⟨ρ, hρ⟩ : ∃ ρ, ρ = Z (some (resD a r)) (some (.tup [.str wCall, .str d.1, .int (d.2 : Nat)])) (some (resD a' r)) o9 := ⟨_, rfl⟩
    have g6 : ∀ T, eVar 6 ρ T = some (.ok (resD a r) T) := fun T => by rw [hρ]; exact v6 _ _ _ _ T
    have g8 : ∀ T, eVar 8 ρ T = some (.ok (resD a' r) T) := fun T => by rw [hρ]; exact v8 _ _ _ _ T
    cases r with
    | some i =>
      have hC := hcc i rfl
      have i6 : ∀ T, e2 ixD (eVar 6) (eC (.int 0)) ρ T = some (.ok (.str wSign) T) := fun T => ix (g6 T) (resAt a i).1
      have i8 : ∀ T, e2 ixD (eVar 8) (eC (.int 0)) ρ T = some (.ok (.str wSign) T) := fun T => ix (g8 T) (resAt a' i).1
      have ts : ∀ T, tVal (e2 eqD (e2 ixD (eVar 6) (eC (.int 0))) (eC (.str [115, 105, 103, 110]))) ρ T = some (.ok true T) := fun T => tvt (by
        rw [x_2, i6, bd_ok, x_c, bd_ok]
        exact eqS _ _)
      have tf : ∀ T, tVal (e2 eqD (e2 ixD (eVar 6) (eC (.int 0))) (eC (.str [102, 114, 101, 101]))) ρ T = some (.ok false T) := fun T => tvt (by
        rw [x_2, i6, bd_ok, x_c, bd_ok]
        exact eqSn (by decide) _)
      have q1 : tVal (e2 neD (e2 ixD (eVar 6) (eC (.int 0))) (e2 ixD (eVar 8) (eC (.int 0)))) ρ S2 = some (.ok false S2) := tvt (by
        rw [x_2, i6, bd_ok, i8, bd_ok]
        exact neS _ _)
      have q2 : tVal (e2 neD (eSl (eVar 6) none (some (eC (.int 2)))) (eSl (eVar 8) none (some (eC (.int 2))))) ρ S2 = some (.ok false S2) := tvt (by
        rw [x_2, sl (g6 S2), bd_ok, sl (g8 S2), bd_ok]
        exact ne_same (x := .tup [.str wSign, .int (i : Nat)]) rfl (by simp [PD.dep, depL]))
      obtain ⟨S3, hS3⟩ : ∃ S3, S3 = S2 ++ [.lst ([(s, n)].map cD)] := ⟨_, rfl⟩
      obtain ⟨S4, hS4⟩ : ∃ S4, S4 = S3 ++ [.lst (C.map cD)] := ⟨_, rfl⟩
      have k3 : Keep S2 S3 := by rw [hS3]; exact .app
      have k4 : Keep S3 S4 := by rw [hS4]; exact .app
      have q3 : tVal (e2 neD (e2 ixD (eVar 6) (eC (.int 2))) (e2 addD (eLst [eTup [eVar 3, eVar 5]]) (e2 ixD (eVar 8) (eC (.int 2))))) ρ S2 = some (.ok false S4) := tvt (by
        have hadd : addD (.ref S2.length) (.ref a') S3 = some (.ok (.ref S3.length) S4) := by
          have hl := F.len
          have hb : es.length * (120 + 97) ≤ 4 * 217 := Nat.mul_le_mul h4 (Nat.le_refl _)
          unfold addD
          dsimp only
          rw [show S3[S2.length]? = some (.lst ([(s, n)].map cD)) by rw [hS3]; simp, k3.get g2]
          dsimp only
          have e : [(s, n)].map cD ++ C'.map cD = C.map cD := by rw [hC]; rfl
          rw [e, if_pos (by
            have : ([(s, n)].map cD).length + (C'.map cD).length = C.length := by rw [hC]; simp; omega
            rw [LINE_eq]; omega), hS4]
          rfl
        have hL : eLst [eTup [eVar 3, eVar 5]] ρ S2 = some (.ok (.ref S2.length) S3) := by rw [hρ, vc, hS3]
        rw [x_2, ix (g6 S2) (resAt a i).2.2, bd_ok, x_2, hL, bd_ok, ix (g8 S3) (resAt a' i).2.2, bd_ok, hadd, bd_ok]
        exact ne_calls (k4.get (k3.get g12)) (by rw [hS4]; simp))
      refine ⟨some (resD a (some i)), some (.tup [.str wCall, .str d.1, .int (d.2 : Nat)]), some (resD a' (some i)), o9, S4, .inl ?_, ((k1.trans k2).trans k3).trans k4⟩
      unfold lb_law_v14_1
      rw [sqn st1, sqn st2, sqn (st3 _), sqn st4, ← hρ]
      rw [sqn (ρ1 := ρ) (S1 := S2) (by rw [siff (by rw [torf q1, tandt (ts S2), q2])]; rfl)]
      rw [sqn (ρ1 := ρ) (S1 := S4) (by rw [siff (by rw [tandt (ts S2), q3])]; rfl)]
      rw [siff (tf S4), hρ]
      rfl
    | none =>
      obtain ⟨D0, l, hC, hnd, hwl, hl1, hl2⟩ := F.fre rfl
      obtain ⟨r2, C2, F2, hw2⟩ := walk_full b tb (n0 := 300) (by decide) (by omega : l.2 ≤ 300) (by decide) hl1
      obtain ⟨a2, S3, w3, g3, k3⟩ := hw2 S2
      have hr2 : r2 = none := by
        have := F2.res
        rw [hwl] at this
        cases r2 with
        | none => rfl
        | some j => cases this
      subst hr2
      have i6 : ∀ T, e2 ixD (eVar 6) (eC (.int 0)) ρ T = some (.ok (.str wFree) T) := fun T => ix (g6 T) (freAt a).1
      have i8 : ∀ T, e2 ixD (eVar 8) (eC (.int 0)) ρ T = some (.ok (.str wFree) T) := fun T => ix (g8 T) (freAt a').1
      have ts : ∀ T, tVal (e2 eqD (e2 ixD (eVar 6) (eC (.int 0))) (eC (.str [115, 105, 103, 110]))) ρ T = some (.ok false T) := fun T => tvt (by
        rw [x_2, i6, bd_ok, x_c, bd_ok]
        exact eqSn (by decide) _)
      have tf : ∀ T, tVal (e2 eqD (e2 ixD (eVar 6) (eC (.int 0))) (eC (.str [102, 114, 101, 101]))) ρ T = some (.ok true T) := fun T => tvt (by
        rw [x_2, i6, bd_ok, x_c, bd_ok]
        exact eqS _ _)
      have q1 : tVal (e2 neD (e2 ixD (eVar 6) (eC (.int 0))) (e2 ixD (eVar 8) (eC (.int 0)))) ρ S2 = some (.ok false S2) := tvt (by
        rw [x_2, i6, bd_ok, i8, bd_ok]
        exact neS _ _)
      obtain ⟨ρ9, hρ9⟩ : ∃ ρ9, ρ9 = Z (some (resD a none)) (some (.tup [.str wCall, .str d.1, .int (d.2 : Nat)])) (some (resD a' none)) (some (cD l)) := ⟨_, rfl⟩
      have lst : atI (C.map cD) (-1) = some (cD l) := by
        rw [hC]
        unfold atI ixN
        simp [show (1 : Int) ≤ (D0.length : Int) + 1 by omega, show (-1 + ((D0.length : Int) + 1)).toNat = D0.length by omega]
      have j6 : ∀ {ρ' : Env} (T : Store), eVar 6 ρ' T = some (.ok (resD a none) T) → e2 ixD (eVar 6) (eC (.int 1)) ρ' T = some (.ok (.ref a) T) := fun T h => ix h (freAt a).2
      have st7 : sAsg (e2 ixD (e2 ixD (eVar 6) (eC (.int 1))) (e1 negD (eC (.int 1)))) (gName 9) ρ S2 = some (.nx ρ9 S2) := by
        rw [asg1 (d := cD l) (S1 := S2) (by
          rw [x_2, j6 S2 (g6 S2), bd_ok, show e1 negD (eC (.int 1)) ρ S2 = some (.ok (.int (-1)) S2) from rfl, bd_ok, o_ixr]
          unfold seqOf
          dsimp only
          rw [g12]
          dsimp only
          rw [lst]), hρ, hρ9, hZ]
        rfl
      have z6 : ∀ T, eVar 6 ρ9 T = some (.ok (resD a none) T) := fun T => by rw [hρ9]; exact v6 _ _ _ _ T
      have z9 : ∀ T, eVar 9 ρ9 T = some (.ok (.tup [.str l.1, .int (l.2 : Nat)]) T) := fun T => by rw [hρ9]; exact v9 _ _ _ _ T
      have q4 : tVal (e2 neD (e2 ixD (eCall R_walk [eVar 1, e2 ixD (eVar 9) (eC (.int 0)), e2 ixD (eVar 9) (eC (.int 1))]) (eC (.int 0))) (eC (.str [102, 114, 101, 101]))) ρ9 S2 = some (.ok false S3) := tvt (by
        have l0 : atI [D.str l.1, .int (l.2 : Nat)] 0 = some (.str l.1) := atI_nat (k := 0) rfl
        have l1 : atI [D.str l.1, .int (l.2 : Nat)] 1 = some (.int (l.2 : Nat)) := atI_nat (k := 1) rfl
        have hc : eCall R_walk [eVar 1, e2 ixD (eVar 9) (eC (.int 0)), e2 ixD (eVar 9) (eC (.int 1))] ρ9 S2 = some (.ok (resD a2 none) S3) := by
          rw [x_call, x_cons, show eVar 1 ρ9 S2 = some (.ok (bookD es) S2) by rw [hρ9]; exact v1 _ _ _ _ S2, bd_ok, x_cons, ix (z9 S2) l0, bd_ok, x_cons, ix (z9 S2) l1, bd_ok, x_nil, bd_ok, bd_ok, bd_ok, bd_ok]
          exact w3
        rw [x_2, ix hc (freAt a2).1, bd_ok, x_c, bd_ok]
        exact neS _ _)
      have hlen := F.len
      have hb : es.length * (120 + 97) ≤ 4 * 217 := Nat.mul_le_mul h4 (Nat.le_refl _)
      have g13 := k3.get g12
      have cl : ∀ L : List Call, callsD (L.map cD) = some (L.map fun c => (c.1, ((c.2 : Nat) : Int))) := fun L => by
        induction L with
        | nil => rfl
        | cons c L ih => rw [List.map_cons, show cD c = .tup [.str c.1, .int (c.2 : Nat)] from rfl, callsD, ih]; rfl
      have q5 : tVal (eFew (e2 ixD (eVar 6) (eC (.int 1))) (e2 subD (eCall lenF [e2 ixD (eVar 6) (eC (.int 1))]) (eC (.int 1)))) ρ9 S3 = some (.ok false S3) := tvt (by
        have hnd2 : (C.map fun c => (c.1, ((c.2 : Nat) : Int))).dropLast.Nodup := by
          rw [hC, List.map_append, List.map_singleton, List.dropLast_concat]
          refine List.Pairwise.map _ (fun x y hxy e => hxy ?_) hnd
          have e1 := congrArg Prod.fst e
          have e2' := congrArg Prod.snd e
          simp at e1 e2'
          exact Prod.ext e1 (by omega)
        have hln : eCall lenF [e2 ixD (eVar 6) (eC (.int 1))] ρ9 S3 = some (.ok (.int (C.length : Nat)) S3) := by
          rw [x_call, x_cons, j6 S3 (z6 S3), bd_ok, x_nil, bd_ok, bd_ok]
          unfold lenF
          simp [g13]
        unfold eFew
        rw [j6 S3 (z6 S3), bd_ok]
        dsimp only
        rw [g13]
        dsimp only
        rw [cl]
        dsimp only
        rw [if_pos ⟨by rw [List.length_map]; omega, hnd2⟩, x_2, hln, bd_ok, x_c, bd_ok, show subD (.int (C.length : Nat)) (.int 1) S3 = some (.ok (.int ((C.length : Nat) - 1)) S3) from rfl, bd_ok]
        dsimp only
        rw [if_pos (by rw [List.length_map]; omega)])
      refine ⟨some (resD a none), some (.tup [.str wCall, .str d.1, .int (d.2 : Nat)]), some (resD a' none), some (cD l), S3, .inl ?_, (k1.trans k2).trans k3⟩
      unfold lb_law_v14_1
      rw [sqn st1, sqn st2, sqn (st3 _), sqn st4, ← hρ]
      rw [sqn (ρ1 := ρ) (S1 := S2) (by rw [siff (by rw [torf q1, tandf (ts S2)])]; rfl)]
      rw [sqn (ρ1 := ρ) (S1 := S2) (by rw [siff (tandf (ts S2))]; rfl)]
      rw [sift (tf S2), sqn st7, siff (by rw [torf q4, q5]), hρ9]
      rfl
end
end Z
namespace Z
open Classical
section
variable {es : Eqs} (b : Bk es) (tb : Tb es)
include b tb
theorem name22 (h4 : es.length ≤ 4) {A : Option D} {q : Nat} {ps : List Nat} (hps : ∀ p ∈ ps, p ≤ 100) {e : List Nat × Tm} (he : e ∈ es) (o5 o6 o7 o8 o9 o10 : Option D) {S : Store} (g : S[q]? = some (.lst (ps.map fun (p : Nat) => D.int p))) :
    ∃ p5 p6 p7 p8 p9 S', lb_law_v14_2 R_walk R_hangs [A, some (bookD es), some (.ref q), some (.str e.1), some e.2.d, o5, o6, o7, o8, o9, o10] S = some (.nx [A, some (bookD es), some (.ref q), some (.str e.1), some e.2.d, p5, p6, p7, p8, p9, o10] S') ∧ S'[q]? = some (.lst (ps.map fun (p : Nat) => D.int p)) := by
  have hs : e.1 ∈ es.map (·.1) := List.mem_map.mpr ⟨e, he, rfl⟩
  have ht : termOf es e.1 = e.2 := termOf_mem b.nd he
  obtain ⟨ρ', S', h, p5, p6, p7, p8, p9, rfl, g'⟩ := forL_idx (chk := fun T => T[q]? = some (.lst (ps.map fun (p : Nat) => D.int p))) (g := gName 5) (b := lb_law_v14_1 R_walk R_hangs)
    (fun i ρ T => ∃ p5 p6 p7 p8 p9, ρ = [A, some (bookD es), some (.ref q), some (.str e.1), some e.2.d, p5, p6, p7, p8, p9, o10] ∧ T[q]? = some (.lst (ps.map fun (p : Nat) => D.int p))) (fun i ρ T ⟨_, _, _, _, _, _, h⟩ => h) (ps.map fun (p : Nat) => D.int p) 0 (by
      rintro i x hx ρ T ⟨p5, p6, p7, p8, p9, rfl, gT⟩
      rw [List.getElem?_map] at hx
      obtain ⟨n, hn, rfl⟩ := Option.map_eq_some_iff.mp hx
      have hn100 := hps n (List.mem_of_getElem? hn)
      obtain ⟨r6, r7, r8, r9, T', h, k⟩ := place22 b tb h4 hs hn100 A (some (.ref q)) p6 p7 p8 p9 o10 T
      rw [ht] at h
      exact ⟨e22 A (some (bookD es)) (some (.ref q)) e.1 (some e.2.d) n p6 p7 p8 p9 o10, T, rfl, e22 A (some (bookD es)) (some (.ref q)) e.1 (some e.2.d) n r6 r7 r8 r9 o10, T', h, some (.int (n : Nat)), r6, r7, r8, r9, rfl, k.get gT⟩)
    [A, some (bookD es), some (.ref q), some (.str e.1), some e.2.d, o5, o6, o7, o8, o9, o10] S ⟨_, _, _, _, _, rfl, g⟩
  refine ⟨p5, p6, p7, p8, p9, S', ?_, g'⟩
  unfold lb_law_v14_2
  rw [x_for, x_any, show eVar 2 [A, some (bookD es), some (.ref q), some (.str e.1), some e.2.d, o5, o6, o7, o8, o9, o10] S = some (.ok (.ref q) S) from rfl]
  simp only [bd_ok, itmOf, g, bo_ok]
  exact h
end
theorem s_law_v14 (ns : List Int) (hl : ns.length ≤ 63) : ∃ S', R_law_v14 [.fl (ns.map .int)] [] = some (.ok (.bl true) S') := by
  obtain ⟨es, hd, hnd, h0, h4, hnm, hbook⟩ := s_law_bookU hl
  have b : Bk es := ⟨fun e he => (hd e he).1, fun e he => (hd e he).2.1, hnd, by omega⟩
  have tb : Tb es := ⟨hnd, fun e he => (hd e he).1, by omega⟩
  obtain ⟨c20, h20, _, _⟩ := s_law_cellU hl (k := 20) (by decide) (by decide)
  obtain ⟨c21, h21, _, _⟩ := s_law_cellU hl (k := 21) (by decide) (by decide)
  obtain ⟨c22, h22, _, _⟩ := s_law_cellU hl (k := 22) (by decide) (by decide)
  obtain ⟨p0, hp0, hp0'⟩ := mod_nat c20 (m := 101) (by decide)
  obtain ⟨p1, hp1, hp1'⟩ := mod_nat c21 (m := 101) (by decide)
  obtain ⟨p2, hp2, hp2'⟩ := mod_nat c22 (m := 101) (by decide)
  obtain ⟨S2, q2, k2⟩ := hbook []
  obtain ⟨ps, hps⟩ : ∃ ps : List Nat, ps = List.range 12 ++ [p0, p1, p2] := ⟨_, rfl⟩
  have hps5 : ∀ p ∈ ps, p ≤ 100 := fun p hp => by
    rw [hps] at hp
    rcases List.mem_append.mp hp with h | h
    · have := List.mem_range.mp h; omega
    · simp at h; omega
  obtain ⟨A, hA⟩ : ∃ A, A = some (D.fl (ns.map .int)) := ⟨_, rfl⟩
  obtain ⟨q, S3, i3, g3⟩ : ∃ q S3, sAsg (e2 addD (eLR (eC (.int 12))) (eLc (iR1 (eC (.int 3))) (gName 10) (tYes) (e2 modD (eCall R_law_cell [eVar 0, e2 addD (eC (.int 20)) (eVar 10)]) (eC (.int 101))) [10])) (gName 2) [A, some (bookD es), none, none, none, none, none, none, none, none, none] S2 = some (.nx [A, some (bookD es), some (.ref q), none, none, none, none, none, none, none, none] S3) ∧ S3[q]? = some (.lst (ps.map fun (p : Nat) => D.int p)) := by
    have hr3 : r62 3 := r62_nat (n := 3) (by decide)
    have hr30 : r62 12 := r62_nat (n := 12) (by decide)
    obtain ⟨L30, hL30⟩ : ∃ L30 : List D, L30 = (List.range 12).map fun (k : Nat) => D.int k := ⟨_, rfl⟩
    have l30 : L30.length = 12 := by rw [hL30]; simp
    let f : D → D := fun x => if x = .int 0 then .int (p0 : Nat) else if x = .int 1 then .int (p1 : Nat) else .int (p2 : Nat)
    obtain ⟨ρ, hρ⟩ : ∃ ρ : Env, ρ = [A, some (bookD es), none, none, none, none, none, none, none, none, none] := ⟨_, rfl⟩
    have lc := lcL_map (chk := fun _ => True) (g := gName 10) (t := tYes) (e := e2 modD (eCall R_law_cell [eVar 0, e2 addD (eC (.int 20)) (eVar 10)]) (eC (.int 101))) (S := S2 ++ [.lst L30]) (ρ := ρ) f [.int 0, .int 1, .int 2] [] (by rw [LINE_eq]; simp) (fun _ => trivial) (fun x hx acc => by
      refine ⟨ρ.set 10 (some x), rfl, rfl, ?_⟩
      simp at hx
      rw [hρ, hA]
      rcases hx with rfl | rfl | rfl
      · simp [h20, hp0, f]
      · simp [h21, hp1, f]
      · simp [h22, hp2, f])
    have hf : (([] : List D) ++ [D.int 0, .int 1, .int 2].map f) = [.int (p0 : Nat), .int (p1 : Nat), .int (p2 : Nat)] := by simp [f]
    rw [hf] at lc
    have hLL : L30.length + 3 ≤ LINE := by rw [LINE_eq, l30]; decide
    have ecs : eLc (iR1 (eC (.int 3))) (gName 10) (tYes) (e2 modD (eCall R_law_cell [eVar 0, e2 addD (eC (.int 20)) (eVar 10)]) (eC (.int 101))) [10] ρ (S2 ++ [.lst L30]) = some (.ok (.ref (S2.length + 1)) (S2 ++ [.lst L30] ++ [.lst [.int (p0 : Nat), .int (p1 : Nat), .int (p2 : Nat)]])) := by
      unfold eLc iR1
      simp only [eC, bd_ok]
      rw [if_pos hr3]
      have hw6 : wipe ρ [10] = ρ := by rw [hρ]; rfl
      have h3 : (List.range (3 : Int).toNat).map (fun (k : Nat) => D.int k) = [.int 0, .int 1, .int 2] := rfl
      simp only [bd_ok, hw6, h3]
      rw [lc]
      simp
    have elr : eLR (eC (.int 12)) ρ S2 = some (.ok (.ref S2.length) (S2 ++ [.lst L30])) := by
      unfold eLR
      simp only [eC, bd_ok]
      rw [if_pos ⟨hr30, by rw [LINE_eq]; decide⟩]
      rw [hL30]
      rfl
    refine ⟨S2.length + 2, S2 ++ [.lst L30] ++ [.lst [.int (p0 : Nat), .int (p1 : Nat), .int (p2 : Nat)]] ++ [.lst (ps.map fun (p : Nat) => D.int p)], ?_, by simp⟩
    have hps2 : (ps.map fun (p : Nat) => D.int p) = L30 ++ [.int (p0 : Nat), .int (p1 : Nat), .int (p2 : Nat)] := by
      rw [hps, List.map_append, hL30]
      rfl
    have g1 : (S2 ++ [MO.lst L30] ++ [.lst [.int (p0 : Nat), .int (p1 : Nat), .int (p2 : Nat)]])[S2.length]? = some (.lst L30) := by simp
    have g2 : (S2 ++ [MO.lst L30] ++ [.lst [.int (p0 : Nat), .int (p1 : Nat), .int (p2 : Nat)]])[S2.length + 1]? = some (.lst [.int (p0 : Nat), .int (p1 : Nat), .int (p2 : Nat)]) := by simp
    have hadd : addD (.ref S2.length) (.ref (S2.length + 1)) (S2 ++ [MO.lst L30] ++ [.lst [.int (p0 : Nat), .int (p1 : Nat), .int (p2 : Nat)]]) = some (.ok (.ref (S2.length + 2)) (S2 ++ [.lst L30] ++ [.lst [.int (p0 : Nat), .int (p1 : Nat), .int (p2 : Nat)]] ++ [.lst (ps.map fun (p : Nat) => D.int p)])) := by
      unfold addD
      dsimp only
      rw [g1, g2]
      dsimp only
      rw [if_pos (by simpa using hLL), hps2]
      simp [new1]
    rw [← hρ, x_asg, x_2, elr]
    simp only [bd_ok, ecs, hadd, bo_ok]
    rw [hρ]
    rfl
  obtain ⟨ρ', S4, h5, p3, p4, p5, p6, p7, p8, p9, rfl, g4⟩ := forL_inv (chk := fun _ => True) (g := gTup [gName 3, gName 4]) (b := lb_law_v14_2 R_walk R_hangs) (fun ρ T => ∃ p3 p4 p5 p6 p7 p8 p9, ρ = [A, some (bookD es), some (.ref q), p3, p4, p5, p6, p7, p8, p9, none] ∧ T[q]? = some (.lst (ps.map fun (p : Nat) => D.int p))) (fun _ _ _ => trivial) (es.map ent) (by
    rintro x hx ρ T ⟨p3, p4, p5, p6, p7, p8, p9, rfl, gT⟩
    obtain ⟨e, he, rfl⟩ := List.mem_map.mp hx
    obtain ⟨r5, r6, r7, r8, r9, T', h, g'⟩ := name22 b tb h4 (A := A) hps5 he p5 p6 p7 p8 p9 none gT
    exact ⟨[A, some (bookD es), some (.ref q), some (.str e.1), some e.2.d, p5, p6, p7, p8, p9, none], T, rfl, _, T', h, _, _, _, _, _, _, _, rfl, g'⟩) [A, some (bookD es), some (.ref q), none, none, none, none, none, none, none, none] S3 ⟨_, _, _, _, _, _, _, rfl, g3⟩
  refine ⟨S4, ?_⟩
  unfold R_law_v14
  rw [run_eq (n := 1) _ _ rfl]
  unfold b_law_v14
  rw [show (List.map some [D.fl (ns.map .int)] ++ List.replicate (11 - 1) none : Env) = [A, none, none, none, none, none, none, none, none, none, none] by rw [hA]; rfl]
  rw [sqn (ρ1 := [A, some (bookD es), none, none, none, none, none, none, none, none, none]) (S1 := S2) (by rw [hA]; simp [q2])]
  rw [sqn i3]
  rw [sqn (ρ1 := [A, some (bookD es), some (.ref q), p3, p4, p5, p6, p7, p8, p9, none]) (S1 := S4) (by
    rw [x_for, x_any, show eVar 1 [A, some (bookD es), some (.ref q), none, none, none, none, none, none, none, none] S3 = some (.ok (.tup (es.map ent)) S3) from rfl, bd_ok]
    exact h5)]
  rfl
end Z
namespace Z
section
open PySem PySem.Spec PyProof.Rows L2
variable {P : Program} {w : World} {K : PySem.W.Frag} {mg : Mg} {base : Heap}
theorem sc_term_of : FnScope ["book", "name"] ["book", "name"] (defScope st_term_of) := ⟨rfl, rfl, rfl, by decide +kernel, rfl, by decide +kernel, by decide +kernel⟩
theorem ok_term_of {f : Addr} {fd : FuncData} (Fu : Fun K "term_of" "term_of" st_term_of f fd) (m_dict : mg "dict" = none) : FnG P w K mg base (L2.CX P w) 1 f fd ["book", "name"] (spF ⟨K, P, w⟩ mg R_term_of) :=
  fn_run Fu sc_term_of rfl fun cdv A outer s H E hr => gss_one (gs_ret (ge_fget hr.u1 (ge_callTy no_dictTF (zc_dictTF rfl) rfl m_dict (by decide +kernel) (ga_cons (ge_var 0) (ga_nil))) (ge_var 1)))
theorem sc_followed : FnScope ["term", "n", "zipped"] ["term", "n"] (defScope st_followed) := ⟨rfl, rfl, rfl, by decide +kernel, rfl, by decide +kernel, by decide +kernel⟩
theorem ok_followed {f : Addr} {fd : FuncData} (Fu : Fun K "followed" "followed" st_followed f fd)  : FnG P w K mg base (L2.CX P w) 1 f fd ["term", "n"] (spF ⟨K, P, w⟩ mg R_followed) :=
  fn_run Fu sc_followed rfl fun cdv A outer s H E hr => gss_cons (gs_set 2 sc_followed.nd (ge_bl)) (gss_cons (gs_while (passes_of rfl) (gt_cmp no_ne (zo_ne hr.units) (ge_ix (ge_var 0) (ge_int)) (ge_str)) (gss_one (gs_if (gt_cmp no_eq (zo_eq hr.units) (ge_ix (ge_var 0) (ge_int)) (ge_str)) (gss_cons (gs_if (gt_cmp no_eq (zo_eq hr.units) (ge_var 1) (ge_int)) (gss_one (gs_ret (ge_tup (ga_cons (ge_tup (ga_cons (ge_str) (ga_cons (ge_ix (ge_var 0) (ge_int)) (ga_nil)))) (ga_cons (ge_var 2) (ga_nil)))))) (gss_nil)) (gss_cons (gs_set 1 sc_followed.nd (ge_op no_sub zo_sub (ge_var 1) (ge_int))) (gss_one (gs_set 0 sc_followed.nd (ge_ix (ge_var 0) (ge_int)))))) (gss_one (gs_if (gt_cmp no_eq (zo_eq hr.units) (ge_ix (ge_var 0) (ge_int)) (ge_str)) (gss_cons (gs_set 1 sc_followed.nd (ge_op no_add zo_add (ge_var 1) (ge_int))) (gss_one (gs_set 0 sc_followed.nd (ge_ix (ge_var 0) (ge_int))))) (gss_cons (gs_set 2 sc_followed.nd (ge_bl)) (gss_cons (gs_set 0 sc_followed.nd (ge_ix (ge_var 0) (ge_op no_add zo_add (ge_int) (ge_op no_mod zo_mod (ge_var 1) (ge_int))))) (gss_one (gs_set 1 sc_followed.nd (ge_op no_fdiv zo_fdiv (ge_var 1) (ge_int))))))))))) (gss_one (gs_ret (ge_tup (ga_cons (ge_tup (ga_cons (ge_str) (ga_cons (ge_ix (ge_var 0) (ge_int)) (ga_cons (ge_var 1) (ga_nil))))) (ga_cons (ge_var 2) (ga_nil)))))))
theorem sc_law_cell : FnScope ["script", "k", "near"] ["script", "k"] (defScope st_law_cell) := ⟨rfl, rfl, rfl, by decide +kernel, rfl, by decide +kernel, by decide +kernel⟩
theorem ok_law_cell {f : Addr} {fd : FuncData} (Fu : Fun K "_law_cell" "_law_cell" st_law_cell f fd) (m_len : mg "len" = none) : FnG P w K mg base (L2.CX P w) 1 f fd ["script", "k"] (spF ⟨K, P, w⟩ mg R_law_cell) :=
  fn_run Fu sc_law_cell rfl fun cdv A outer s H E hr => gss_cons (gs_if (gt_cmp no_lt zo_lt (ge_var 1) (ge_callB no_len zc_len rfl m_len (by decide +kernel) (ga_cons (ge_var 0) (ga_nil)))) (gss_one (gs_ret (ge_op no_mod zo_mod (ge_ix (ge_var 0) (ge_var 1)) (ge_op no_pow zo_pow (ge_int) (ge_int))))) (gss_nil)) (gss_cons (gs_set 2 sc_law_cell.nd (ge_op no_add zo_add (ge_int) (ge_op no_mul zo_mul (ge_op no_mul zo_mul (ge_int) (ge_var 1)) (ge_var 1)))) (gss_cons (gs_if (gt_cmp no_gt zo_gt (ge_callB no_len zc_len rfl m_len (by decide +kernel) (ga_cons (ge_var 0) (ga_nil))) (ge_int)) (gss_one (gs_set 2 sc_law_cell.nd (ge_op no_add zo_add (ge_var 2) (ge_op no_mul zo_mul (ge_op no_mod zo_mod (ge_ix (ge_var 0) (ge_op no_mod zo_mod (ge_var 1) (ge_callB no_len zc_len rfl m_len (by decide +kernel) (ga_cons (ge_var 0) (ga_nil))))) (ge_int)) (ge_op no_add zo_add (ge_var 1) (ge_int)))))) (gss_nil)) (gss_cons (gs_set 2 sc_law_cell.nd (ge_op no_mod zo_mod (ge_op no_mul zo_mul (ge_var 2) (ge_int)) (ge_int))) (gss_one (gs_ret (ge_op no_fdiv zo_fdiv (ge_op no_mod zo_mod (ge_op no_pow zo_pow (ge_var 2) (ge_int)) (ge_int)) (ge_int)))))))
theorem sc_law_term_v2 : FnScope ["cell", "names", "size", "term", "rest", "k", "way", "other"] ["cell", "names", "size"] (defScope st_law_term_v2) := ⟨rfl, rfl, rfl, by decide +kernel, rfl, by decide +kernel, by decide +kernel⟩
theorem ok_law_term_v2 {f : Addr} {fd : FuncData} (Fu : Fun K "_law_term" "_law_term" st_law_term_v2 f fd) (m_len : mg "len" = none) (m_range : mg "range" = none) : FnG P w K mg base (L2.CX P w) 1 f fd ["cell", "names", "size"] (spF ⟨K, P, w⟩ mg R_law_term_v2) :=
  fn_run Fu sc_law_term_v2 rfl fun cdv A outer s H E hr => gss_cons (gs_set 3 sc_law_term_v2.nd (ge_tup (ga_cons (ge_str) (ga_cons (ge_ix (ge_var 1) (ge_op no_mod zo_mod (ge_var 0) (ge_callB no_len zc_len rfl m_len (by decide +kernel) (ga_cons (ge_var 1) (ga_nil))))) (ga_nil))))) (gss_cons (gs_set 4 sc_law_term_v2.nd (ge_op no_fdiv zo_fdiv (ge_var 0) (ge_int))) (gss_cons (gs_for (passes_of rfl) rfl (gi_r1 (ge_var 2) rfl m_range) (gg_name 5 sc_law_term_v2.nd) (gss_cons (gs_set 6 sc_law_term_v2.nd (ge_op no_mod zo_mod (ge_var 4) (ge_int))) (gss_cons (gs_set 4 sc_law_term_v2.nd (ge_op no_add zo_add (ge_op no_fdiv zo_fdiv (ge_var 4) (ge_int)) (ge_op no_mul zo_mul (ge_int) (ge_var 5)))) (gss_one (gs_if (gt_cmp no_lt zo_lt (ge_var 6) (ge_int)) (gss_one (gs_set 3 sc_law_term_v2.nd (ge_tup (ga_cons (ge_str) (ga_cons (ge_op no_add zo_add (ge_op no_mod zo_mod (ge_var 4) (ge_int)) (ge_op no_mul zo_mul (ge_int) (ge_op no_mod zo_mod (ge_var 0) (ge_int)))) (ga_cons (ge_var 3) (ga_nil))))))) (gss_one (gs_if (gt_cmp no_eq (zo_eq hr.units) (ge_var 6) (ge_int)) (gss_one (gs_set 3 sc_law_term_v2.nd (ge_tup (ga_cons (ge_str) (ga_cons (ge_var 3) (ga_nil)))))) (gss_cons (gs_set 7 sc_law_term_v2.nd (ge_tup (ga_cons (ge_str) (ga_cons (ge_ix (ge_var 1) (ge_op no_mod zo_mod (ge_op no_fdiv zo_fdiv (ge_var 4) (ge_int)) (ge_callB no_len zc_len rfl m_len (by decide +kernel) (ga_cons (ge_var 1) (ga_nil))))) (ga_nil))))) (gss_cons (gs_if (gt_cmp no_eq (zo_eq hr.units) (ge_op no_mod zo_mod (ge_op no_fdiv zo_fdiv (ge_var 4) (ge_int)) (ge_int)) (ge_int)) (gss_one (gs_set 7 sc_law_term_v2.nd (ge_tup (ga_cons (ge_str) (ga_cons (ge_op no_mod zo_mod (ge_op no_fdiv zo_fdiv (ge_var 4) (ge_int)) (ge_int)) (ga_cons (ge_var 7) (ga_nil))))))) (gss_nil)) (gss_cons (gs_if (GW.gt (gw_and (gt_cmp no_eq (zo_eq hr.units) (ge_var 5) (ge_int)) (gw_and1 (gt_cmp no_eq (zo_eq hr.units) (ge_op no_mod zo_mod (ge_op no_fdiv zo_fdiv (ge_var 4) (ge_int)) (ge_int)) (ge_int))))) (gss_one (gs_set 7 sc_law_term_v2.nd (ge_tup (ga_cons (ge_str) (ga_cons (ge_tup (ga_cons (ge_str) (ga_cons (ge_var 7) (ga_cons (ge_tup (ga_cons (ge_str) (ga_cons (ge_ix (ge_var 1) (ge_op no_mod zo_mod (ge_op no_fdiv zo_fdiv (ge_var 4) (ge_int)) (ge_callB no_len zc_len rfl m_len (by decide +kernel) (ga_cons (ge_var 1) (ga_nil))))) (ga_nil)))) (ga_nil))))) (ga_nil)))))) (gss_nil)) (gss_one (gs_set 3 sc_law_term_v2.nd (ge_ix (ge_lst (ga_cons (ge_tup (ga_cons (ge_str) (ga_cons (ge_var 3) (ga_cons (ge_var 7) (ga_nil))))) (ga_cons (ge_tup (ga_cons (ge_str) (ga_cons (ge_var 7) (ga_cons (ge_var 3) (ga_nil))))) (ga_nil)))) (ge_op no_mod zo_mod (ge_op no_fdiv zo_fdiv (ge_var 4) (ge_int)) (ge_int))))))))))))))) (gss_one (gs_ret (ge_var 3)))))
theorem sc_hangs : FnScope ["term", "n"] ["term", "n"] (defScope st_hangs) := ⟨rfl, rfl, rfl, by decide +kernel, rfl, by decide +kernel, by decide +kernel⟩
theorem ok_hangs {f : Addr} {fd : FuncData} (Fu : Fun K "hangs" "hangs" st_hangs f fd) (g_followed : GF P w K mg base "followed" 1 R_followed) : FnG P w K mg base (L2.CX P w) 2 f fd ["term", "n"] (spF ⟨K, P, w⟩ mg R_hangs) :=
  fn_run Fu sc_hangs rfl fun cdv A outer s H E hr => gss_one (gs_ret (ge_ix (ge_call g_followed (hr.mono (by omega)) (takes_of rfl rfl rfl rfl) rfl (ga_cons (ge_var 0) (ga_cons (ge_var 1) (ga_nil)))) (ge_int)))
theorem sc_walk : FnScope ["book", "name", "n", "calls", "known", "lows", "found", "zipped", "again"] ["book", "name", "n"] (defScope st_walk) := ⟨rfl, rfl, rfl, by decide +kernel, rfl, by decide +kernel, by decide +kernel⟩
theorem ok_walk {f : Addr} {fd : FuncData} (Fu : Fun K "walk" "walk" st_walk f fd) (g_followed : GF P w K mg base "followed" 1 R_followed) (g_term_of : GF P w K mg base "term_of" 1 R_term_of) : FnG P w K mg base (L2.CX P w) 2 f fd ["book", "name", "n"] (spF ⟨K, P, w⟩ mg R_walk) :=
  fn_run Fu sc_walk rfl fun cdv A outer s H E hr => gss_cons (gs_set 3 sc_walk.nd (ge_lst (ga_cons (ge_tup (ga_cons (ge_var 1) (ga_cons (ge_var 2) (ga_nil)))) (ga_nil)))) (gss_cons (gs_set 4 sc_walk.nd (ge_dct1 hr.u3 (ge_tup (ga_cons (ge_var 1) (ga_cons (ge_var 2) (ga_nil)))) (ge_bl))) (gss_cons (gs_set 5 sc_walk.nd (ge_fdct1 hr.u3 (ge_var 1) (ge_var 2))) (gss_one (gs_while (passes_of rfl) (gt_val (ge_bl)) (gss_cons (gs_asg (ge_call g_followed (hr.mono (by omega)) (takes_of rfl rfl rfl rfl) rfl (ga_cons (ge_call g_term_of (hr.mono (by omega)) (takes_of rfl rfl rfl rfl) rfl (ga_cons (ge_var 0) (ga_cons (ge_var 1) (ga_nil)))) (ga_cons (ge_var 2) (ga_nil)))) (gg_tup rfl (ggs_cons (gg_name 6 sc_walk.nd) (ggs_cons (gg_name 7 sc_walk.nd) (ggs_nil))))) (gss_cons (gs_if (gt_cmp no_eq (zo_eq hr.units) (ge_ix (ge_var 6) (ge_int)) (ge_str)) (gss_one (gs_ret (ge_tup (ga_cons (ge_str) (ga_cons (ge_ix (ge_var 6) (ge_int)) (ga_cons (ge_var 3) (ga_nil))))))) (gss_nil)) (gss_cons (gs_asg (ge_sl (ge_var 6) (go_some (ge_int)) go_none) (gg_tup rfl (ggs_cons (gg_name 1 sc_walk.nd) (ggs_cons (gg_name 2 sc_walk.nd) (ggs_nil))))) (gss_cons (gs_if (gt_val (ge_var 7)) (gss_one (gs_set 5 sc_walk.nd (ge_dctF))) (gss_nil)) (gss_cons (gs_set 8 sc_walk.nd (ge_or (ge_kin hr.u1 (ge_tup (ga_cons (ge_var 1) (ga_cons (ge_var 2) (ga_nil)))) (ge_var 4)) (ge_one (ge_and (ge_fin hr.u1 (ge_var 1) (ge_var 5)) (ge_one (ge_cmp no_le zo_le (ge_fget hr.u1 (ge_var 5) (ge_var 1)) (ge_var 2))))))) (gss_cons (gs_expr (ge_mt .list no_append PySem.F.plainAttrs_list PySem.F.slot_list_append PySem.F.type_list_append zm_append (ge_var 3) (ga_cons (ge_tup (ga_cons (ge_var 1) (ga_cons (ge_var 2) (ga_nil)))) (ga_nil)))) (gss_cons (gs_kput hr.u1 (ge_bl) (ge_var 4) (ge_tup (ga_cons (ge_var 1) (ga_cons (ge_var 2) (ga_nil))))) (gss_cons (gs_if (gt_val (ge_var 8)) (gss_one (gs_ret (ge_tup (ga_cons (ge_str) (ga_cons (ge_var 3) (ga_nil)))))) (gss_nil)) (gss_one (gs_fput hr.u1 (ge_var 2) (ge_var 5) (ge_var 1)))))))))))))))
theorem sc_law_book_v2 : FnScope ["script", "cell", "pool", "names", "found", "k", "near", "term"] ["script"] (defScope st_law_book_v2) := ⟨rfl, rfl, rfl, by decide +kernel, rfl, by decide +kernel, by decide +kernel⟩
theorem ok_law_book_v2 {f : Addr} {fd : FuncData} (Fu : Fun K "_law_book" "_law_book" st_law_book_v2 f fd) (g__law_cell : GF P w K mg base "_law_cell" 1 R_law_cell) (g__law_term : GF P w K mg base "_law_term" 1 R_law_term_v2) (m_range : mg "range" = none) (m_len : mg "len" = none) (m_tuple : mg "tuple" = none) : FnG P w K mg base (L2.CX P w) 2 f fd ["script"] (spF ⟨K, P, w⟩ mg R_law_book_v2) :=
  fn_run Fu sc_law_book_v2 rfl fun cdv A outer s H E hr => gss_cons (gs_set 1 sc_law_book_v2.nd (ge_call g__law_cell (hr.mono (by omega)) (takes_of rfl rfl rfl rfl) rfl (ga_cons (ge_var 0) (ga_cons (ge_int) (ga_nil))))) (gss_cons (gs_set 2 sc_law_book_v2.nd (ge_ix (ge_lst (ga_cons (ge_lst (ga_cons (ge_str) (ga_cons (ge_str) (ga_cons (ge_str) (ga_cons (ge_str) (ga_nil)))))) (ga_cons (ge_lst (ga_cons (ge_str) (ga_cons (ge_str) (ga_cons (ge_str) (ga_cons (ge_str) (ga_nil)))))) (ga_cons (ge_lst (ga_cons (ge_str) (ga_cons (ge_str) (ga_cons (ge_str) (ga_cons (ge_str) (ga_nil)))))) (ga_nil))))) (ge_op no_mod zo_mod (ge_var 1) (ge_int)))) (gss_cons (gs_set 3 sc_law_book_v2.nd (ge_sl (ge_var 2) go_none (go_some (ge_op no_add zo_add (ge_int) (ge_op no_mod zo_mod (ge_op no_fdiv zo_fdiv (ge_var 1) (ge_int)) (ge_int)))))) (gss_cons (gs_set 4 sc_law_book_v2.nd (ge_lst (ga_nil))) (gss_cons (gs_for (passes_of rfl) rfl (gi_r1 (ge_callB no_len zc_len rfl m_len (by decide +kernel) (ga_cons (ge_var 3) (ga_nil))) rfl m_range) (gg_name 5 sc_law_book_v2.nd) (gss_cons (gs_set 6 sc_law_book_v2.nd (ge_call g__law_cell (hr.mono (by omega)) (takes_of rfl rfl rfl rfl) rfl (ga_cons (ge_var 0) (ga_cons (ge_op no_add zo_add (ge_int) (ge_var 5)) (ga_nil))))) (gss_cons (gs_set 7 sc_law_book_v2.nd (ge_call g__law_term (hr.mono (by omega)) (takes_of rfl rfl rfl rfl) rfl (ga_cons (ge_op no_fdiv zo_fdiv (ge_var 6) (ge_int)) (ga_cons (ge_var 3) (ga_cons (ge_op no_add zo_add (ge_int) (ge_op no_mod zo_mod (ge_var 6) (ge_int))) (ga_nil)))))) (gss_cons (gs_if (gt_cmp no_gt zo_gt (ge_op no_mod zo_mod (ge_op no_fdiv zo_fdiv (ge_var 6) (ge_int)) (ge_int)) (ge_int)) (gss_one (gs_set 7 sc_law_book_v2.nd (ge_tup (ga_cons (ge_str) (ga_cons (ge_op no_mod zo_mod (ge_op no_fdiv zo_fdiv (ge_var 6) (ge_int)) (ge_int)) (ga_cons (ge_var 7) (ga_nil))))))) (gss_nil)) (gss_one (gs_expr (ge_mt .list no_append PySem.F.plainAttrs_list PySem.F.slot_list_append PySem.F.type_list_append zm_append (ge_var 4) (ga_cons (ge_tup (ga_cons (ge_ix (ge_var 3) (ge_var 5)) (ga_cons (ge_var 7) (ga_nil)))) (ga_nil))))))))) (gss_one (gs_ret (ge_callTy no_tuple zc_tuple rfl m_tuple (by decide +kernel) (ga_cons (ge_var 4) (ga_nil)))))))))
theorem sc_law_v14 : FnScope ["script", "book", "places", "name", "term", "n", "found", "there", "further", "last", "k"] ["script"] (defScope st_law_v14) := ⟨rfl, rfl, rfl, by decide +kernel, rfl, by decide +kernel, by decide +kernel⟩
theorem ok_law_v14 {f : Addr} {fd : FuncData} (Fu : Fun K "law" "law" st_law_v14 f fd) (g__law_book : GF P w K mg base "_law_book" 2 R_law_book_v2) (g__law_cell : GF P w K mg base "_law_cell" 1 R_law_cell) (g_walk : GF P w K mg base "walk" 2 R_walk) (g_hangs : GF P w K mg base "hangs" 2 R_hangs) (m_list : mg "list" = none) (m_range : mg "range" = none) (m_len : mg "len" = none) (m_set : mg "set" = none) : FnG P w K mg base (L2.CX P w) 3 f fd ["script"] (spF ⟨K, P, w⟩ mg R_law_v14) :=
  fn_run Fu sc_law_v14 rfl fun cdv A outer s H E hr => gss_cons (gs_set 1 sc_law_v14.nd (ge_call g__law_book (hr.mono (by omega)) (takes_of rfl rfl rfl rfl) rfl (ga_cons (ge_var 0) (ga_nil)))) (gss_cons (gs_set 2 sc_law_v14.nd (ge_op no_add zo_add (ge_lr rfl rfl m_list rfl m_range (ge_int)) (ge_lc [("k", 10)] rfl sc_law_v14.nd (gi_r1 (ge_int) rfl m_range) (blkOk_by rfl) (fun _ _ _ _ _ => gg_name 10 sc_law_v14.nd) (fun _ _ _ _ _ => gts_nil) (fun _ _ _ _ _ => ge_op no_mod zo_mod (ge_call g__law_cell (hr.mono (by omega)) takes0 rfl (ga_cons (ge_var 0) (ga_cons (ge_op no_add zo_add (ge_int) (ge_var 10)) (ga_nil)))) (ge_int))))) (gss_cons (gs_for (passes_of rfl) rfl (gi_any (ge_var 1)) (gg_tup rfl (ggs_cons (gg_name 3 sc_law_v14.nd) (ggs_cons (gg_name 4 sc_law_v14.nd) (ggs_nil)))) (gss_one (gs_for (passes_of rfl) rfl (gi_any (ge_var 2)) (gg_name 5 sc_law_v14.nd) (gss_cons (gs_set 6 sc_law_v14.nd (ge_call g_walk (hr.mono (by omega)) (takes_of rfl rfl rfl rfl) rfl (ga_cons (ge_var 1) (ga_cons (ge_var 3) (ga_cons (ge_var 5) (ga_nil)))))) (gss_cons (gs_set 7 sc_law_v14.nd (ge_call g_hangs (hr.mono (by omega)) (takes_of rfl rfl rfl rfl) rfl (ga_cons (ge_var 4) (ga_cons (ge_var 5) (ga_nil))))) (gss_cons (gs_if (gt_cmp no_eq (zo_eq hr.units) (ge_ix (ge_var 7) (ge_int)) (ge_str)) (gss_cons (gs_if (GW.gt (gw_or (gt_cmp no_ne (zo_ne hr.units) (ge_sl (ge_var 6) go_none (go_some (ge_int))) (ge_tup (ga_cons (ge_str) (ga_cons (ge_ix (ge_var 7) (ge_int)) (ga_nil))))) (gw_or1 (gt_cmp no_ne (zo_ne hr.units) (ge_ix (ge_var 6) (ge_int)) (ge_lst (ga_cons (ge_tup (ga_cons (ge_var 3) (ga_cons (ge_var 5) (ga_nil)))) (ga_nil))))))) (gss_one (gs_ret (ge_bl))) (gss_nil)) (gss_one (gs_continue))) (gss_nil)) (gss_cons (gs_set 8 sc_law_v14.nd (ge_call g_walk (hr.mono (by omega)) (takes_of rfl rfl rfl rfl) rfl (ga_cons (ge_var 1) (ga_cons (ge_ix (ge_var 7) (ge_int)) (ga_cons (ge_ix (ge_var 7) (ge_int)) (ga_nil)))))) (gss_cons (gs_if (GW.gt (gw_or (gt_cmp no_ne (zo_ne hr.units) (ge_ix (ge_var 6) (ge_int)) (ge_ix (ge_var 8) (ge_int))) (gw_or1 (GW.gt (gw_and (gt_cmp no_eq (zo_eq hr.units) (ge_ix (ge_var 6) (ge_int)) (ge_str)) (gw_and1 (gt_cmp no_ne (zo_ne hr.units) (ge_sl (ge_var 6) go_none (go_some (ge_int))) (ge_sl (ge_var 8) go_none (go_some (ge_int)))))))))) (gss_one (gs_ret (ge_bl))) (gss_nil)) (gss_cons (gs_if (GW.gt (gw_and (gt_cmp no_eq (zo_eq hr.units) (ge_ix (ge_var 6) (ge_int)) (ge_str)) (gw_and1 (gt_cmp no_ne (zo_ne hr.units) (ge_ix (ge_var 6) (ge_int)) (ge_op no_add zo_add (ge_lst (ga_cons (ge_tup (ga_cons (ge_var 3) (ga_cons (ge_var 5) (ga_nil)))) (ga_nil))) (ge_ix (ge_var 8) (ge_int))))))) (gss_one (gs_ret (ge_bl))) (gss_nil)) (gss_one (gs_if (gt_cmp no_eq (zo_eq hr.units) (ge_ix (ge_var 6) (ge_int)) (ge_str)) (gss_cons (gs_set 9 sc_law_v14.nd (ge_ix (ge_ix (ge_var 6) (ge_int)) (ge_un no_neg zo_neg (ge_int)))) (gss_one (gs_if (GW.gt (gw_or (gt_cmp no_ne (zo_ne hr.units) (ge_ix (ge_call g_walk (hr.mono (by omega)) (takes_of rfl rfl rfl rfl) rfl (ga_cons (ge_var 1) (ga_cons (ge_ix (ge_var 9) (ge_int)) (ga_cons (ge_ix (ge_var 9) (ge_int)) (ga_nil))))) (ge_int)) (ge_str)) (gw_or1 (gt_few rfl hr.u65 rfl m_len rfl m_set (ge_ix (ge_var 6) (ge_int)) (ge_op no_sub zo_sub (ge_callB no_len zc_len rfl m_len (by decide +kernel) (ga_cons (ge_ix (ge_var 6) (ge_int)) (ga_nil))) (ge_int)))))) (gss_one (gs_ret (ge_bl))) (gss_nil)))) (gss_nil)))))))))))) (gss_one (gs_ret (ge_bl)))))
set_option maxHeartbeats 0 in
abbrev lawC (R : Fn) (P : Program) (w : World) (K : PySem.W.Frag) (mg : Str → Option Value) (fa : Addr) : Prop := ∃ fd : FuncData, (∀ (s : Shared) (v : Value), BindsTo s fd ⟨[v], []⟩ [("script", v)]) ∧ ∀ base : Heap, K.In base → base.Ns mainGlobals mg → FnG P w K mg base (L2.CX P w) 3 fa fd ["script"] (spF ⟨K, P, w⟩ mg R)
set_option maxHeartbeats 0 in
theorem all_mk : AMK (lawC R_law_v14) := by
  intro P w K h mg fa X G hfa f0 od0 an0 sl0 oc0 kV0 dc0 pm0 cd0 ct0 f1 od1 an1 sl1 oc1 kV1 dc1 pm1 cd1 ct1 f2 od2 an2 sl2 oc2 kV2 dc2 pm2 cd2 ct2 f3 od3 an3 sl3 oc3 kV3 dc3 pm3 cd3 ct3 f4 od4 an4 sl4 oc4 kV4 dc4 pm4 cd4 ct4 f5 od5 an5 sl5 oc5 kV5 dc5 pm5 cd5 ct5 f6 od6 an6 sl6 oc6 kV6 dc6 pm6 cd6 ct6 f7 od7 an7 sl7 oc7 kV7 dc7 pm7 cd7 ct7 a0 l0 c0 k0 a1 l1 c1 k1 a2 l2 c2 k2 a3 l3 c3 k3 a4 l4 c4 k4 a5 l5 c5 k5 a6 l6 c6 k6 a7 l7 c7 k7 z_dict z_len z_range z_tuple z_list z_set
  have e := hfa.symm.trans (PySem.W.mg_of X G a7)
  cases e
  have m_dict := PySem.W.mg_none_of X G z_dict
  have m_len := PySem.W.mg_none_of X G z_len
  have m_range := PySem.W.mg_none_of X G z_range
  have m_tuple := PySem.W.mg_none_of X G z_tuple
  have m_list := PySem.W.mg_none_of X G z_list
  have m_set := PySem.W.mg_none_of X G z_set
  have F0 := fun_mk (st := st_term_of) l0 c0 k0
  have B0 := F0.binds (ps := ["book", "name"]) fun _ _ _ _ _ _ us hl => match us, hl with | [_, _], _ => rfl
  have F1 := fun_mk (st := st_followed) l1 c1 k1
  have B1 := F1.binds (ps := ["term", "n"]) fun _ _ _ _ _ _ us hl => match us, hl with | [_, _], _ => rfl
  have F2 := fun_mk (st := st_law_cell) l2 c2 k2
  have B2 := F2.binds (ps := ["script", "k"]) fun _ _ _ _ _ _ us hl => match us, hl with | [_, _], _ => rfl
  have F3 := fun_mk (st := st_law_term_v2) l3 c3 k3
  have B3 := F3.binds (ps := ["cell", "names", "size"]) fun _ _ _ _ _ _ us hl => match us, hl with | [_, _, _], _ => rfl
  have F4 := fun_mk (st := st_hangs) l4 c4 k4
  have B4 := F4.binds (ps := ["term", "n"]) fun _ _ _ _ _ _ us hl => match us, hl with | [_, _], _ => rfl
  have F5 := fun_mk (st := st_walk) l5 c5 k5
  have B5 := F5.binds (ps := ["book", "name", "n"]) fun _ _ _ _ _ _ us hl => match us, hl with | [_, _, _], _ => rfl
  have F6 := fun_mk (st := st_law_book_v2) l6 c6 k6
  have B6 := F6.binds (ps := ["script"]) fun _ _ _ _ _ _ us hl => match us, hl with | [_], _ => rfl
  have F7 := fun_mk (st := st_law_v14) l7 c7 k7
  refine ⟨PySem.W.fnOf "law" "law" (defArgs st_law_v14) (defBody st_law_v14) (defScope st_law_v14) .none kV7 dc7 pm7 an7 cd7 ct7, fun s v => .of_eq rfl, fun base _ _ => ?_⟩
  have g_term_of : GF P w K mg base "term_of" 1 R_term_of := gf_of (PySem.W.mg_of X G a0) k0 B0 (ok_term_of F0 m_dict)
  have g_followed : GF P w K mg base "followed" 1 R_followed := gf_of (PySem.W.mg_of X G a1) k1 B1 (ok_followed F1 )
  have g__law_cell : GF P w K mg base "_law_cell" 1 R_law_cell := gf_of (PySem.W.mg_of X G a2) k2 B2 (ok_law_cell F2 m_len)
  have g__law_term : GF P w K mg base "_law_term" 1 R_law_term_v2 := gf_of (PySem.W.mg_of X G a3) k3 B3 (ok_law_term_v2 F3 m_len m_range)
  have g_hangs : GF P w K mg base "hangs" 2 R_hangs := gf_of (PySem.W.mg_of X G a4) k4 B4 (ok_hangs F4 g_followed)
  have g_walk : GF P w K mg base "walk" 2 R_walk := gf_of (PySem.W.mg_of X G a5) k5 B5 (ok_walk F5 g_followed g_term_of)
  have g__law_book : GF P w K mg base "_law_book" 2 R_law_book_v2 := gf_of (PySem.W.mg_of X G a6) k6 B6 (ok_law_book_v2 F6 g__law_cell g__law_term m_range m_len m_tuple)
  exact ok_law_v14 F7 g__law_book g__law_cell g_walk g_hangs m_list m_range m_len m_set
end
end Z
theorem PySem.Challenge.cw_zipspring_k22_whole_signs_keep_equations_holds : PySem.Challenge.rw_zipspring_k22_whole_signs_keep_equations.Holds := by
  refine Z.pre (Z.lawC Z.R_law_v14) @Z.all_mk fun K d hn hd F => ?_
  exact Z.walkZ (l := PySem.Challenge.rw_zipspring_k22_whole_signs_keep_equations) (k := 3) (R := Z.R_law_v14) (K := K) rfl (by decide) ⟨⟨rfl, by decide, by decide⟩, rfl⟩ hd (fun w h Y => Y) (fun ns hl _ => Z.s_law_v14 ns hl) (fun w mg fa h KX G hmg => F w mg fa h KX G (by rw [← hn]; exact hmg))
