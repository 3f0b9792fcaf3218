import PyProof.Rows.All
import Wide.All
import OpenK.AllK
import Wide.FinOn
import HandS.ForSpec
import HandS.ForMost
import HandS.Wide
import HandS.CallSlots
import HandS.TupAny
import HandS.Deep
import HandS.IsInst
import HandS.Style
import HandS.TupMul
import HandS.EndBits
import HandS.Iter
import HandS.Conv
import HandS.Text
import HandS.RaiseMore
import HandS.Dict
import KE.KDictDisplayH
import KE.KDictPairs
import PySem.Challenge.RW_zipspring_k30_alike_or_parted
set_option Elab.async false
set_option linter.all false
set_option maxRecDepth 100000
set_option autoImplicit false
namespace Z
/-! values without addresses; lists, dicts, sets and instances stand in a store, by number -/
inductive D where
  | non | bl (b : Bool) | int (i : Int) | str (s : List Nat) | tup (xs : List D) | ref (n : Nat) | fl (xs : List D)
inductive MO where
  | lst (xs : List D) | dct (kvs : List (List D × D)) | st (kvs : List (List D × D)) | ins (c : String) (fs : List (String × D)) | exn (c : String)
abbrev Store := List MO
inductive Res (α : Type) where
  | ok (a : α) (S : Store) | ex (c : String) (S : Store)
abbrev M (α : Type) := Option (Res α)
abbrev Env := List (Option D)
inductive Out where
  | nx (ρ : Env) (S : Store) | rt (d : D) (S : Store) | bk (ρ : Env) (S : Store) | ct (ρ : Env) (S : Store) | ex (c : String) (ρ : Env) (S : Store)
/-- the most that a list or a text holds -/
@[irreducible] def LINE : Nat := 16777216
theorem LINE_eq : LINE = 16777216 := by unfold LINE; rfl
def bd {α β : Type} : M α → (α → Store → M β) → M β
  | none, _ => none
  | some (.ok a S), f => f a S
  | some (.ex c S), _ => some (.ex c S)
@[simp] theorem bd_ok {α β : Type} (a : α) (S : Store) (f : α → Store → M β) : bd (some (.ok a S)) f = f a S := rfl
@[simp] theorem bd_no {α β : Type} (f : α → Store → M β) : bd none f = none := rfl
@[simp] theorem bd_ex {α β : Type} (c : String) (S : Store) (f : α → Store → M β) : bd (some (.ex c S)) f = some (.ex c S) := rfl
/-- what raises is not told -/
def bq {α β : Type} : M α → (α → Store → M β) → M β
  | some (.ok a S), f => f a S
  | _, _ => none
@[simp] theorem bq_ok {α β : Type} (a : α) (S : Store) (f : α → Store → M β) : bq (some (.ok a S)) f = f a S := rfl
@[simp] theorem bq_no {α β : Type} (f : α → Store → M β) : bq none f = none := rfl
@[simp] theorem bq_ex {α β : Type} (c : String) (S : Store) (f : α → Store → M β) : bq (some (.ex c S)) f = none := rfl
def bo {α : Type} : M α → Env → (α → Store → Option Out) → Option Out
  | none, _, _ => none
  | some (.ok a S), _, f => f a S
  | some (.ex c S), ρ, _ => some (.ex c ρ S)
@[simp] theorem bo_ok {α : Type} (a : α) (S : Store) (ρ : Env) (f : α → Store → Option Out) : bo (some (.ok a S)) ρ f = f a S := rfl
@[simp] theorem bo_no {α : Type} (ρ : Env) (f : α → Store → Option Out) : bo none ρ f = none := rfl
@[simp] theorem bo_ex {α : Type} (c : String) (S : Store) (ρ : Env) (f : α → Store → Option Out) : bo (some (.ex c S)) ρ f = some (.ex c ρ S) := rfl
abbrev SE := Env → Store → M D
abbrev ST := Env → Store → M Bool
abbrev SS := Env → Store → Option Out
abbrev Fn := List D → Store → M D
def ok1 (d : D) (S : Store) : M D := some (.ok d S)
def new1 (o : MO) (S : Store) : M D := some (.ok (.ref S.length) (S ++ [o]))
/-! ### expressions -/
def eVar (i : Nat) : SE := fun ρ S => match ρ[i]? with | some (some d) => some (.ok d S) | _ => none
def eC (d : D) : SE := fun _ S => some (.ok d S)
def e1 (f : D → Store → M D) (a : SE) : SE := fun ρ S => bd (a ρ S) f
def e2 (f : D → D → Store → M D) (a b : SE) : SE := fun ρ S => bd (a ρ S) fun x S1 => bd (b ρ S1) fun y S2 => f x y S2
def evL : List SE → Env → Store → M (List D)
  | [], _, S => some (.ok [] S)
  | a :: r, ρ, S => bd (a ρ S) fun x S1 => bd (evL r ρ S1) fun xs S2 => some (.ok (x :: xs) S2)
def eTup (es : List SE) : SE := fun ρ S => bd (evL es ρ S) fun xs S1 => some (.ok (.tup xs) S1)
def eLst (es : List SE) : SE := fun ρ S => bd (evL es ρ S) fun xs S1 => new1 (.lst xs) S1
def eCall (F : Fn) (es : List SE) : SE := fun ρ S => bd (evL es ρ S) F
def eAnd (a b : SE) : SE := fun ρ S => bd (a ρ S) fun x S1 => match x with | .bl true => b ρ S1 | .bl false => some (.ok (.bl false) S1) | _ => none
def eOr (a b : SE) : SE := fun ρ S => bd (a ρ S) fun x S1 => match x with | .bl false => b ρ S1 | .bl true => some (.ok (.bl true) S1) | _ => none
def eNot (a : SE) : SE := fun ρ S => bd (a ρ S) fun x S1 => match x with | .bl b => some (.ok (.bl !b) S1) | _ => none
/-- a op b op' c -/
def eCh (f g : D → D → Store → M D) (a b c : SE) : SE := fun ρ S => bd (a ρ S) fun x S1 => bd (b ρ S1) fun y S2 => bd (f x y S2) fun z S3 =>
  match z with | .bl true => bd (c ρ S3) fun w S4 => g y w S4 | .bl false => some (.ok (.bl false) S3) | _ => none
def tVal (e : SE) : ST := fun ρ S => bd (e ρ S) fun x S1 => match x with | .bl b => some (.ok b S1) | _ => none
def tAnd (a b : ST) : ST := fun ρ S => bd (a ρ S) fun x S1 => if x = true then b ρ S1 else some (.ok false S1)
def tOr (a b : ST) : ST := fun ρ S => bd (a ρ S) fun x S1 => if x = true then some (.ok true S1) else b ρ S1
def tNot (a : ST) : ST := fun ρ S => bd (a ρ S) fun x S1 => some (.ok (!x) S1)
def eIf (t : ST) (a b : SE) : SE := fun ρ S => bd (t ρ S) fun x S1 => if x = true then a ρ S1 else b ρ S1
/-! ### what is walked: the items, and what must stay -/
structure Itm where
  xs : List D
  chk : Store → Prop
abbrev SI := Env → Store → M Itm
abbrev SG := D → Env → Store → Option (Env × Store)
def gName (i : Nat) : SG := fun d ρ S => some (ρ.set i (some d), S)
def gAll : List SG → List D → Env → Store → Option (Env × Store)
  | [], [], ρ, S => some (ρ, S)
  | g :: gs, d :: ds, ρ, S => match g d ρ S with | some (ρ1, S1) => gAll gs ds ρ1 S1 | none => none
  | _, _, _, _ => none
def gTup (gs : List SG) : SG := fun d ρ S => match d with | .tup ds => gAll gs ds ρ S | _ => none
open Classical in
/-- a comprehension: the items made so far stand in the new list at l -/
noncomputable def lcL (chk : Store → Prop) (g : SG) (t : ST) (e : SE) (l : Nat) : List D → Env → Store → M D
  | [], _, S => if chk S then some (.ok (.ref l) S) else none
  | x :: r, ρ, S => if chk S then (match g x ρ S with
      | none => none
      | some (ρ1, S1) => bq (t ρ1 S1) fun b S2 => if b = true then bq (e ρ1 S2) fun y S3 => (match S3[l]? with
            | some (.lst acc) => if acc.length < LINE then lcL chk g t e l r ρ (S3.set l (.lst (acc ++ [y]))) else none
            | _ => none)
          else lcL chk g t e l r ρ S2)
    else none
def wipe (ρ : Env) : List Nat → Env
  | [] => ρ
  | v :: vs => (wipe ρ vs).set v none
noncomputable def eLc (it : SI) (g : SG) (t : ST) (e : SE) (own : List Nat) : SE := fun ρ S => bd (it ρ S) fun J S1 => lcL J.chk g t e S1.length J.xs (wipe ρ own) (S1 ++ [.lst []])
def tYes : ST := fun _ S => some (.ok true S)
/-! ### statements -/
def sq (a b : SS) : SS := fun ρ S => match a ρ S with | some (.nx ρ1 S1) => b ρ1 S1 | o => o
def sNx : SS := fun ρ S => some (.nx ρ S)
def sBk : SS := fun ρ S => some (.bk ρ S)
def sCt : SS := fun ρ S => some (.ct ρ S)
def sExp (e : SE) : SS := fun ρ S => bo (e ρ S) ρ fun _ S1 => some (.nx ρ S1)
def sRet (e : SE) : SS := fun ρ S => bo (e ρ S) ρ fun d S1 => some (.rt d S1)
def sIf (t : ST) (a b : SS) : SS := fun ρ S => bo (t ρ S) ρ fun x S1 => if x = true then a ρ S1 else b ρ S1
def sAsg (e : SE) (g : SG) : SS := fun ρ S => bo (e ρ S) ρ fun d S1 => match g d ρ S1 with | some (ρ2, S2) => some (.nx ρ2 S2) | none => none
def sAug (i : Nat) (f : D → D → Store → M D) (e : SE) : SS := fun ρ S => bo (e2 f (eVar i) e ρ S) ρ fun d S1 => some (.nx (ρ.set i (some d)) S1)
open Classical in
noncomputable def forL (chk : Store → Prop) (g : SG) (b : SS) : List D → SS
  | [], ρ, S => if chk S then some (.nx ρ S) else none
  | x :: r, ρ, S => if chk S then (match g x ρ S with
      | none => none
      | some (ρ1, S1) => match b ρ1 S1 with
        | some (.nx ρ2 S2) => forL chk g b r ρ2 S2
        | some (.ct ρ2 S2) => forL chk g b r ρ2 S2
        | some (.bk ρ2 S2) => some (.nx ρ2 S2)
        | o => o)
    else none
noncomputable def sFor (it : SI) (g : SG) (b : SS) : SS := fun ρ S => bo (it ρ S) ρ fun J S1 => forL J.chk g b J.xs ρ S1
def sWh (t : ST) (b : SS) (ρ : Env) (S : Store) : Option Out :=
  match t ρ S with
  | none => none
  | some (.ex c S1) => some (.ex c ρ S1)
  | some (.ok false S1) => some (.nx ρ S1)
  | some (.ok true S1) => match b ρ S1 with
    | some (.nx ρ2 S2) => sWh t b ρ2 S2
    | some (.ct ρ2 S2) => sWh t b ρ2 S2
    | some (.bk ρ2 S2) => some (.nx ρ2 S2)
    | some (.rt d S2) => some (.rt d S2)
    | some (.ex c ρ2 S2) => some (.ex c ρ2 S2)
    | none => none
partial_fixpoint
def sRaise (c : String) : SS := fun ρ S => some (.ex c ρ S)
/-- the parameters' values, then the other names -/
def env0 (n : Nat) (ds : List D) : Env := ds.map some ++ List.replicate (n - ds.length) none
end Z
namespace Z
/-! ### data, for == and repr -/
inductive PD where
  | non | bl (b : Bool) | int (i : Int) | str (s : List Nat) | lst (xs : List PD) | tup (xs : List PD)
def b2i (b : Bool) : Int := if b then 1 else 0
mutual
def PD.eqv : PD → PD → Bool
  | .non, .non => true
  | .bl a, .bl b => a == b
  | .bl a, .int j => b2i a == j
  | .int i, .bl b => i == b2i b
  | .int i, .int j => i == j
  | .str x, .str y => x == y
  | .lst xs, .lst ys => eqvL xs ys
  | .tup xs, .tup ys => eqvL xs ys
  | .non, .bl _ | .non, .int _ | .non, .str _ | .non, .lst _ | .non, .tup _ => false
  | .bl _, .non | .bl _, .str _ | .bl _, .lst _ | .bl _, .tup _ => false
  | .int _, .non | .int _, .str _ | .int _, .lst _ | .int _, .tup _ => false
  | .str _, .non | .str _, .bl _ | .str _, .int _ | .str _, .lst _ | .str _, .tup _ => false
  | .lst _, .non | .lst _, .bl _ | .lst _, .int _ | .lst _, .str _ | .lst _, .tup _ => false
  | .tup _, .non | .tup _, .bl _ | .tup _, .int _ | .tup _, .str _ | .tup _, .lst _ => false
def eqvL : List PD → List PD → Bool
  | [], [] => true
  | x :: xs, y :: ys => PD.eqv x y && eqvL xs ys
  | [], _ :: _ => false
  | _ :: _, [] => false
end
mutual
def PD.dep : PD → Nat
  | .lst xs => depL xs + 1
  | .tup xs => depL xs + 1
  | _ => 0
def depL : List PD → Nat
  | [] => 0
  | x :: xs => max (PD.dep x) (depL xs)
end
mutual
/-- the data of a value; g: of what stands at a number -/
def D.pd (g : Nat → Option PD) : D → Option PD
  | .non => some .non
  | .bl b => some (.bl b)
  | .int i => some (.int i)
  | .str s => some (.str s)
  | .tup xs => (pdL g xs).map .tup
  | .fl xs => (pdL g xs).map .lst
  | .ref n => g n
def pdL (g : Nat → Option PD) : List D → Option (List PD)
  | [] => some []
  | x :: xs => match D.pd g x, pdL g xs with
    | some y, some ys => some (y :: ys)
    | _, _ => none
end
def rdR : Nat → Store → Nat → Option PD
  | 0, _, _ => none
  | n + 1, S, r => match S[r]? with
    | some (.lst xs) => (pdL (rdR n S) xs).map .lst
    | _ => none
def dat (S : Store) (d : D) : Option PD := d.pd (rdR 70 S)
def eqD (d e : D) (S : Store) : M D := match dat S d, dat S e with
  | some x, some y => if x.dep ≤ 64 ∧ y.dep ≤ 64 then some (.ok (.bl (x.eqv y)) S) else none
  | _, _ => none
def neD (d e : D) (S : Store) : M D := match dat S d, dat S e with
  | some x, some y => if x.dep ≤ 64 ∧ y.dep ≤ 64 then some (.ok (.bl (!x.eqv y)) S) else none
  | _, _ => none
/-! ### numbers -/
def addD : D → D → Store → M D
  | .int i, .int j, S => some (.ok (.int (i + j)) S)
  | .str a, .str b, S => if a.length + b.length ≤ LINE then some (.ok (.str (a ++ b)) S) else none
  | .tup a, .tup b, S => if a.length + b.length ≤ LINE then some (.ok (.tup (a ++ b)) S) else none
  | .ref m, .ref n, S => match S[m]?, S[n]? with
    | some (.lst a), some (.lst b) => if a.length + b.length ≤ LINE then new1 (.lst (a ++ b)) S else none
    | _, _ => none
  | _, _, _ => none
/-- += -/
def iaddD : D → D → Store → M D
  | .int i, .int j, S => some (.ok (.int (i + j)) S)
  | _, _, _ => none
def subD : D → D → Store → M D
  | .int i, .int j, S => some (.ok (.int (i - j)) S)
  | _, _, _ => none
@[irreducible] def small (i : Int) : Prop := -18446744073709551616 < i ∧ i < 18446744073709551616
theorem small_iff (i : Int) : small i ↔ -18446744073709551616 < i ∧ i < 18446744073709551616 := by unfold small; exact Iff.rfl
noncomputable instance (i : Int) : Decidable (small i) := Classical.propDecidable _
noncomputable def mulD : D → D → Store → M D
  | .int i, .int j, S => if (small i ∨ small j) ∨ i.natAbs.log2 + j.natAbs.log2 < 1000000 then some (.ok (.int (i * j)) S) else none
  | .ref m, .int k, S => match S[m]? with
    | some (.lst a) => if -9223372036854775808 ≤ k ∧ k < 9223372036854775808 ∧ a.length * k.toNat ≤ LINE then new1 (.lst (List.replicate k.toNat a).flatten) S else none
    | _ => none
  | .tup a, .int k, S => if 0 < a.length ∧ a.length ≤ 1000 ∧ 2 ≤ k ∧ k ≤ 1000 then some (.ok (.tup (List.replicate k.toNat a).flatten) S) else none
  | _, _, _ => none
def fdivD : D → D → Store → M D
  | .int i, .int j, S => if 0 < j ∧ j.natAbs.log2 < 9000 then some (.ok (.int (i / j)) S) else none
  | _, _, _ => none
def modD : D → D → Store → M D
  | .int i, .int j, S => if 0 < j then some (.ok (.int (i % j)) S) else none
  | _, _, _ => none
noncomputable def powD : D → D → Store → M D
  | .int i, .int j, S => if 0 ≤ j ∧ j ≤ 1000000 ∧ small i then some (.ok (.int (i ^ j.toNat)) S) else none
  | _, _, _ => none
def negD : D → Store → M D
  | .int i, S => some (.ok (.int (-i)) S)
  | _, _ => none
def ltD : D → D → Store → M D
  | .int i, .int j, S => some (.ok (.bl (decide (i < j))) S)
  | _, _, _ => none
def leD : D → D → Store → M D
  | .int i, .int j, S => some (.ok (.bl (decide (i ≤ j))) S)
  | _, _, _ => none
def gtD : D → D → Store → M D
  | .int i, .int j, S => some (.ok (.bl (decide (j < i))) S)
  | _, _, _ => none
def geD : D → D → Store → M D
  | .int i, .int j, S => some (.ok (.bl (decide (j ≤ i))) S)
  | _, _, _ => none
def isNonB : D → Bool
  | .non => true
  | _ => false
/-- is None, is True -/
def isD : D → D → Store → M D
  | x, .non, S => some (.ok (.bl (isNonB x)) S)
  | .bl a, .bl b, S => some (.ok (.bl (a == b)) S)
  | _, _, _ => none
def isntD : D → D → Store → M D
  | x, .non, S => some (.ok (.bl (!isNonB x)) S)
  | .bl a, .bl b, S => some (.ok (.bl (!(a == b))) S)
  | _, _, _ => none
/-! ### sequences -/
def ixN (n : Nat) (i : Int) : Option Nat := if 0 ≤ i then (if i < n then some i.toNat else none) else if -(n : Int) ≤ i then some (i + n).toNat else none
def atI {α : Type} (xs : List α) (i : Int) : Option α := (ixN xs.length i).bind fun j => xs[j]?
/-- the items of a sequence -/
def seqOf (S : Store) : D → Option (List D)
  | .tup xs => some xs
  | .fl xs => some xs
  | .ref n => match S[n]? with
    | some (.lst xs) => some xs
    | _ => none
  | _ => none
def ixD (d e : D) (S : Store) : M D := match e with
  | .int i => (match d with
    | .str s => if s.length ≤ LINE then (match atI s i with | some c => some (.ok (.str [c]) S) | none => none) else none
    | d => match seqOf S d with
      | some xs => (match atI xs i with | some x => some (.ok x S) | none => none)
      | none => none)
  | _ => none
def sIx (n d : Nat) : Option Int → Nat
  | none => d
  | some v => if v < 0 then (v + (n : Int)).toNat else min v.toNat n
def cut {α : Type} (xs : List α) (lo hi : Option Int) : List α := (xs.drop (sIx xs.length 0 lo)).take (sIx xs.length xs.length hi - sIx xs.length 0 lo)
def slD (lo hi : Option Int) (d : D) (S : Store) : M D := match d with
  | .str s => if s.length ≤ LINE then some (.ok (.str (cut s lo hi)) S) else none
  | .tup xs => some (.ok (.tup (cut xs lo hi)) S)
  | .ref n => (match S[n]? with
    | some (.lst xs) => new1 (.lst (cut xs lo hi)) S
    | _ => none)
  | _ => none
/-- d[lo:hi] -/
def eSl (a : SE) (lo hi : Option SE) : SE := fun ρ S => bd (a ρ S) fun d S1 =>
  bd (match lo with | none => some (.ok none S1) | some m => bd (m ρ S1) fun x S2 => match x with | .int i => some (.ok (some i) S2) | _ => none) fun l S3 =>
  bd (match hi with | none => some (.ok none S3) | some m => bd (m ρ S3) fun x S4 => match x with | .int i => some (.ok (some i) S4) | _ => none) fun h S5 => slD l h d S5
def eqB : D → D → Bool
  | .str x, .str y => x == y
  | .int x, .int y => x == y
  | .bl x, .bl y => x == y
  | .non, .non => true
  | _, _ => false
/-- x in c -/
def inB (x c : D) (S : Store) : Option Bool := match c with
  | .str z => (match x with | .str [k] => some (decide (k ∈ z)) | _ => none)
  | .ref n => (match dat S x, dat S (.ref n) with
    | some y, some (.lst ys) => if y.dep ≤ 64 ∧ (PD.lst ys).dep ≤ 64 then some (ys.any fun z => z.eqv y) else none
    | _, _ => none)
  | _ => none
def inD (x c : D) (S : Store) : M D := match inB x c S with | some b => some (.ok (.bl b) S) | none => none
def ninD (x c : D) (S : Store) : M D := match inB x c S with | some b => some (.ok (.bl (!b)) S) | none => none
/-! ### built-ins -/
def lenF : Fn := fun ds S => match ds with
  | [.str s] => if s.length ≤ LINE then some (.ok (.int s.length) S) else none
  | [d] => (match seqOf S d with | some xs => some (.ok (.int xs.length) S) | none => none)
  | _ => none
def absF : Fn := fun ds S => match ds with
  | [.int i] => some (.ok (.int (if i < 0 then -i else i)) S)
  | _ => none
def maxF : Fn := fun ds S => match ds with
  | [.int i, .int j] => some (.ok (.int (if j > i then j else i)) S)
  | _ => none
def minF : Fn := fun ds S => match ds with
  | [.int i, .int j] => some (.ok (.int (if j < i then j else i)) S)
  | _ => none
/-- bools alone -/
def blsOf : List D → Option (List Bool)
  | [] => some []
  | .bl b :: r => (blsOf r).map (b :: ·)
  | _ :: _ => none
def allF : Fn := fun ds S => match ds with
  | [.ref n] => (match S[n]? with
    | some (.lst xs) => (match blsOf xs with | some bs => some (.ok (.bl (bs.all id)) S) | none => none)
    | _ => none)
  | _ => none
def listF : Fn := fun ds S => match ds with
  | [d] => (match seqOf S d with | some xs => new1 (.lst xs) S | none => none)
  | _ => none
def tupleF : Fn := fun ds S => match ds with
  | [d] => (match seqOf S d with | some xs => some (.ok (.tup xs) S) | none => none)
  | _ => none
inductive Ty where | str | int | bool | tuple | list
def isiB (S : Store) (t : Ty) : D → Option Bool
  | .non => some false
  | .bl _ => some (match t with | .int => true | .bool => true | _ => false)
  | .int _ => some (match t with | .int => true | _ => false)
  | .str _ => some (match t with | .str => true | _ => false)
  | .tup _ => some (match t with | .tuple => true | _ => false)
  | .fl _ => some (match t with | .list => true | _ => false)
  | .ref n => match S[n]? with
    | some (.lst _) => some (match t with | .list => true | _ => false)
    | _ => none
/-- isinstance(x, T) -/
def isiD (t : Ty) (d : D) (S : Store) : M D := match isiB S t d with | some b => some (.ok (.bl b) S) | none => none
/-! ### methods -/
def appendF : Fn := fun ds S => match ds with
  | [.ref n, x] => (match S[n]? with
    | some (.lst xs) => if xs.length < LINE then some (.ok .non (S.set n (.lst (xs ++ [x])))) else none
    | _ => none)
  | _ => none
def popF : Fn := fun ds S => match ds with
  | [.ref n] => (match S[n]? with
    | some (.lst xs) => (match xs[xs.length - 1]? with | some x => some (.ok x (S.set n (.lst xs.dropLast))) | none => none)
    | _ => none)
  | [.ref n, .int i] => (match S[n]? with
    | some (.lst xs) => (match ixN xs.length i with
      | some k => (match xs[k]? with | some x => some (.ok x (S.set n (.lst (xs.eraseIdx k)))) | none => none)
      | none => none)
    | _ => none)
  | _ => none
def extendF : Fn := fun ds S => match ds with
  | [.ref n, .ref m] => (match S[n]?, S[m]? with
    | some (.lst xs), some (.lst ys) => if xs.length + ys.length ≤ LINE then some (.ok .non (S.set n (.lst (xs ++ ys)))) else none
    | _, _ => none)
  | _ => none
/-- o[i] = v -/
def setF (o i : SE) : SG := fun d ρ S => match bq (o ρ S) fun x S1 => bq (i ρ S1) fun y S2 => (match x, y with
    | .ref n, .int k => (match S2[n]? with
      | some (.lst xs) => (match ixN xs.length k with
        | some j => some (.ok () (S2.set n (.lst (xs.set j d))))
        | none => none)
      | _ => none)
    | _, _ => none) with
  | some (.ok _ S3) => some (ρ, S3)
  | _ => none
/-! ### what is walked -/
/-- a list, a tuple, a text -/
def itmOf (d : D) (S : Store) : M Itm := match d with
  | .ref n => (match S[n]? with
    | some (.lst xs) => some (.ok ⟨xs, fun S => S[n]? = some (.lst xs)⟩ S)
    | _ => none)
  | .tup xs => some (.ok ⟨xs, fun _ => True⟩ S)
  | .fl xs => some (.ok ⟨xs, fun _ => True⟩ S)
  | .str s => some (.ok ⟨s.map fun c => .str [c], fun _ => True⟩ S)
  | _ => none
def iAny (a : SE) : SI := fun ρ S => bd (a ρ S) itmOf
@[irreducible] def r62 (i : Int) : Prop := -4611686018427387904 ≤ i ∧ i < 4611686018427387904
theorem r62_iff (i : Int) : r62 i ↔ -4611686018427387904 ≤ i ∧ i < 4611686018427387904 := by unfold r62; exact Iff.rfl
noncomputable instance (i : Int) : Decidable (r62 i) := Classical.propDecidable _
/-- range(n) -/
noncomputable def iR1 (a : SE) : SI := fun ρ S => bd (a ρ S) fun d S1 => match d with
  | .int n => if r62 n then some (.ok ⟨(List.range n.toNat).map fun (k : Nat) => .int k, fun _ => True⟩ S1) else none
  | _ => none
end Z
namespace Z
inductive Rc where | list | str | dict
/-- the receiver of a method -/
def rcB (S : Store) (t : Rc) : D → Bool
  | .str _ => (match t with | .str => true | _ => false)
  | .ref n => (match S[n]?, t with | some (.lst _), .list => true | some (.st _), .dict => true | _, _ => false)
  | _ => false
/-- o.m(..), m a built-in type's -/
def eMt (t : Rc) (F : Fn) (o : SE) (es : List SE) : SE := fun ρ S => bd (o ρ S) fun d S1 => if rcB S1 t d = true then bd (evL es ρ S1) fun ds S2 => F (d :: ds) S2 else none
end Z
namespace Z
open PySem PySem.Spec PyProof.Rows L2
/-! ### what a value in the heap stands for -/
abbrev str (s : List Nat) : Str := ⟨s.toArray⟩
/-- a list that is never changed: the script -/
def FzL (K : PySem.W.Frag) (H : Hp) (a : Addr) (xs : List V) : Prop :=
  (∃ o, H a = some (.frz o (.lst xs))) ∨
    ∃ (o : Obj) (its : Array Value) (n : Nat), K.lookup a = some o ∧ o.cls = .type "list" ∧ o.dict = none ∧ o.data = .seq its n ∧ its.size ≤ sizeLine ∧ Vals xs its.toList
theorem FzL.seq {K : PySem.W.Frag} {H : Hp} {a : Addr} {xs : List V} (h : FzL K H a xs) : SqL K H a xs := by
  rcases h with h | h
  · exact .inl (.inr h)
  · exact .inr h
mutual
def Rep (K : PySem.W.Frag) (ι : List Addr) (H : Hp) : D → V → Prop
  | .non, v => v = .non
  | .bl b, v => v = .bl b
  | .int i, v => v = .int i
  | .str s, v => v = .str (str s) ∧ ∀ c ∈ s, c < 128
  | .tup xs, v => ∃ a vs, v = .ref a ∧ H a = some (.tup vs) ∧ RepL K ι H xs vs
  | .ref n, v => ∃ a, v = .ref a ∧ ι[n]? = some a
  | .fl xs, v => ∃ a vs, v = .ref a ∧ FzL K H a vs ∧ RepL K ι H xs vs
def RepL (K : PySem.W.Frag) (ι : List Addr) (H : Hp) : List D → List V → Prop
  | [], vs => vs = []
  | x :: xs, vs => ∃ v r, vs = v :: r ∧ Rep K ι H x v ∧ RepL K ι H xs r
end
section
variable {K : PySem.W.Frag} {ι ι' ι'' : List Addr} {H H' H'' : Hp}
/-- what stays: the numbers' addresses, the tuples, what is locked -/
structure Ext (ι : List Addr) (H : Hp) (ι' : List Addr) (H' : Hp) : Prop where
  pre : ∃ t, ι' = ι ++ t
  tup : ∀ a xs, H a = some (.tup xs) → H' a = some (.tup xs)
  frz : ∀ a o u, H a = some (.frz o u) → H' a = some (.frz o u)
theorem Ext.refl : Ext ι H ι H := ⟨⟨[], by simp⟩, fun _ _ h => h, fun _ _ _ h => h⟩
theorem Ext.trans (a : Ext ι H ι' H') (b : Ext ι' H' ι'' H'') : Ext ι H ι'' H'' :=
  ⟨by obtain ⟨t, rfl⟩ := a.pre; obtain ⟨u, rfl⟩ := b.pre; exact ⟨t ++ u, by simp⟩, fun _ _ h => b.tup _ _ (a.tup _ _ h), fun _ _ _ h => b.frz _ _ _ (a.frz _ _ _ h)⟩
theorem Ext.at (e : Ext ι H ι' H') {n : Nat} {a : Addr} (h : ι[n]? = some a) : ι'[n]? = some a := by
  obtain ⟨t, rfl⟩ := e.pre
  rw [List.getElem?_append_left (List.getElem?_eq_some_iff.mp h).1]
  exact h
theorem Ext.sqT (e : Ext ι H ι' H') {a : Addr} {xs : List V} (h : SqT K H a xs) : SqT K H' a xs := by
  rcases h with (h | ⟨o, h⟩) | h
  · exact .inl (.inl (e.tup _ _ h))
  · exact .inl (.inr ⟨o, e.frz _ _ _ h⟩)
  · exact .inr h
theorem Ext.fzL (e : Ext ι H ι' H') {a : Addr} {xs : List V} (h : FzL K H a xs) : FzL K H' a xs := by
  rcases h with ⟨o, h⟩ | h
  · exact .inl ⟨o, e.frz _ _ _ h⟩
  · exact .inr h
mutual
theorem Rep.ext (e : Ext ι H ι' H') : ∀ (d : D) (v : V), Rep K ι H d v → Rep K ι' H' d v
  | .non, _, h => h
  | .bl _, _, h => h
  | .int _, _, h => h
  | .str _, _, h => h
  | .tup xs, _, h => by
    rw [Rep] at h ⊢
    obtain ⟨a, vs, e1, h1, h2⟩ := h
    exact ⟨a, vs, e1, e.tup _ _ h1, RepL.ext e xs vs h2⟩
  | .ref n, _, h => by
    rw [Rep] at h ⊢
    obtain ⟨a, e1, h1⟩ := h
    exact ⟨a, e1, e.at h1⟩
  | .fl xs, _, h => by
    rw [Rep] at h ⊢
    obtain ⟨a, vs, e1, h1, h2⟩ := h
    exact ⟨a, vs, e1, e.fzL h1, RepL.ext e xs vs h2⟩
theorem RepL.ext (e : Ext ι H ι' H') : ∀ (ds : List D) (vs : List V), RepL K ι H ds vs → RepL K ι' H' ds vs
  | [], _, h => h
  | x :: xs, _, h => by
    rw [RepL] at h ⊢
    obtain ⟨v, r, e1, h1, h2⟩ := h
    exact ⟨v, r, e1, Rep.ext e x v h1, RepL.ext e xs r h2⟩
end
theorem RepL.length : ∀ {ds : List D} {vs : List V}, RepL K ι H ds vs → vs.length = ds.length
  | [], _, h => by rw [RepL] at h; subst h; rfl
  | x :: xs, _, h => by
    rw [RepL] at h
    obtain ⟨v, r, rfl, _, h2⟩ := h
    simp [RepL.length h2]
theorem RepL.get : ∀ {ds : List D} {vs : List V} {i : Nat} {d : D}, RepL K ι H ds vs → ds[i]? = some d → ∃ v, vs[i]? = some v ∧ Rep K ι H d v
  | [], _, _, _, _, e => by simp at e
  | x :: xs, _, 0, d, h, e => by
    rw [RepL] at h
    obtain ⟨v, r, rfl, h1, _⟩ := h
    simp at e; subst e
    exact ⟨v, rfl, h1⟩
  | x :: xs, _, i + 1, d, h, e => by
    rw [RepL] at h
    obtain ⟨v, r, rfl, _, h2⟩ := h
    obtain ⟨u, a, b⟩ := RepL.get (i := i) h2 (by simpa using e)
    exact ⟨u, by simpa using a, b⟩
theorem RepL.get' : ∀ {ds : List D} {vs : List V} {i : Nat} {v : V}, RepL K ι H ds vs → vs[i]? = some v → ∃ d, ds[i]? = some d ∧ Rep K ι H d v := by
  intro ds vs i v h e
  have hi : i < ds.length := by rw [← h.length]; exact (List.getElem?_eq_some_iff.mp e).1
  obtain ⟨u, a, b⟩ := h.get (List.getElem?_eq_getElem hi)
  rw [e] at a; cases a
  exact ⟨_, List.getElem?_eq_getElem hi, b⟩
theorem RepL.append : ∀ {xs ys : List D} {vs ws : List V}, RepL K ι H xs vs → RepL K ι H ys ws → RepL K ι H (xs ++ ys) (vs ++ ws)
  | [], _, _, _, h, g => by rw [RepL] at h; subst h; simpa using g
  | x :: xs, _, _, _, h, g => by
    rw [RepL] at h
    obtain ⟨v, r, rfl, h1, h2⟩ := h
    rw [List.cons_append, RepL]
    exact ⟨v, _, rfl, h1, RepL.append h2 g⟩
theorem RepL.of_get : ∀ {ds : List D} {vs : List V}, vs.length = ds.length → (∀ (i : Nat) (d : D) (v : V), ds[i]? = some d → vs[i]? = some v → Rep K ι H d v) → RepL K ι H ds vs
  | [], vs, hl, _ => by rw [RepL]; exact List.eq_nil_of_length_eq_zero hl
  | x :: xs, [], hl, _ => by simp at hl
  | x :: xs, v :: r, hl, h => by
    rw [RepL]
    exact ⟨v, r, rfl, h 0 x v rfl rfl, RepL.of_get (by simpa using hl) fun i d u a b => h (i + 1) d u (by simpa using a) (by simpa using b)⟩
theorem RepL.one {d : D} {v : V} (h : Rep K ι H d v) : RepL K ι H [d] [v] := by rw [RepL]; exact ⟨v, [], rfl, h, by rw [RepL]⟩
/-! ### the store -/
/-- keys of dicts: ints and texts, tuples of them -/
def keyD : D → Option Key
  | .int i => some (.inl i)
  | .str s => some (.inr (str s))
  | _ => none
def keysD : List D → Option (List Key)
  | [] => some []
  | x :: r => match keyD x, keysD r with
    | some k, some ks => some (k :: ks)
    | _, _ => none
/-- a dict's entries -/
def KsR {α κ : Type} (key : α → Option κ) (K : PySem.W.Frag) (ι : List Addr) (H : Hp) : List (α × D) → List (κ × V) → Prop
  | [], ks => ks = []
  | p :: r, ks => ∃ k v t, ks = (k, v) :: t ∧ key p.1 = some k ∧ Rep K ι H p.2 v ∧ KsR key K ι H r t
theorem KsR.ext {α κ : Type} {key : α → Option κ} (e : Ext ι H ι' H') : ∀ (kvs : List (α × D)) (ks : List (κ × V)), KsR key K ι H kvs ks → KsR key K ι' H' kvs ks
  | [], ks, h => h
  | p :: r, ks, h => by
    rw [KsR] at h ⊢
    obtain ⟨k, v, t, e1, e2, e3, e4⟩ := h
    exact ⟨k, v, t, e1, e2, Rep.ext e _ _ e3, KsR.ext e r t e4⟩
theorem KsR.length {α κ : Type} {key : α → Option κ} : ∀ {kvs : List (α × D)} {ks : List (κ × V)}, KsR key K ι H kvs ks → ks.length = kvs.length
  | [], ks, h => by rw [KsR] at h; rw [h]; rfl
  | p :: r, ks, h => by
    rw [KsR] at h
    obtain ⟨k, v, t, rfl, _, _, e4⟩ := h
    rw [List.length_cons, List.length_cons, KsR.length e4]
def ObjR (K : PySem.W.Frag) (ι : List Addr) (H : Hp) (a : Addr) : MO → Prop
  | .lst xs => ∃ vs, H a = some (.lst vs) ∧ RepL K ι H xs vs
  | .dct kvs => ∃ o ks, H a = some (.frz o (.dT ks)) ∧ KsR keysD K ι H kvs ks
  | .st kvs => ∃ ks, H a = some (.dT ks) ∧ KsR keysD K ι H kvs ks
  | _ => False
structure Sim (K : PySem.W.Frag) (ι : List Addr) (S : Store) (H : Hp) : Prop where
  len : ι.length = S.length
  nd : ι.Nodup
  obj : ∀ (i : Nat) (o : MO) (a : Addr), S[i]? = some o → ι[i]? = some a → ObjR K ι H a o
theorem Sim.get {S : Store} (s : Sim K ι S H) {n : Nat} {o : MO} {a : Addr} (h : ι[n]? = some a) (g : S[n]? = some o) : ObjR K ι H a o := s.obj n o a g h
/-- an object of the store is there, and no tuple, and not locked -/
def Mob (o : HO) : Prop := match o with | .tup _ => False | .frz _ _ => False | _ => True
theorem ObjR.there {a : Addr} {o : MO} (h : ObjR K ι H a o) : ∃ u, H a = some u := by
  cases o with
  | lst xs => obtain ⟨vs, e, _⟩ := h; exact ⟨_, e⟩
  | dct _ => obtain ⟨_, ks, e, _⟩ := h; exact ⟨_, e⟩
  | st _ => obtain ⟨ks, e, _⟩ := h; exact ⟨_, e⟩
  | ins _ _ => exact h.elim
  | exn _ => exact h.elim
theorem ext_new {p : Addr} {o : HO} {t : List Addr} (hp : H p = none) : Ext ι H (ι ++ t) (upd H p o) :=
  ⟨⟨t, rfl⟩, fun a xs h => by rw [upd_ne (ne_of_none h hp)]; exact h, fun a q u h => by rw [upd_ne (ne_of_none h hp)]; exact h⟩
theorem ext_tup {p : Addr} {o : HO} (hp : H p = none) : Ext ι H ι (upd H p o) := by simpa using ext_new (ι := ι) (t := []) (o := o) hp
theorem ext_mut {p : Addr} {o u : HO} (hp : H p = some u) (hm : Mob u) : Ext ι H ι (upd H p o) :=
  ⟨⟨[], by simp⟩, fun a xs h => by rw [upd_ne (ne_of h hp (by rintro rfl; exact hm))]; exact h, fun a q x h => by rw [upd_ne (ne_of h hp (by rintro rfl; exact hm))]; exact h⟩
theorem ObjR.move {a : Addr} {o : MO} (h : ObjR K ι H a o) (e : Ext ι H ι' H') (k : H' a = H a) : ObjR K ι' H' a o := by
  cases o with
  | lst xs => obtain ⟨vs, e1, h1⟩ := h; exact ⟨vs, k.trans e1, RepL.ext e _ _ h1⟩
  | dct _ => obtain ⟨q, ks, e1, h1⟩ := h; exact ⟨q, ks, k.trans e1, KsR.ext e _ _ h1⟩
  | st _ => obtain ⟨ks, e1, h1⟩ := h; exact ⟨ks, k.trans e1, KsR.ext e _ _ h1⟩
  | ins _ _ => exact h.elim
  | exn _ => exact h.elim
theorem Sim.tup {S : Store} (s : Sim K ι S H) {p : Addr} {o : HO} (hp : H p = none) : Sim K ι S (upd H p o) :=
  ⟨s.len, s.nd, fun i o' a h1 h2 => by
    have q := s.obj i o' a h1 h2
    obtain ⟨u, hu⟩ := q.there
    exact q.move (ext_tup hp) (by rw [upd_ne (ne_of_none hu hp)])⟩
/-- a new object -/
theorem Sim.new {S : Store} (s : Sim K ι S H) {p : Addr} {o : HO} {m : MO} (hp : H p = none) (h : ObjR K (ι ++ [p]) (upd H p o) p m) : Sim K (ι ++ [p]) (S ++ [m]) (upd H p o) := by
  refine ⟨by simp [s.len], ?_, fun i o' a h1 h2 => ?_⟩
  · refine List.nodup_append.mpr ⟨s.nd, by simp, fun a ha b hb => ?_⟩
    obtain rfl : b = p := by simpa using hb
    obtain ⟨i, hi⟩ := List.getElem?_of_mem ha
    have hl : i < S.length := by rw [← s.len]; exact (List.getElem?_eq_some_iff.mp hi).1
    obtain ⟨u, hu⟩ := (s.obj i _ a (List.getElem?_eq_getElem hl) hi).there
    exact ne_of_none hu hp
  · by_cases hi : i < S.length
    · rw [List.getElem?_append_left hi] at h1
      rw [List.getElem?_append_left (by rw [s.len]; exact hi)] at h2
      have q := s.obj i o' a h1 h2
      obtain ⟨u, hu⟩ := q.there
      exact q.move (ext_new hp) (by rw [upd_ne (ne_of_none hu hp)])
    · have e : i = S.length := by
        have := (List.getElem?_eq_some_iff.mp h1).1
        simp at this; omega
      subst e
      rw [List.getElem?_append_right (Nat.le_refl _)] at h1
      rw [← s.len, List.getElem?_append_right (Nat.le_refl _)] at h2
      simp at h1 h2
      subst h1 h2
      exact h
/-- an object written -/
theorem Sim.put {S : Store} (s : Sim K ι S H) {n : Nat} {p : Addr} {o : HO} {m : MO} (hp : ι[n]? = some p) (h : ObjR K ι (upd H p o) p m) (hx : ∃ u, H p = some u ∧ Mob u) : Sim K ι (S.set n m) (upd H p o) := by
  have hl : n < S.length := by rw [← s.len]; exact (List.getElem?_eq_some_iff.mp hp).1
  obtain ⟨u, hu, hm⟩ := hx
  refine ⟨by simp [s.len], s.nd, fun i o' a h1 h2 => ?_⟩
  by_cases hi : n = i
  · subst hi
    rw [List.getElem?_set_self hl] at h1
    cases h1
    rw [hp] at h2; cases h2
    exact h
  · rw [List.getElem?_set_ne hi] at h1
    have q := s.obj i o' a h1 h2
    refine q.move (ext_mut hu hm) ?_
    rw [upd_ne]
    rintro rfl
    obtain ⟨l1, e1⟩ := List.getElem?_eq_some_iff.mp hp
    obtain ⟨l2, e2⟩ := List.getElem?_eq_some_iff.mp h2
    exact hi ((List.getElem_inj s.nd).mp (e1.trans e2.symm))
end
end Z
namespace Z
open PySem PySem.Spec PyProof.Rows L2
/-! ### readings by meanings -/
abbrev Mg := Str → Option Value
section
variable {K : PySem.W.Frag} {mg : Mg} {ι ι' ι1 ι2 : List Addr} {H H' H1 H2 : Hp}
def EnvR (K : PySem.W.Frag) (ι : List Addr) (H : Hp) (ρ : Env) (σ : L2.St) : Prop := ρ.length = σ.length ∧ ∀ (i : Nat) (d : D), ρ[i]? = some (some d) → ∃ v, σ[i]? = some (some v) ∧ Rep K ι H d v
theorem EnvR.ext {ρ : Env} {σ : L2.St} (e : Ext ι H ι' H') (h : EnvR K ι H ρ σ) : EnvR K ι' H' ρ σ := ⟨h.1, fun i d g => let ⟨v, a, b⟩ := h.2 i d g; ⟨v, a, Rep.ext e _ _ b⟩⟩
theorem EnvR.set {ρ : Env} {σ : L2.St} (h : EnvR K ι H ρ σ) {i : Nat} {d : D} {v : V} (r : Rep K ι H d v) : EnvR K ι H (ρ.set i (some d)) (σ.set i (some v)) := by
  refine ⟨by simp [h.1], fun j e g => ?_⟩
  by_cases hj : i = j
  · subst hj
    by_cases hl : i < ρ.length
    · rw [List.getElem?_set_self hl] at g
      cases g
      exact ⟨v, by rw [List.getElem?_set_self (by rw [← h.1]; exact hl)], r⟩
    · rw [List.getElem?_eq_none (by simpa using hl)] at g; cases g
  · rw [List.getElem?_set_ne hj] at g ⊢
    exact h.2 j e g
theorem EnvR.wipe {ρ : Env} {σ : L2.St} (h : EnvR K ι H ρ σ) : ∀ own : List Nat, EnvR K ι H (Z.wipe ρ own) (L2.wipe σ own)
  | [] => h
  | v :: vs => by
    have q := EnvR.wipe h vs
    refine ⟨by unfold Z.wipe L2.wipe; simp [q.1], fun j e g => ?_⟩
    unfold Z.wipe at g
    unfold L2.wipe
    by_cases hj : v = j
    · subst hj
      by_cases hl : v < (Z.wipe ρ vs).length
      · rw [List.getElem?_set_self hl] at g; cases g
      · rw [List.getElem?_eq_none (by simpa using hl)] at g; cases g
    · rw [List.getElem?_set_ne hj] at g ⊢
      exact q.2 j e g
/-- what is wanted of an outcome -/
def Po {α β : Type} (R : List Addr → Hp → α → β → Prop) (K : PySem.W.Frag) (mg : Mg) (ι : List Addr) (H : Hp) (Q : β → Hp → Prop) (E : XK) : M α → Prop
  | none => False
  | some (.ok a S) => ∀ ι' H' x, Ext ι H ι' H' → Sim K ι' S H' → R ι' H' a x → Q x H'
  | some (.ex c S) => ∀ ι' H' cls, Ext ι H ι' H' → Sim K ι' S H' → mg (Str.ofString c) = some cls → E cls none H'
theorem Po.mono {α β : Type} {R : List Addr → Hp → α → β → Prop} {Q : β → Hp → Prop} {E : XK} (e : Ext ι H ι' H') : ∀ {m : M α}, Po R K mg ι H Q E m → Po R K mg ι' H' Q E m
  | none, h => h
  | some (.ok _ _), h => fun ι2 H2 x e2 s r => h ι2 H2 x (e.trans e2) s r
  | some (.ex _ _), h => fun ι2 H2 x e2 s r => h ι2 H2 x (e.trans e2) s r
theorem Po.imp {α β : Type} {R : List Addr → Hp → α → β → Prop} {Q Q' : β → Hp → Prop} {E : XK} (k : ∀ x H', Q x H' → Q' x H') : ∀ {m : M α}, Po R K mg ι H Q E m → Po R K mg ι H Q' E m
  | none, h => h
  | some (.ok _ _), h => fun ι2 H2 x e2 s r => k _ _ (h ι2 H2 x e2 s r)
  | some (.ex _ _), h => h
/-- the first step of a sequence -/
theorem Po.bd {α β α' β' : Type} {R : List Addr → Hp → α → β → Prop} {R' : List Addr → Hp → α' → β' → Prop} {Q : β → Hp → Prop} {Q' : β' → Hp → Prop} {E : XK} {m : M α} {f : α → Store → M α'}
    (h : Po R' K mg ι H Q' E (Z.bd m f)) (k : ∀ a S ι1 H1 x, Ext ι H ι1 H1 → Sim K ι1 S H1 → R ι1 H1 a x → Po R' K mg ι1 H1 Q' E (f a S) → Q x H1) : Po R K mg ι H Q E m := by
  match m, h with
  | some (.ok a S), h => exact fun ι1 H1 x e s r => k a S ι1 H1 x e s r (Po.mono e h)
  | some (.ex c S), h => exact h
theorem Po.ret {α β : Type} {R : List Addr → Hp → α → β → Prop} {Q : β → Hp → Prop} {E : XK} {a : α} {S : Store} {x : β} (h : Po R K mg ι H Q E (some (.ok a S))) (s : Sim K ι S H) (r : R ι H a x) : Q x H := h ι H x .refl s r
abbrev RB : List Addr → Hp → Bool → Bool → Prop := fun _ _ a b => b = a
/-- outcomes of statements -/
def PoS (K : PySem.W.Frag) (mg : Mg) (W : WX) (ι : List Addr) (H : Hp) (En : Ends) : Option Out → Prop
  | none => False
  | some (.nx ρ S) => ∀ ι' H' σ, Ext ι H ι' H' → Sim K ι' S H' → EnvR K ι' H' ρ σ → En.nx σ H'
  | some (.bk ρ S) => ∀ ι' H' σ, Ext ι H ι' H' → Sim K ι' S H' → EnvR K ι' H' ρ σ → En.bk σ H'
  | some (.ct ρ S) => ∀ ι' H' σ, Ext ι H ι' H' → Sim K ι' S H' → EnvR K ι' H' ρ σ → En.ct σ H'
  | some (.rt d S) => ∀ ι' H' v, Ext ι H ι' H' → Sim K ι' S H' → Rep K ι' H' d v → En.rt v H'
  | some (.ex c ρ S) => ∀ ι' H' σ cls, Ext ι H ι' H' → Sim K ι' S H' → EnvR K ι' H' ρ σ → mg (Str.ofString c) = some cls → W cls none σ H'
theorem PoS.mono {W : WX} {En : Ends} (e : Ext ι H ι' H') : ∀ {o : Option Out}, PoS K mg W ι H En o → PoS K mg W ι' H' En o
  | none, h => h
  | some (.nx _ _), h => fun ι2 H2 σ e2 s r => h ι2 H2 σ (e.trans e2) s r
  | some (.bk _ _), h => fun ι2 H2 σ e2 s r => h ι2 H2 σ (e.trans e2) s r
  | some (.ct _ _), h => fun ι2 H2 σ e2 s r => h ι2 H2 σ (e.trans e2) s r
  | some (.rt _ _), h => fun ι2 H2 v e2 s r => h ι2 H2 v (e.trans e2) s r
  | some (.ex _ _ _), h => fun ι2 H2 σ c e2 s r => h ι2 H2 σ c (e.trans e2) s r
theorem PoS.bo {α β : Type} {R : List Addr → Hp → α → β → Prop} {Q : β → Hp → Prop} {W : WX} {En : Ends} {m : M α} {ρ : Env} {σ : L2.St} {f : α → Store → Option Out} (hρ : EnvR K ι H ρ σ)
    (h : PoS K mg W ι H En (Z.bo m ρ f)) (k : ∀ a S ι1 H1 x, Ext ι H ι1 H1 → Sim K ι1 S H1 → R ι1 H1 a x → EnvR K ι1 H1 ρ σ → PoS K mg W ι1 H1 En (f a S) → Q x H1) : Po R K mg ι H Q (fun cls d H' => W cls d σ H') m := by
  match m, h with
  | some (.ok a S), h => exact fun ι1 H1 x e s r => k a S ι1 H1 x e s r (hρ.ext e) (PoS.mono e h)
  | some (.ex c S), h => exact fun ι1 H1 cls e s g => h ι1 H1 σ cls e s (hρ.ext e) g
end
/-- an expression's, a test's, an argument list's, a statement's reading -/
def tE (K : PySem.W.Frag) (mg : Mg) (W : WX) (m : SE) : TE := fun σ H Q => ∃ ι ρ S, Sim K ι S H ∧ EnvR K ι H ρ σ ∧ Po (Rep K) K mg ι H Q (fun cls d H' => W cls d σ H') (m ρ S)
def tT (K : PySem.W.Frag) (mg : Mg) (W : WX) (m : ST) : TT := fun σ H Q => ∃ ι ρ S, Sim K ι S H ∧ EnvR K ι H ρ σ ∧ Po RB K mg ι H Q (fun cls d H' => W cls d σ H') (m ρ S)
def tA (K : PySem.W.Frag) (mg : Mg) (W : WX) (ms : List SE) : TA := fun σ H Q => ∃ ι ρ S, Sim K ι S H ∧ EnvR K ι H ρ σ ∧ Po (RepL K) K mg ι H Q (fun cls d H' => W cls d σ H') (evL ms ρ S)
def tS (K : PySem.W.Frag) (mg : Mg) (W : WX) (m : SS) : TS := fun En σ H => ∃ ι ρ S, Sim K ι S H ∧ EnvR K ι H ρ σ ∧ PoS K mg W ι H En (m ρ S)
def GE (X : Cx) (W : WX) (e : Expr) (m : SE) : Prop := PE X e (tE X.K X.mg W m)
def GT (X : Cx) (W : WX) (e : Expr) (m : ST) : Prop := PT X e (tT X.K X.mg W m)
def GW (X : Cx) (W : WX) (e : Expr) (m : ST) : Prop := PW X e (tT X.K X.mg W m)
def GA (X : Cx) (W : WX) (es : List Expr) (ms : List SE) : Prop := PA X es (tA X.K X.mg W ms)
def GS (X : Cx) (W : WX) (st : Stmt) (m : SS) : Prop := PS X st (tS X.K X.mg W m)
def GSs (X : Cx) (W : WX) (st : List Stmt) (m : SS) : Prop := PSs X st (tS X.K X.mg W m)
section
variable {X : Cx}
theorem _root_.L2.PE.imp {e : Expr} {t t' : TE} (h : PE X e t) (k : ∀ σ H Q, t' σ H Q → t σ H Q) : PE X e t' := ⟨fun pins s σ H Q I q => h.run pins s σ H Q I (k _ _ _ q)⟩
theorem _root_.L2.PT.imp {e : Expr} {t t' : TT} (h : PT X e t) (k : ∀ σ H Q, t' σ H Q → t σ H Q) : PT X e t' := ⟨fun pins s σ H Q I q => h.run pins s σ H Q I (k _ _ _ q)⟩
theorem _root_.L2.PW.imp {e : Expr} {t t' : TT} (h : PW X e t) (k : ∀ σ H Q, t' σ H Q → t σ H Q) : PW X e t' := ⟨fun wh pins s σ H Q I q => h.run wh pins s σ H Q I (k _ _ _ q)⟩
theorem _root_.L2.PA.imp {es : List Expr} {t t' : TA} (h : PA X es t) (k : ∀ σ H Q, t' σ H Q → t σ H Q) : PA X es t' := ⟨fun pos pins s σ H Q I q => h.run pos pins s σ H Q I (k _ _ _ q)⟩
theorem _root_.L2.PS.imp {st : Stmt} {t t' : TS} (h : PS X st t) (k : ∀ D σ H, t' D σ H → t D σ H) : PS X st t' := ⟨fun pins s σ H D I q => h.run pins s σ H D I (k _ _ _ q)⟩
theorem _root_.L2.PSs.imp {st : List Stmt} {t t' : TS} (h : PSs X st t) (k : ∀ D σ H, t' D σ H → t D σ H) : PSs X st t' := ⟨fun pins s σ H D I q => h.run pins s σ H D I (k _ _ _ q)⟩
variable {W : WX} {a b c e : Expr} {ma mb mc : SE} {pos : Pos}
/-! ### names, constants -/
theorem ge_var (i : Nat) {x : Str} (hN : X.N[i]? = some x := by rfl) (hv : Vis X.env.scope x := by first | exact Or.inl rfl | exact Or.inr (Or.inl rfl) | exact Or.inr (Or.inr rfl)) (hd : (x == ("__debug__" : Str)) = false := by decide)
    (hcd : (x == ("__classdict__" : Str)) = false := by decide) : GE X W (.Name x pos) (eVar i) := (pe_var hN hv hd hcd).imp fun σ H Q ⟨ι, ρ, S, s, r, p⟩ => by
  unfold eVar at p
  cases g : ρ[i]? with
  | none => rw [g] at p; exact p.elim
  | some o =>
    cases o with
    | none => rw [g] at p; exact p.elim
    | some d =>
      rw [g] at p
      obtain ⟨v, hv, hr⟩ := r.2 i d g
      exact ⟨v, hv, Po.ret p s hr⟩
theorem ge_c {v : V} {d : D} (h : PE X e (tC v)) (r : ∀ ι H, Rep X.K ι H d v) : GE X W e (eC d) := h.imp fun σ H Q ⟨ι, ρ, S, s, _, p⟩ => Po.ret p s (r ι H)
theorem ge_int {i j} : GE X W (.Constant (.int i) j pos) (eC (.int i)) := ge_c pe_int fun _ _ => by rw [Rep]
theorem ge_bl {b j} : GE X W (.Constant (.bool b) j pos) (eC (.bl b)) := ge_c pe_bl fun _ _ => by rw [Rep]
theorem ge_non {j} : GE X W (.Constant .none j pos) (eC .non) := ge_c pe_non fun _ _ => by rw [Rep]
theorem ge_str {x : Str} {s : List Nat} {j} (h : x = str s := by decide +kernel) (h2 : (s.all fun c => decide (c < 128)) = true := by decide +kernel) : GE X W (.Constant (.str x) j pos) (eC (.str s)) :=
  ge_c pe_str fun _ _ => by rw [Rep]; exact ⟨by rw [h], fun c hc => of_decide_eq_true (List.all_eq_true.mp h2 c hc)⟩
/-- a constant of the module -/
theorem ge_glob {x : Str} {v : V} {u : Value} {d : D} (hg : Gl X x) (hm : X.mg x = some u) (q : RelV v u) (r : ∀ ι H, Rep X.K ι H d v) (hd : (x == ("__debug__" : Str)) = false := by decide) : GE X W (.Name x pos) (eC d) := ge_c (pe_glob hg hm q hd) r
/-! ### operators by values -/
def r2 (X : Cx) (f : D → D → Store → M D) : R2 := fun x y H Q => ∃ ι S d e, Sim X.K ι S H ∧ Rep X.K ι H d x ∧ Rep X.K ι H e y ∧ Po (Rep X.K) X.K X.mg ι H Q (fun _ _ _ => False) (f d e S)
def NoEx (f : D → D → Store → M D) : Prop := ∀ d e S c S', f d e S ≠ some (.ex c S')
theorem Po.noex {α β : Type} {R : List Addr → Hp → α → β → Prop} {K mg ι H} {Q : β → Hp → Prop} {E E' : XK} {m : M α} (h : Po R K mg ι H Q E m) (n : ∀ c S', m ≠ some (.ex c S')) : Po R K mg ι H Q E' m := by
  match m, h with
  | some (.ok a S), h => exact h
  | some (.ex c S), h => exact absurd rfl (n c S)
theorem e2_read {f : D → D → Store → M D} (n : NoEx f) {σ : L2.St} {H : Hp} {Q : VK} (h : tE X.K X.mg W (e2 f ma mb) σ H Q) : tOp (r2 X f) (tE X.K X.mg W ma) (tE X.K X.mg W mb) σ H Q := by
  obtain ⟨ι, ρ, S, s, r, p⟩ := h
  refine ⟨ι, ρ, S, s, r, Po.bd p fun d S1 ι1 H1 x e1 s1 r1 p1 => ?_⟩
  refine ⟨ι1, ρ, S1, s1, r.ext e1, Po.bd p1 fun d' S2 ι2 H2 y e2 s2 r2 p2 => ?_⟩
  exact ⟨ι2, S2, d, d', s2, Rep.ext e2 _ _ r1, r2, p2.noex fun c S' => n d d' S2 c S'⟩
theorem ge_op {op : Operator} {f : D → D → Store → M D} (n : NoEx f) (ho : OpR X (binaryOp op) (r2 X f)) (ha : GE X W a ma) (hb : GE X W b mb) : GE X W (.BinOp a op b pos) (e2 f ma mb) := (pe_op ho ha hb).imp fun σ H Q h => e2_read n h
theorem ge_cmp {op : CmpOp} {f : D → D → Store → M D} (n : NoEx f) (ho : OpR X (compareOp op) (r2 X f)) (ha : GE X W a ma) (hb : GE X W b mb) (hm : behindInMarks op b = false := by first | exact nobehind _ (by decide) (by decide) | rfl) :
    GE X W (.Compare a [op] [b] pos) (e2 f ma mb) := (pe_cmpR ho ha hb hm).imp fun σ H Q h => e2_read n h
theorem chain_read {f g : D → D → Store → M D} (n : NoEx f) (n' : NoEx g) {σ : L2.St} {H : Hp} {Q : VK} (h : tE X.K X.mg W (eCh f g ma mb mc) σ H Q) : tChain (r2 X f) (r2 X g) (tE X.K X.mg W ma) (tE X.K X.mg W mb) (tE X.K X.mg W mc) σ H Q := by
  obtain ⟨ι, ρ, S, s, r, p⟩ := h
  refine ⟨ι, ρ, S, s, r, Po.bd p fun d S1 ι1 H1 x e1 s1 r1 p1 => ?_⟩
  refine ⟨ι1, ρ, S1, s1, r.ext e1, Po.bd p1 fun d' S2 ι2 H2 y e2 s2 q2 p2 => ?_⟩
  refine ⟨ι2, S2, d, d', s2, Rep.ext e2 _ _ r1, q2, ?_⟩
  refine Po.noex (Po.bd p2 fun z S3 ι3 H3 w e3 s3 r3 p3 => ?_) fun c S' => n d d' S2 c S'
  cases z with
  | bl k =>
    rw [Rep] at r3
    subst r3
    refine ⟨k, rfl, ?_⟩
    cases k with
    | true =>
      rw [if_pos rfl]
      refine ⟨ι3, ρ, S3, s3, ((r.ext e1).ext e2).ext e3, Po.bd p3 fun z4 S4 ι4 H4 u e4 s4 r4 p4 => ?_⟩
      exact ⟨ι4, S4, d', z4, s4, Rep.ext e4 _ _ (Rep.ext e3 _ _ q2), r4, p4.noex fun c S' => n' d' z4 S4 c S'⟩
    | false =>
      rw [if_neg Bool.false_ne_true]
      exact Po.ret p3 s3 (by rw [Rep])
  | _ => exact p3.elim
theorem ge_chain {op op' : CmpOp} {f g : D → D → Store → M D} (n : NoEx f) (n' : NoEx g) (ho : OpR X (compareOp op) (r2 X f)) (ho' : OpR X (compareOp op') (r2 X g)) (ha : GE X W a ma) (hb : GE X W b mb) (hc : GE X W c mc)
    (hm : lastMarks [op, op'] [b, c] = false := by with_unfolding_all rfl) : GE X W (.Compare a [op, op'] [b, c] pos) (eCh f g ma mb mc) := (pe_chain ho ho' ha hb hc hm).imp fun σ H Q h => chain_read n n' h
theorem ge_un {op : UnaryOp} {f : D → Store → M D} (n : ∀ d S c S', f d S ≠ some (.ex c S')) (ho : UnR X (unaryOp op) (fun x H Q => ∃ ι S d, Sim X.K ι S H ∧ Rep X.K ι H d x ∧ Po (Rep X.K) X.K X.mg ι H Q (fun _ _ _ => False) (f d S))) (ha : GE X W a ma) :
    GE X W (.UnaryOp op a pos) (e1 f ma) := (pe_un ho ha).imp fun σ H Q h => by
  obtain ⟨ι, ρ, S, s, r, p⟩ := h
  refine ⟨ι, ρ, S, s, r, Po.bd p fun d S1 ι1 H1 x e1 s1 r1 p1 => ?_⟩
  exact ⟨ι1, S1, d, s1, r1, p1.noex fun c S' => n d S1 c S'⟩
/-! ### arguments, displays -/
theorem ga_nil : GA X W [] [] := pa_nil.imp fun σ H Q ⟨ι, ρ, S, s, r, p⟩ => Po.ret p s (by rw [RepL])
theorem ga_cons {es : List Expr} {ms : List SE} (ha : GE X W e ma) (hr : GA X W es ms) (hs : starEach (e :: es) X.env = (false, eval e X.env) :: starEach es X.env := by rfl) : GA X W (e :: es) (ma :: ms) := (pa_cons ha hr hs).imp fun σ H Q h => by
  obtain ⟨ι, ρ, S, s, r, p⟩ := h
  refine ⟨ι, ρ, S, s, r, Po.bd p fun d S1 ι1 H1 x e1 s1 r1 p1 => ?_⟩
  refine ⟨ι1, ρ, S1, s1, r.ext e1, Po.bd p1 fun ds S2 ι2 H2 ys e2 s2 r2 p2 => ?_⟩
  exact Po.ret p2 s2 (by rw [RepL]; exact ⟨x, ys, rfl, Rep.ext e2 _ _ r1, r2⟩)
theorem evL_length : ∀ {ms : List SE} {ρ : Env} {S S' : Store} {ds : List D}, evL ms ρ S = some (.ok ds S') → ds.length = ms.length
  | [], _, _, _, _, h => by cases h; rfl
  | m :: ms, ρ, S, S', ds, h => by
    unfold evL at h
    match g : m ρ S, h with
    | some (.ok x S1), h =>
      simp only [bd_ok] at h
      match g2 : evL ms ρ S1, h with
      | some (.ok xs S2), h =>
        simp only [bd_ok] at h
        cases h
        simp [evL_length g2]
      | some (.ex _ _), h => simp at h
      | none, h => simp at h
    | some (.ex _ _), h => simp at h
    | none, h => simp at h
theorem Po.evL {ms : List SE} {ρ : Env} {S : Store} {ι : List Addr} {H : Hp} {α' β' : Type} {R' : List Addr → Hp → α' → β' → Prop} {Q : List V → Hp → Prop} {Q' : β' → Hp → Prop} {E : XK} {f : List D → Store → M α'}
    (h : Po R' X.K X.mg ι H Q' E (Z.bd (Z.evL ms ρ S) f)) (k : ∀ ds S ι1 H1 vs, ds.length = ms.length → Ext ι H ι1 H1 → Sim X.K ι1 S H1 → RepL X.K ι1 H1 ds vs → Po R' X.K X.mg ι1 H1 Q' E (f ds S) → Q vs H1) : Po (RepL X.K) X.K X.mg ι H Q E (Z.evL ms ρ S) := by
  match g : Z.evL ms ρ S, h with
  | some (.ok a S), h => exact fun ι1 H1 x e s r => k a S ι1 H1 x (evL_length g) e s r (Po.mono e h)
  | some (.ex c S), h => exact h
  | none, h => exact h
theorem ge_tup {es : List Expr} {ms : List SE} {x1} (h : GA X W es ms) (hl : ms.length ≤ 1000 := by exact Nat.le_of_ble_eq_true rfl) : GE X W (.Tuple es x1 pos) (eTup ms) := (pe_tup h).imp fun σ H Q h => by
  obtain ⟨ι, ρ, S, s, r, p⟩ := h
  refine ⟨ι, ρ, S, s, r, Po.evL p fun ds S1 ι1 H1 vs hd e1 s1 r1 p1 => ⟨?_, fun q hq => ?_⟩⟩
  · rw [r1.length, hd]; exact Nat.le_trans hl (by decide)
  · have e := ext_tup (ι := ι1) (o := .tup vs) hq
    exact Po.ret (Po.mono e p1) (s1.tup hq) (by rw [Rep]; exact ⟨q, vs, rfl, upd_same, RepL.ext e _ _ r1⟩)
theorem Sim.newL {K : PySem.W.Frag} {ι : List Addr} {S : Store} {H : Hp} (s : Sim K ι S H) {p : Addr} {ds : List D} {vs : List V} (hp : H p = none) (r : RepL K ι H ds vs) : Sim K (ι ++ [p]) (S ++ [.lst ds]) (upd H p (.lst vs)) :=
  s.new hp ⟨vs, upd_same, RepL.ext (ext_new hp) _ _ r⟩
theorem Rep.newL {K : PySem.W.Frag} {ι : List Addr} {S : Store} {H H' : Hp} (s : Sim K ι S H) {p : Addr} : Rep K (ι ++ [p]) H' (.ref S.length) (.ref p) := by
  rw [Rep]
  exact ⟨p, rfl, by rw [← s.len, List.getElem?_append_right (Nat.le_refl _)]; simp⟩
theorem ge_lst {es : List Expr} {ms : List SE} (h : GA X W es ms) (hl : ms.length ≤ 1000 := by exact Nat.le_of_ble_eq_true rfl) : GE X W (.List es pos) (eLst ms) := (pe_lst h).imp fun σ H Q h => by
  obtain ⟨ι, ρ, S, s, r, p⟩ := h
  refine ⟨ι, ρ, S, s, r, Po.evL p fun ds S1 ι1 H1 vs hd e1 s1 r1 p1 => ⟨?_, fun q hq => ?_⟩⟩
  · rw [r1.length, hd]; exact Nat.le_trans hl (by decide)
  · exact Po.ret (Po.mono (ext_new (t := [q]) (o := .lst vs) hq) p1) (s1.newL hq r1) (Rep.newL s1)
/-! ### calls -/
/-- what a def promises: its meaning -/
def spF (K : PySem.W.Frag) (mg : Mg) (F : Fn) : Sp := fun vs H Q E => ∃ ι S ds, Sim K ι S H ∧ RepL K ι H ds vs ∧ Po (Rep K) K mg ι H Q E (F ds S)
/-- a def of the module -/
structure GF (P : Program) (w : World) (K : PySem.W.Frag) (mg : Mg) (base : Heap) (x : Str) (k : Nat) (F : Fn) : Prop where
  ex : ∃ f fd ps, mg x = some (.ref f) ∧ PySem.W.keepIn K (.ref f) = true ∧ Binds K fd ps [] ∧ FnOk P w K mg base (L2.CX P w) k f fd ps (spF K mg F)
theorem ge_call {x : Str} {p : Pos} {k : Nat} {F : Fn} {es : List Expr} {ms : List SE} (G : GF X.prog X.w X.K X.mg X.base x k F) (hr : Room k X.A) (tk : Takes X W) (hg : Gl X x) (ha : GA X W (e :: es) ms)
    (hdb : (x == ("__debug__" : Str)) = false := by decide) (he : starEach (e :: es) X.env = (false, eval e X.env) :: starEach es X.env := by rfl) (hpl : (backTo pos (starEach es X.env)).any (·.1) = false := by rfl) :
    GE X W (.Call (.Name x p) (e :: es) [] pos) (eCall F ms) := by
  obtain ⟨f, fd, ps, hm, hk, hb, G⟩ := G.ex
  refine (pe_callSD (E := fun σ cls d H' => W cls d σ H') G hr hg hm hk hb .nil (fun σ => passAt tk σ) ha hdb he hpl).imp fun σ H Q h => ?_
  obtain ⟨ι, ρ, S, s, r, p⟩ := h
  refine ⟨ι, ρ, S, s, r, Po.evL p fun ds S1 ι1 H1 vs hd e1 s1 r1 p1 => ?_⟩
  rw [List.append_nil]
  exact ⟨ι1, S1, ds, s1, r1, p1⟩
/-- a built-in by values -/
def rB (X : Cx) (F : Fn) : List V → Hp → VK → Prop := fun vs H Q => ∃ ι S ds, Sim X.K ι S H ∧ RepL X.K ι H ds vs ∧ Po (Rep X.K) X.K X.mg ι H Q (fun _ _ _ => False) (F ds S)
def NoExF (F : Fn) : Prop := ∀ ds S c S', F ds S ≠ some (.ex c S')
theorem ge_callB {x : Str} {id : String} {p : Pos} {F : Fn} {es : List Expr} {ms : List SE} (n : NoExF F) (hc : CallR X (.builtin id) (rB X F)) (hg : Gl X x) (hm : X.mg x = none) (hv : bootBuiltins x = some (.builtin id)) (ha : GA X W (e :: es) ms)
    (hn : x ≠ "__name__" := by decide) (hdb : (x == ("__debug__" : Str)) = false := by decide) (he : starEach (e :: es) X.env = (false, eval e X.env) :: starEach es X.env := by rfl) (hpl : (backTo pos (starEach es X.env)).any (·.1) = false := by rfl) :
    GE X W (.Call (.Name x p) (e :: es) [] pos) (eCall F ms) := (pe_callB hc hg hm hv ha hn hdb he hpl).imp fun σ H Q h => by
  obtain ⟨ι, ρ, S, s, r, p⟩ := h
  refine ⟨ι, ρ, S, s, r, Po.evL p fun ds S1 ι1 H1 vs hd e1 s1 r1 p1 => ?_⟩
  exact ⟨ι1, S1, ds, s1, r1, p1.noex fun c S' => n ds S1 c S'⟩
theorem ge_callTy {x : Str} {T : String} {p : Pos} {F : Fn} {es : List Expr} {ms : List SE} (n : NoExF F) (hc : CallR X (.type T) (rB X F)) (hg : Gl X x) (hm : X.mg x = none) (hv : bootBuiltins x = some (.type T)) (ha : GA X W (e :: es) ms)
    (hn : x ≠ "__name__" := by decide) (hdb : (x == ("__debug__" : Str)) = false := by decide) (he : starEach (e :: es) X.env = (false, eval e X.env) :: starEach es X.env := by rfl) (hpl : (backTo pos (starEach es X.env)).any (·.1) = false := by rfl) :
    GE X W (.Call (.Name x p) (e :: es) [] pos) (eCall F ms) := (pe_callTy hc hg hm hv ha hn hdb he hpl).imp fun σ H Q h => by
  obtain ⟨ι, ρ, S, s, r, p⟩ := h
  refine ⟨ι, ρ, S, s, r, Po.evL p fun ds S1 ι1 H1 vs hd e1 s1 r1 p1 => ?_⟩
  exact ⟨ι1, S1, ds, s1, r1, p1.noex fun c S' => n ds S1 c S'⟩
/-! ### and, or, not; tests -/
theorem ge_one {op} (h : GE X W a ma) : GE X W (.BoolOp op [a] pos) ma := pe_one h
theorem ge_and {rest : List Expr} (ha : GE X W a ma) (hb : GE X W (.BoolOp .And (b :: rest) pos) mb) : GE X W (.BoolOp .And (a :: b :: rest) pos) (eAnd ma mb) := (pe_and ha hb).imp fun σ H Q h => by
  obtain ⟨ι, ρ, S, s, r, p⟩ := h
  refine ⟨ι, ρ, S, s, r, Po.bd p fun d S1 ι1 H1 x e1 s1 r1 p1 => ?_⟩
  cases d with
  | bl k =>
    rw [Rep] at r1
    refine ⟨k, r1, ?_⟩
    cases k with
    | true => rw [if_pos rfl]; exact ⟨ι1, ρ, S1, s1, r.ext e1, p1⟩
    | false => rw [if_neg Bool.false_ne_true]; exact Po.ret p1 s1 (by rw [Rep])
  | _ => exact p1.elim
theorem ge_or {rest : List Expr} (ha : GE X W a ma) (hb : GE X W (.BoolOp .Or (b :: rest) pos) mb) : GE X W (.BoolOp .Or (a :: b :: rest) pos) (eOr ma mb) := (pe_or ha hb).imp fun σ H Q h => by
  obtain ⟨ι, ρ, S, s, r, p⟩ := h
  refine ⟨ι, ρ, S, s, r, Po.bd p fun d S1 ι1 H1 x e1 s1 r1 p1 => ?_⟩
  cases d with
  | bl k =>
    rw [Rep] at r1
    refine ⟨k, r1, ?_⟩
    cases k with
    | false => rw [if_neg Bool.false_ne_true]; exact ⟨ι1, ρ, S1, s1, r.ext e1, p1⟩
    | true => rw [if_pos rfl]; exact Po.ret p1 s1 (by rw [Rep])
  | _ => exact p1.elim
theorem ge_not (ha : GE X W a ma) : GE X W (.UnaryOp .Not a pos) (eNot ma) := (pe_not ha).imp fun σ H Q h => by
  obtain ⟨ι, ρ, S, s, r, p⟩ := h
  refine ⟨ι, ρ, S, s, r, Po.bd p fun d S1 ι1 H1 x e1 s1 r1 p1 => ?_⟩
  cases d with
  | bl k =>
    rw [Rep] at r1
    exact ⟨k, r1, Po.ret p1 s1 (by rw [Rep])⟩
  | _ => exact p1.elim
theorem tVal_read {m : SE} {σ : L2.St} {H : Hp} {Q : Bool → Hp → Prop} (h : tT X.K X.mg W (tVal m) σ H Q) : tE X.K X.mg W m σ H fun x H1 => ∃ k, x = .bl k ∧ Q k H1 := by
  obtain ⟨ι, ρ, S, s, r, p⟩ := h
  refine ⟨ι, ρ, S, s, r, Po.bd p fun d S1 ι1 H1 x e1 s1 r1 p1 => ?_⟩
  cases d with
  | bl k =>
    rw [Rep] at r1
    exact ⟨k, r1, Po.ret p1 s1 rfl⟩
  | _ => exact p1.elim
/-- an expression that gives True or False, as a test -/
theorem gt_val {m : SE} (h : GE X W e m) (he : ∀ whole, isTrue e X.env whole = (do let v ← whole; standAt e.pos; holding [v] (truthy v)) := by intro _; rfl) : GT X W e (tVal m) := (pt_val h he).imp fun σ H Q h => tVal_read h
theorem gt_cmp {op : CmpOp} {f : D → D → Store → M D} (n : NoEx f) (ho : OpR X (compareOp op) (r2 X f)) (ha : GE X W a ma) (hb : GE X W b mb) (hm : behindInMarks op b = false := by first | exact nobehind _ (by decide) (by decide) | rfl) :
    GT X W (.Compare a [op] [b] pos) (tVal (e2 f ma mb)) := (pt_cmpR ho ha hb hm).imp fun σ H Q h => e2_read n (tVal_read h)
theorem gt_chain {op op' : CmpOp} {f g : D → D → Store → M D} (n : NoEx f) (n' : NoEx g) (ho : OpR X (compareOp op) (r2 X f)) (ho' : OpR X (compareOp op') (r2 X g)) (ha : GE X W a ma) (hb : GE X W b mb) (hc : GE X W c mc)
    (hm : lastMarks [op, op'] [b, c] = false := by with_unfolding_all rfl) : GT X W (.Compare a [op, op'] [b, c] pos) (tVal (eCh f g ma mb mc)) := (pt_chain ho ho' ha hb hc hm).imp fun σ H Q h => chain_read n n' (tVal_read h)
variable {ta tb : ST}
theorem gw_and1 (ha : GT X W a ta) : GW X W (.BoolOp .And [a] pos) ta := pw_and1 ha
theorem gw_or1 (ha : GT X W a ta) : GW X W (.BoolOp .Or [a] pos) ta := pw_or1 ha
theorem gw_and {rest : List Expr} (ha : GT X W a ta) (hb : GW X W (.BoolOp .And (b :: rest) pos) tb) : GW X W (.BoolOp .And (a :: b :: rest) pos) (tAnd ta tb) := (pw_and ha hb).imp fun σ H Q h => by
  obtain ⟨ι, ρ, S, s, r, p⟩ := h
  refine ⟨ι, ρ, S, s, r, Po.bd p fun d S1 ι1 H1 x e1 s1 r1 p1 => ?_⟩
  obtain rfl : x = d := r1
  cases x with
  | true => rw [if_pos rfl] at p1 ⊢; exact ⟨ι1, ρ, S1, s1, r.ext e1, p1⟩
  | false => rw [if_neg Bool.false_ne_true] at p1 ⊢; exact Po.ret p1 s1 rfl
theorem gw_or {rest : List Expr} (ha : GT X W a ta) (hb : GW X W (.BoolOp .Or (b :: rest) pos) tb) : GW X W (.BoolOp .Or (a :: b :: rest) pos) (tOr ta tb) := (pw_or ha hb).imp fun σ H Q h => by
  obtain ⟨ι, ρ, S, s, r, p⟩ := h
  refine ⟨ι, ρ, S, s, r, Po.bd p fun d S1 ι1 H1 x e1 s1 r1 p1 => ?_⟩
  obtain rfl : x = d := r1
  cases x with
  | true => rw [if_pos rfl] at p1 ⊢; exact Po.ret p1 s1 rfl
  | false => rw [if_neg Bool.false_ne_true] at p1 ⊢; exact ⟨ι1, ρ, S1, s1, r.ext e1, p1⟩
theorem GW.gt (h : GW X W e ta) : GT X W e ta := L2.PW.pt h
theorem gt_not (ha : GT X W a ta) : GT X W (.UnaryOp .Not a pos) (tNot ta) := (pt_not ha).imp fun σ H Q h => by
  obtain ⟨ι, ρ, S, s, r, p⟩ := h
  refine ⟨ι, ρ, S, s, r, Po.bd p fun d S1 ι1 H1 x e1 s1 r1 p1 => ?_⟩
  obtain rfl : x = d := r1
  exact Po.ret p1 s1 rfl
theorem ge_ifExp (hc : GT X W c ta) (ha : GE X W a ma) (hb : GE X W b mb) : GE X W (.IfExp c a b pos) (eIf ta ma mb) := (pe_ifExp hc ha hb).imp fun σ H Q h => by
  obtain ⟨ι, ρ, S, s, r, p⟩ := h
  refine ⟨ι, ρ, S, s, r, Po.bd p fun d S1 ι1 H1 x e1 s1 r1 p1 => ?_⟩
  obtain rfl : x = d := r1
  cases x with
  | true => rw [if_pos rfl] at p1 ⊢; exact ⟨ι1, ρ, S1, s1, r.ext e1, p1⟩
  | false => rw [if_neg Bool.false_ne_true] at p1 ⊢; exact ⟨ι1, ρ, S1, s1, r.ext e1, p1⟩
end
end Z
namespace Z
open PySem PySem.Spec PyProof.Rows L2
section
variable {X : Cx} {W : WX} {a b c e : Expr} {ma mb mc : SE} {pos : Pos}
/-! ### statements -/
theorem gss_nil : GSs X W [] sNx := pss_nil.imp fun D σ H ⟨ι, ρ, S, s, r, p⟩ => p ι H σ .refl s r
theorem gss_cons {st : Stmt} {rest : List Stmt} {m m' : SS} (h1 : GS X W st m) (h2 : GSs X W rest m') : GSs X W (st :: rest) (sq m m') := (pss_cons h1 h2).imp fun D σ H ⟨ι, ρ, S, s, r, p⟩ => by
  refine ⟨ι, ρ, S, s, r, ?_⟩
  unfold sq at p
  match g : m ρ S, p with
  | none, p => exact p
  | some (.nx ρ1 S1), p => exact fun ι1 H1 σ1 e1 s1 r1 => ⟨ι1, ρ1, S1, s1, r1, PoS.mono e1 p⟩
  | some (.rt d S1), p => exact p
  | some (.bk ρ1 S1), p => exact p
  | some (.ct ρ1 S1), p => exact p
  | some (.ex c ρ1 S1), p => exact p
theorem gss_one {st : Stmt} {m : SS} (h1 : GS X W st m) : GSs X W [st] m := pss_one h1
theorem gs_pass : GS X W (.Pass pos) sNx := ps_pass.imp fun D σ H ⟨ι, ρ, S, s, r, p⟩ => p ι H σ .refl s r
theorem gs_break : GS X W (.Break pos) sBk := ps_break.imp fun D σ H ⟨ι, ρ, S, s, r, p⟩ => p ι H σ .refl s r
theorem gs_continue : GS X W (.Continue pos) sCt := ps_continue.imp fun D σ H ⟨ι, ρ, S, s, r, p⟩ => p ι H σ .refl s r
theorem gs_expr (he : GE X W e ma) (hs : swapsWith e none pos.line X.env = pure false := by rfl) : GS X W (.Expr e pos) (sExp ma) := (ps_expr he hs).imp fun D σ H ⟨ι, ρ, S, s, r, p⟩ =>
  ⟨ι, ρ, S, s, r, PoS.bo r p fun d S1 ι1 H1 x e1 s1 r1 r2 p1 => p1 ι1 H1 σ .refl s1 r2⟩
theorem gs_ret (he : GE X W e ma) : GS X W (.Return (some e) pos) (sRet ma) := (ps_ret he).imp fun D σ H ⟨ι, ρ, S, s, r, p⟩ =>
  ⟨ι, ρ, S, s, r, PoS.bo r p fun d S1 ι1 H1 x e1 s1 r1 r2 p1 => p1 ι1 H1 x .refl s1 r1⟩
theorem gs_if {t : ST} {p q : List Stmt} {m m' : SS} (hc : GT X W c t) (ha : GSs X W p m) (hb : GSs X W q m') : GS X W (.If c p q pos) (sIf t m m') := (ps_if hc ha hb).imp fun D σ H ⟨ι, ρ, S, s, r, p⟩ => by
  refine ⟨ι, ρ, S, s, r, PoS.bo r p fun d S1 ι1 H1 x e1 s1 r1 r2 p1 => ?_⟩
  obtain rfl : x = d := r1
  cases x with
  | true => rw [if_pos rfl] at p1 ⊢; exact ⟨ι1, ρ, S1, s1, r2, p1⟩
  | false => rw [if_neg Bool.false_ne_true] at p1 ⊢; exact ⟨ι1, ρ, S1, s1, r2, p1⟩
/-! ### targets -/
/-- σ' is σ but at these places -/
def Off (sl : List Nat) (σ σ' : L2.St) : Prop := σ'.length = σ.length ∧ ∀ i, i ∉ sl → σ'[i]? = σ[i]?
theorem Off.refl {sl : List Nat} {σ : L2.St} : Off sl σ σ := ⟨rfl, fun _ _ => rfl⟩
theorem Off.trans {sl sl' : List Nat} {σ σ' σ'' : L2.St} (a : Off sl σ σ') (b : Off sl' σ' σ'') : Off (sl ++ sl') σ σ'' :=
  ⟨b.1.trans a.1, fun i h => by simp only [List.mem_append, not_or] at h; exact (b.2 i h.2).trans (a.2 i h.1)⟩
theorem wipe_get (σ : L2.St) : ∀ (vs : List Nat) (i : Nat), (L2.wipe σ vs)[i]? = if i ∈ vs ∧ i < σ.length then some none else σ[i]?
  | [], i => by simp [L2.wipe]
  | v :: vs, i => by
    unfold L2.wipe
    by_cases hv : v = i
    · subst hv
      by_cases hl : v < σ.length
      · rw [List.getElem?_set_self (by rw [L2.wipe_length]; exact hl)]
        simp [hl]
      · rw [List.getElem?_eq_none (by simp [L2.wipe_length]; omega)]
        simp [hl]
    · rw [List.getElem?_set_ne hv, wipe_get σ vs i]
      have : (i ∈ v :: vs) ↔ i ∈ vs := by simp [Ne.symm hv]
      simp [this]
theorem Off.wipe {sl own : List Nat} {σ σ' : L2.St} (h : Off sl σ σ') (k : ∀ i ∈ sl, i ∈ own) : L2.wipe σ' own = L2.wipe σ own := by
  apply List.ext_getElem?
  intro i
  rw [wipe_get, wipe_get, h.1]
  by_cases hi : i ∈ own
  · by_cases hl : i < σ.length
    · simp [hi, hl]
    · have h1 : σ[i]? = none := List.getElem?_eq_none (by omega)
      have h2 : σ'[i]? = none := List.getElem?_eq_none (by rw [h.1]; omega)
      simp [hl, h1, h2]
  · simp only [hi, false_and, if_false]
    exact h.2 i fun z => hi (k i z)
def tG (K : PySem.W.Frag) (g : SG) (sl : List Nat) : TG := fun v σ H Q => ∃ ι ρ S d ρ' S', Sim K ι S H ∧ EnvR K ι H ρ σ ∧ Rep K ι H d v ∧ g d ρ S = some (ρ', S') ∧
  ∀ ι' H' σ', Ext ι H ι' H' → Sim K ι' S' H' → EnvR K ι' H' ρ' σ' → Off sl σ σ' → Q σ' H'
def tGs (K : PySem.W.Frag) (gs : List SG) (sl : List Nat) : TGs := fun vs σ H Q => ∃ ι ρ S ds ρ' S', Sim K ι S H ∧ EnvR K ι H ρ σ ∧ RepL K ι H ds vs ∧ gAll gs ds ρ S = some (ρ', S') ∧
  ∀ ι' H' σ', Ext ι H ι' H' → Sim K ι' S' H' → EnvR K ι' H' ρ' σ' → Off sl σ σ' → Q σ' H'
def GG (X : Cx) (e : Expr) (g : SG) (sl : List Nat) : Prop := PG X e (tG X.K g sl)
def GGs (X : Cx) (es : List Expr) (gs : List SG) (sl : List Nat) : Prop := PGs X es (tGs X.K gs sl)
theorem _root_.L2.PG.imp {e : Expr} {t t' : TG} (h : PG X e t) (k : ∀ v σ H Q, t' v σ H Q → t v σ H Q) : PG X e t' := ⟨fun pins s σ H v u Q I r q => h.run pins s σ H v u Q I r (k _ _ _ _ q)⟩
theorem _root_.L2.PGs.imp {es : List Expr} {t t' : TGs} (h : PGs X es t) (k : ∀ v σ H Q, t' v σ H Q → t v σ H Q) : PGs X es t' := ⟨fun pins s σ H v u Q I r q => h.run pins s σ H v u Q I r (k _ _ _ _ q)⟩
theorem gg_name (i : Nat) {x : Str} (hN : X.N.Nodup) (hi : X.N[i]? = some x := by rfl) (hx : Loc X.env.scope x := by first | exact Or.inl rfl | exact Or.inr rfl) (hf : X.fn x = true ∨ X.env.scope.names.lookup x = some .local := by first | exact .inl rfl | exact .inr rfl) : GG X (.Name x pos) (gName i) [i] :=
  (pg_name hN hi hx hf).imp fun v σ H Q ⟨ι, ρ, S, d, ρ', S', s, r, rd, g, k⟩ => by
    unfold Z.gName at g
    cases g
    exact k ι H _ .refl s (r.set rd) ⟨by simp, fun j hj => by rw [List.getElem?_set_ne (by rintro rfl; simp at hj)]⟩
theorem ggs_nil : GGs X [] [] [] := pgs_nil.imp fun vs σ H Q ⟨ι, ρ, S, ds, ρ', S', s, r, rd, g, k⟩ => by
  match ds, g with
  | [], g =>
    unfold gAll at g
    cases g
    rw [RepL] at rd
    exact ⟨rd, k ι H σ .refl s r .refl⟩
  | _ :: _, g => unfold gAll at g; cases g
theorem ggs_cons {es : List Expr} {g : SG} {gs : List SG} {sl sl' : List Nat} (h1 : GG X e g sl) (h2 : GGs X es gs sl')
    (hs : (assignEach (e :: es) X.env).map (·.2) = assign e X.env :: (assignEach es X.env).map (·.2) := by rfl) : GGs X (e :: es) (g :: gs) (sl ++ sl') := (pgs_cons h1 h2 hs).imp fun vs σ H Q ⟨ι, ρ, S, ds, ρ', S', s, r, rd, q, k⟩ => by
  match ds, q with
  | [], q => unfold gAll at q; cases q
  | d :: ds, q =>
    unfold gAll at q
    rw [RepL] at rd
    obtain ⟨v, vr, rfl, rv, rr⟩ := rd
    refine ⟨v, vr, rfl, ?_⟩
    match q1 : g d ρ S, q with
    | some (ρ1, S1), q =>
      refine ⟨ι, ρ, S, d, ρ1, S1, s, r, rv, q1, fun ι1 H1 σ1 e1 s1 r1 o1 => ?_⟩
      exact ⟨ι1, ρ1, S1, ds, ρ', S', s1, r1, RepL.ext e1 _ _ rr, q, fun ι2 H2 σ2 e2 s2 r2 o2 => k ι2 H2 σ2 (e1.trans e2) s2 r2 (o1.trans o2)⟩
theorem gAll_len : ∀ {gs : List SG} {ds : List D} {ρ : Env} {S : Store} {o : Env × Store}, gAll gs ds ρ S = some o → ds.length = gs.length
  | [], [], _, _, _, _ => rfl
  | [], _ :: _, _, _, _, h => by unfold gAll at h; cases h
  | _ :: _, [], _, _, _, h => by unfold gAll at h; cases h
  | g :: gs, d :: ds, ρ, S, o, h => by
    unfold gAll at h
    match q : g d ρ S, h with
    | some (ρ1, S1), h => simp [gAll_len h]
theorem gg_tup {es : List Expr} {k : Nat} {gs : List SG} {sl : List Nat} (hc : X.calm = true) (h : GGs X es gs sl) (hn : (assignEach es X.env).length = gs.length := by rfl) (hst : (assignEach es X.env).findIdx? (·.1) = none := by rfl) : GG X (.Tuple es k pos) (Z.gTup gs) sl :=
  (pg_tup (n := gs.length) hc h hn hst).imp fun v σ H Q ⟨ι, ρ, S, d, ρ', S', s, r, rd, q, k⟩ => by
    match d, q with
    | .tup ds, q =>
      rw [Rep] at rd
      obtain ⟨a, vs, rfl, h1, h2⟩ := rd
      have q' : gAll gs ds ρ S = some (ρ', S') := q
      exact ⟨a, vs, rfl, SqT.of h1, by rw [h2.length, gAll_len q'], ι, ρ, S, ds, ρ', S', s, r, h2, q', k⟩
theorem gs_asg {tg : Expr} {g : SG} {sl : List Nat} (he : GE X W e ma) (hg : GG X tg g sl) (hs : swapsWithSole [tg] e pos.line X.env = pure false := by rfl) (hw : swappedStores [tg] e X.env = pure none := by rfl)
    (h1 : (assignEach [tg] X.env).map (·.2) = [assign tg X.env] := by rfl) : GS X W (.Assign [tg] e pos) (sAsg ma g) := (ps_asg he hg hs hw h1).imp fun D σ H ⟨ι, ρ, S, s, r, p⟩ => by
  refine ⟨ι, ρ, S, s, r, PoS.bo r p fun d S1 ι1 H1 x e1 s1 r1 r2 p1 => ?_⟩
  match q : g d ρ S1, p1 with
  | some (ρ2, S2), p1 => exact ⟨ι1, ρ, S1, d, ρ2, S2, s1, r2, r1, q, fun ι2 H2 σ2 e2 s2 r3 _ => p1 ι2 H2 σ2 e2 s2 r3⟩
theorem gs_set (i : Nat) {x : Str} {pos' : Pos} (hN : X.N.Nodup) (he : GE X W e ma) (hi : X.N[i]? = some x := by rfl) (hx : Loc X.env.scope x := by first | exact Or.inl rfl | exact Or.inr rfl) (hs : swapsWith e (some (.Name x pos')) pos.line X.env = pure false := by rfl) (hf : X.fn x = true ∨ X.env.scope.names.lookup x = some .local := by first | exact .inl rfl | exact .inr rfl) :
    GS X W (.Assign [.Name x pos'] e pos) (sAsg ma (Z.gName i)) := (ps_set hN hi hx he hs hf).imp fun D σ H ⟨ι, ρ, S, s, r, p⟩ => by
  refine ⟨ι, ρ, S, s, r, PoS.bo r p fun d S1 ι1 H1 x e1 s1 r1 r2 p1 => ?_⟩
  exact p1 ι1 H1 _ .refl s1 (r2.set r1)
theorem gs_aug (i : Nat) {x : Str} {op : Operator} {f : D → D → Store → M D} {pos' : Pos} (hN : X.N.Nodup) (n : NoEx f) (ho : OpR X (inplaceOp op) (r2 X f)) (he : GE X W e ma) (hi : X.N[i]? = some x := by rfl) (hx : Loc X.env.scope x := by first | exact Or.inl rfl | exact Or.inr rfl) (hf : X.fn x = true ∨ X.env.scope.names.lookup x = some .local := by first | exact .inl rfl | exact .inr rfl) :
    GS X W (.AugAssign (.Name x pos') op e pos) (sAug i f ma) := (ps_aug (ti := fun x y H Q => r2 X f x y H Q) hN hi hx he (fun pins s σ H x y v u Q I r1 r2 h => ho pins s σ H x y v u Q I r1 r2 h) hf).imp fun D σ H ⟨ι, ρ, S, s, r, p⟩ => by
  unfold sAug e2 eVar at p
  cases g : ρ[i]? with
  | none => rw [g] at p; exact p.elim
  | some o =>
    cases o with
    | none => rw [g] at p; exact p.elim
    | some d =>
      rw [g] at p
      simp only [bd_ok] at p
      obtain ⟨v, hv, hr⟩ := r.2 i d g
      refine ⟨v, hv, ι, ρ, S, s, r, ?_⟩
      match q : ma ρ S, p with
      | none, p => exact p
      | some (.ex _ _), p => exact fun ι1 H1 cls e1 s1 g1 => p ι1 H1 σ cls e1 s1 (r.ext e1) g1
      | some (.ok d2 S2), p =>
        simp only [bd_ok] at p
        intro ι2 H2 y e2 s2 q2
        refine ⟨ι2, S2, d, d2, s2, Rep.ext e2 _ _ hr, q2, ?_⟩
        have p := PoS.mono e2 p
        match q3 : f d d2 S2, p with
        | none, p => exact p
        | some (.ex c S'), p => exact absurd q3 (n _ _ _ _ _)
        | some (.ok z S3), p => exact fun ι3 H3 w e3 s3 r3 => p ι3 H3 _ e3 s3 (((r.ext e2).ext e3).set r3)
/-! ### while -/
/-- the loop ends within n turns, so -/
def whN (t : ST) (b : SS) : Nat → Env → Store → Out → Prop
  | 0, _, _, _ => False
  | n + 1, ρ, S, o => match t ρ S with
    | none => False
    | some (.ex c S1) => o = .ex c ρ S1
    | some (.ok false S1) => o = .nx ρ S1
    | some (.ok true S1) => match b ρ S1 with
      | none => False
      | some (.nx ρ2 S2) => whN t b n ρ2 S2 o
      | some (.ct ρ2 S2) => whN t b n ρ2 S2 o
      | some (.bk ρ2 S2) => o = .nx ρ2 S2
      | some (.rt d S2) => o = .rt d S2
      | some (.ex c ρ2 S2) => o = .ex c ρ2 S2
theorem sWh_ends (t : ST) (b : SS) : ∀ (ρ : Env) (S : Store) (o : Out), sWh t b ρ S = some o → ∃ n, whN t b n ρ S o :=
  sWh.partial_correctness t b (fun ρ S o => ∃ n, whN t b n ρ S o) fun f ih ρ S o h => by
    match g : t ρ S, h with
    | none, h => cases h
    | some (.ex c S1), h => cases h; exact ⟨1, by unfold whN; rw [g]⟩
    | some (.ok false S1), h => cases h; exact ⟨1, by unfold whN; rw [g]⟩
    | some (.ok true S1), h =>
      dsimp only at h
      match g2 : b ρ S1, h with
      | none, h => cases h
      | some (.nx ρ2 S2), h => obtain ⟨n, q⟩ := ih ρ2 S2 o h; exact ⟨n + 1, by unfold whN; rw [g]; simp only [g2]; exact q⟩
      | some (.ct ρ2 S2), h => obtain ⟨n, q⟩ := ih ρ2 S2 o h; exact ⟨n + 1, by unfold whN; rw [g]; simp only [g2]; exact q⟩
      | some (.bk ρ2 S2), h => cases h; exact ⟨1, by unfold whN; rw [g]; simp only [g2]⟩
      | some (.rt d S2), h => cases h; exact ⟨1, by unfold whN; rw [g]; simp only [g2]⟩
      | some (.ex c ρ2 S2), h => cases h; exact ⟨1, by unfold whN; rw [g]; simp only [g2]⟩
theorem gs_while {t : ST} {body : List Stmt} {m : SS} (hp : PassesOwn (model X.prog X.w) X.A X.env X.xe) (hc : GT X W c t) (hb : GSs X W body m) : GS X W (.While c body [] pos) (sWh t m) := (ps_while hp hc hb).imp fun D σ H ⟨ι, ρ, S, s, r, p⟩ => by
  match g : sWh t m ρ S, p with
  | some o, p =>
    obtain ⟨n, hn⟩ := sWh_ends t m ρ S o g
    refine ⟨fun n σ H => ∃ ι ρ S, Sim X.K ι S H ∧ EnvR X.K ι H ρ σ ∧ whN t m n ρ S o ∧ PoS X.K X.mg W ι H D (some o), ⟨n, ι, ρ, S, s, r, hn, p⟩, ?_⟩
    rintro n σ H ⟨ι, ρ, S, s, r, hn, p⟩
    refine ⟨ι, ρ, S, s, r, ?_⟩
    cases n with
    | zero => exact hn.elim
    | succ n =>
      unfold whN at hn
      match g1 : t ρ S, hn with
      | some (.ex c S1), hn => subst hn; exact fun ι1 H1 cls e1 s1 g1 => p ι1 H1 σ cls e1 s1 (r.ext e1) g1
      | some (.ok false S1), hn =>
        subst hn
        intro ι1 H1 x e1 s1 r1
        obtain rfl : x = false := r1
        rw [if_neg Bool.false_ne_true]
        exact p ι1 H1 σ e1 s1 (r.ext e1)
      | some (.ok true S1), hn =>
        intro ι1 H1 x e1 s1 r1
        obtain rfl : x = true := r1
        rw [if_pos rfl]
        refine ⟨fun σ' H' => ∃ ι ρ S, Sim X.K ι S H' ∧ EnvR X.K ι H' ρ σ' ∧ whN t m n ρ S o ∧ PoS X.K X.mg W ι H' D (some o), fun σ' H' h => ⟨n, Nat.lt_succ_self n, h⟩, ι1, ρ, S1, s1, r.ext e1, ?_⟩
        have p := PoS.mono e1 p
        simp only [] at hn
        match g2 : m ρ S1, hn with
        | some (.nx ρ2 S2), hn => exact fun ι2 H2 σ2 e2 s2 r2 => ⟨ι2, ρ2, S2, s2, r2, hn, PoS.mono e2 p⟩
        | some (.ct ρ2 S2), hn => exact fun ι2 H2 σ2 e2 s2 r2 => ⟨ι2, ρ2, S2, s2, r2, hn, PoS.mono e2 p⟩
        | some (.bk ρ2 S2), hn => subst hn; exact fun ι2 H2 σ2 e2 s2 r2 => p ι2 H2 σ2 e2 s2 r2
        | some (.rt d S2), hn => subst hn; exact p
        | some (.ex c ρ2 S2), hn => subst hn; exact p
/-! ### for -/
/-- j walks J -/
def RItm (K : PySem.W.Frag) (ι : List Addr) (H : Hp) (J : Itm) (j : It) : Prop := ∀ ι' H' S', Ext ι H ι' H' → Sim K ι' S' H' → J.chk S' →
  (∀ i x, J.xs[i]? = some x → j.go i H' ∧ ∀ v H'', j.yld i H' v H'' → Ext ι' H' ι' H'' ∧ Sim K ι' S' H'' ∧ Rep K ι' H'' x v) ∧ j.stop J.xs.length H'
theorem RItm.ext {K : PySem.W.Frag} {ι ι' : List Addr} {H H' : Hp} {J : Itm} {j : It} (e : Ext ι H ι' H') (h : RItm K ι H J j) : RItm K ι' H' J j := fun ι2 H2 S2 e2 s c => h ι2 H2 S2 (e.trans e2) s c
def tI (K : PySem.W.Frag) (mg : Mg) (W : WX) (m : SI) : TI := fun σ H R => ∃ ι ρ S, Sim K ι S H ∧ EnvR K ι H ρ σ ∧ Po (RItm K) K mg ι H R (fun cls d H' => W cls d σ H') (m ρ S)
def GI (X : Cx) (W : WX) (tg iter : Expr) (m : SI) : Prop := PI X tg iter (tI X.K X.mg W m)
theorem _root_.L2.PI.imp {tg iter : Expr} {t t' : TI} (h : PI X tg iter t) (k : ∀ σ H Q, t' σ H Q → t σ H Q) : PI X tg iter t' := ⟨fun pins s σ H R I q => h.run pins s σ H R I (k _ _ _ q)⟩
theorem forL_step {chk : Store → Prop} {g : SG} {m : SS} {x : D} {r : List D} {ρ : Env} {S : Store} (hc : chk S) : forL chk g m (x :: r) ρ S = (match g x ρ S with
      | none => none
      | some (ρ1, S1) => match m ρ1 S1 with
        | some (.nx ρ2 S2) => forL chk g m r ρ2 S2
        | some (.ct ρ2 S2) => forL chk g m r ρ2 S2
        | some (.bk ρ2 S2) => some (.nx ρ2 S2)
        | o => o) := by
  rw [forL, if_pos hc]
  all_goals rfl
theorem gs_for {tg iter : Expr} {it : SI} {g : SG} {sl : List Nat} {body : List Stmt} {m : SS} (hp : PassesOwn (model X.prog X.w) X.A X.env X.xe) (hc : X.calm = true) (hi : GI X W tg iter it) (hg : GG X tg g sl) (hb : GSs X W body m)
    (hs : ∀ x, foldedSetIterable iter X.env x = pure x := by intro _; rfl) : GS X W (.For tg iter body [] pos) (sFor it g m) := (ps_for hp hc hi hg hb hs).imp fun D σ H ⟨ι, ρ, S, s, r, p⟩ => by
  refine ⟨ι, ρ, S, s, r, PoS.bo r p fun J S1 ι1 H1 j e1 s1 r1 r2 p1 => ?_⟩
  refine ⟨fun i n σ' H' => ∃ ι' ρ' S', Ext ι1 H1 ι' H' ∧ Sim X.K ι' S' H' ∧ EnvR X.K ι' H' ρ' σ' ∧ n = J.xs.length - i ∧ i ≤ J.xs.length ∧ PoS X.K X.mg W ι' H' D (forL J.chk g m (J.xs.drop i) ρ' S'), ⟨J.xs.length, ι1, ρ, S1, .refl, s1, r2, rfl, Nat.zero_le _, p1⟩, ?_⟩
  rintro i n σ' H' ⟨ι', ρ', S', e', s', r', hn, hi, p'⟩
  by_cases hck : J.chk S'
  rotate_left
  · exfalso
    cases q : J.xs.drop i with
    | nil => rw [q, forL, if_neg hck] at p'; exact p'
    | cons x t => rw [q, forL, if_neg hck] at p'; exact p'
  obtain ⟨hitem, hstop⟩ := r1 ι' H' S' e' s' hck
  by_cases hlt : i < J.xs.length
  · refine .inr ⟨(hitem i _ (List.getElem?_eq_getElem hlt)).1, ?_⟩
    rw [List.drop_eq_getElem_cons hlt, forL_step hck] at p'
    match q : g J.xs[i] ρ' S', p' with
    | some (ρ2, S2), p' =>
      simp only [] at p'
      refine ⟨fun σ3 H3 => ∃ ι3 ρ3 S3, Ext ι1 H1 ι3 H3 ∧ Sim X.K ι3 S3 H3 ∧ EnvR X.K ι3 H3 ρ3 σ3 ∧ PoS X.K X.mg W ι3 H3 D (forL J.chk g m (J.xs.drop (i + 1)) ρ3 S3), fun σ3 H3 ⟨ι3, ρ3, S3, a1, a2, a3, a4⟩ => ⟨n - 1, by omega, ι3, ρ3, S3, a1, a2, a3, by omega, by omega, a4⟩, fun v H2 y => ?_⟩
      obtain ⟨e2, s2, rv⟩ := (hitem i _ (List.getElem?_eq_getElem hlt)).2 v H2 y
      refine ⟨ι', ρ', S', J.xs[i], ρ2, S2, s2, r'.ext e2, rv, q, fun ι3 H3 σ3 e3 s3 r3 _ => ?_⟩
      have eT : Ext ι1 H1 ι3 H3 := (e'.trans e2).trans e3
      have p' := PoS.mono (e2.trans e3) p'
      refine ⟨ι3, ρ2, S2, s3, r3, ?_⟩
      match q2 : m ρ2 S2, p' with
      | none, p' => exact p'
      | some (.nx ρ4 S4), p' => exact fun ι4 H4 σ4 e4 s4 r4 => ⟨ι4, ρ4, S4, eT.trans e4, s4, r4, PoS.mono e4 p'⟩
      | some (.ct ρ4 S4), p' => exact fun ι4 H4 σ4 e4 s4 r4 => ⟨ι4, ρ4, S4, eT.trans e4, s4, r4, PoS.mono e4 p'⟩
      | some (.bk ρ4 S4), p' => exact p'
      | some (.rt d S4), p' => exact p'
      | some (.ex c ρ4 S4), p' => exact p'
  · have e : i = J.xs.length := by omega
    subst e
    refine .inl ⟨hstop, ?_⟩
    rw [List.drop_length, forL, if_pos hck] at p'
    exact p' ι' H' σ' .refl s' r'
/-! ### comprehensions -/
def GTs (X : Cx) (W : WX) (es : List Expr) (m : ST) : Prop := PTs X es (tT X.K X.mg W m)
theorem _root_.L2.PTs.imp {es : List Expr} {t t' : TT} (h : PTs X es t) (k : ∀ σ H Q, t' σ H Q → t σ H Q) : PTs X es t' := ⟨fun pins s σ H Q I q => h.run pins s σ H Q I (k _ _ _ q)⟩
theorem gts_nil : GTs X W [] Z.tYes := pts_nil.imp fun σ H Q ⟨ι, ρ, S, s, r, p⟩ => Po.ret p s rfl
theorem gts_one {t : ST} (h : GT X W c t) : GTs X W [c] t := pts_one h
abbrev W0 : WX := fun _ _ _ _ => False
theorem lcL_step {chk : Store → Prop} {g : SG} {t : ST} {m : SE} {l : Nat} {x : D} {r : List D} {ρ : Env} {S : Store} (hc : chk S) : lcL chk g t m l (x :: r) ρ S = (match g x ρ S with
      | none => none
      | some (ρ1, S1) => Z.bq (t ρ1 S1) fun b S2 => if b = true then Z.bq (m ρ1 S2) fun y S3 => (match S3[l]? with
            | some (.lst acc) => if acc.length < LINE then lcL chk g t m l r ρ (S3.set l (.lst (acc ++ [y]))) else none
            | _ => none)
          else lcL chk g t m l r ρ S2) := by
  rw [lcL, if_pos hc]
  all_goals rfl
/-- no exception is told -/
def Calm {α : Type} (m : Env → Store → M α) : Prop := ∀ ρ S c S', m ρ S ≠ some (.ex c S')
theorem lc_read {it : SI} {g : SG} {t : ST} {m : SE} {own sl : List Nat} {σ : L2.St} {H : Hp} {Q : VK} (hsl : ∀ i ∈ sl, i ∈ own)
    (h : tE X.K X.mg W (eLc it g t m own) σ H Q) : tLc (tI X.K X.mg W it) (tG X.K g sl) (tT X.K X.mg W0 t) (tE X.K X.mg W0 m) own σ H Q := by
  obtain ⟨ι, ρ, S, s, r, p⟩ := h
  refine ⟨ι, ρ, S, s, r, ?_⟩
  unfold eLc at p
  match g0 : it ρ S, p with
  | none, p => exact p
  | some (.ex _ _), p => exact p
  | some (.ok J S1), p =>
  rw [bd_ok] at p
  intro ι1 H1 j e1 s1 r1 Da hD
  have p := Po.mono e1 p
  have hl1 : ι1.length = S1.length := s1.len
  have eD : Ext ι1 H1 (ι1 ++ [Da]) (upd H1 Da (.lst [])) := ext_new hD
  have r2 := ((r.ext e1).ext eD).wipe own
  have atD : ∀ {ι' H'}, Ext (ι1 ++ [Da]) (upd H1 Da (.lst [])) ι' H' → ι'[S1.length]? = some Da := fun e => e.at (by rw [← hl1, List.getElem?_append_right (Nat.le_refl _)]; simp)
  refine ⟨fun i n H' => ∃ ι' S', Ext (ι1 ++ [Da]) (upd H1 Da (.lst [])) ι' H' ∧ Sim X.K ι' S' H' ∧ n = J.xs.length - i ∧ i ≤ J.xs.length ∧ Po (Rep X.K) X.K X.mg ι' H' Q (fun cls d H' => W cls d σ H') (lcL J.chk g t m S1.length (J.xs.drop i) (Z.wipe ρ own) S'),
    ⟨J.xs.length, _, _, .refl, s1.newL hD (by rw [RepL]), rfl, Nat.zero_le _, Po.mono eD p⟩, ?_⟩
  rintro i n H' ⟨ι', S', e', s', hn, hi, p'⟩
  by_cases hck : J.chk S'
  rotate_left
  · exfalso
    cases q : J.xs.drop i with
    | nil => rw [q, lcL, if_neg hck] at p'; exact p'
    | cons x t => rw [q, lcL, if_neg hck] at p'; exact p'
  obtain ⟨hitem, hstop⟩ := r1 ι' H' S' (eD.trans e') s' hck
  by_cases hlt : i < J.xs.length
  · refine .inr ⟨(hitem i _ (List.getElem?_eq_getElem hlt)).1, ?_⟩
    rw [List.drop_eq_getElem_cons hlt, lcL_step hck] at p'
    match q : g J.xs[i] (Z.wipe ρ own) S', p' with
    | some (ρ2, S2), p' =>
      dsimp only at p'
      refine ⟨fun H3 => ∃ ι3 S3, Ext (ι1 ++ [Da]) (upd H1 Da (.lst [])) ι3 H3 ∧ Sim X.K ι3 S3 H3 ∧ Po (Rep X.K) X.K X.mg ι3 H3 Q (fun cls d H' => W cls d σ H') (lcL J.chk g t m S1.length (J.xs.drop (i + 1)) (Z.wipe ρ own) S3),
        fun H3 ⟨ι3, S3, a1, a2, a3⟩ => ⟨n - 1, by omega, ι3, S3, a1, a2, by omega, by omega, a3⟩, fun v H2 y => ?_⟩
      obtain ⟨e2, s2, rv⟩ := (hitem i _ (List.getElem?_eq_getElem hlt)).2 v H2 y
      refine ⟨ι', Z.wipe ρ own, S', J.xs[i], ρ2, S2, s2, (r2.ext e').ext e2, rv, q, fun ι3 H3 σ3 e3 s3 r3 o3 => ⟨?_, ?_⟩⟩
      · rw [o3.wipe hsl]
        apply List.ext_getElem?
        intro k
        rw [wipe_get, wipe_get, L2.wipe_length]
        by_cases hk : k ∈ own ∧ k < σ.length <;> simp [hk]
      have p' := Po.mono (e2.trans e3) p'
      have eT := (e'.trans e2).trans e3
      refine ⟨ι3, ρ2, S2, s3, r3, ?_⟩
      match q2 : t ρ2 S2, p' with
      | none, p' => exact p'
      | some (.ex _ _), p' => exact p'.elim
      | some (.ok b S4), p' =>
        rw [bq_ok] at p'
        intro ι4 H4 x e4 s4 r4
        obtain rfl : x = b := r4
        have p' := Po.mono e4 p'
        cases x with
        | false => rw [if_neg Bool.false_ne_true] at p' ⊢; exact ⟨ι4, S4, eT.trans e4, s4, p'⟩
        | true =>
          rw [if_pos rfl] at p' ⊢
          refine ⟨ι4, ρ2, S4, s4, r3.ext e4, ?_⟩
          match q5 : m ρ2 S4, p' with
          | none, p' => exact p'
          | some (.ex _ _), p' => exact p'.elim
          | some (.ok d S5), p' =>
            rw [bq_ok] at p'
            intro ι5 H5 v5 e5 s5 r5
            have p' := Po.mono e5 p'
            have e5T := (eT.trans e4).trans e5
            match q6 : S5[S1.length]?, p' with
            | some (.lst acc), p' =>
              dsimp only at p'
              by_cases hz : acc.length < LINE
              rotate_left
              · rw [if_neg hz] at p'; exact p'.elim
              rw [if_pos hz] at p'
              obtain ⟨vs, hv, hr⟩ := s5.get (atD e5T) q6
              refine ⟨vs, hv, by rw [hr.length]; rw [LINE_eq] at hz; exact hz, ?_⟩
              have em : Ext ι5 H5 ι5 (upd H5 Da (.lst (vs ++ [v5]))) := ext_mut hv trivial
              exact ⟨ι5, S5.set S1.length (.lst (acc ++ [d])), e5T.trans em, s5.put (atD e5T) ⟨_, upd_same, RepL.ext em _ _ (hr.append (RepL.one r5))⟩ ⟨_, hv, trivial⟩, Po.mono em p'⟩
            | some (.dct _), p' => exact p'.elim
            | some (.st _), p' => exact p'.elim
            | some (.ins _ _), p' => exact p'.elim
            | some (.exn _), p' => exact p'.elim
            | none, p' => exact p'.elim
  · have e : i = J.xs.length := by omega
    subst e
    refine .inl ⟨hstop, ?_⟩
    rw [List.drop_length, lcL, if_pos hck] at p'
    exact Po.ret p' s' (by rw [Rep]; exact ⟨Da, rfl, atD e'⟩)
end
end Z
namespace Z
open PySem PySem.Spec PyProof.Rows L2
section
variable {K : PySem.W.Frag} {mg : Mg} {ι ι' ι'' : List Addr} {H H' : Hp}
theorem EnvR.start {N : List Str} {ds : List D} {vs : List V} (r : RepL K ι H ds vs) (hl : ds.length ≤ N.length) : EnvR K ι H (env0 N.length ds) (L2.start N vs) := by
  unfold env0 L2.start
  refine ⟨by simp [r.length], fun i d h => ?_⟩
  by_cases hi : i < ds.length
  · rw [List.getElem?_append_left (by simpa using hi), List.getElem?_map, List.getElem?_eq_getElem hi] at h
    simp only [Option.map_some, Option.some.injEq] at h
    obtain ⟨v, h1, h2⟩ := r.get (List.getElem?_eq_getElem hi)
    subst h
    refine ⟨v, ?_, h2⟩
    rw [List.getElem?_append_left (by rw [List.length_map, r.length]; exact hi), List.getElem?_map, h1]; rfl
  · rw [List.getElem?_append_right (by simpa using hi), List.getElem?_replicate] at h
    split at h <;> cases h
end
section
variable {P : Program} {w : World} {K : PySem.W.Frag} {mg : Mg} {base : Heap}
abbrev cx (P : Program) (w : World) (K : PySem.W.Frag) (mg : Mg) (base : Heap) (N : List Str) (qual : Str) (st : Stmt) (f : Addr) (cdv : Value) (A : Around) (outer : List PySem.Env) (s : Shared) (H : Hp) (E : XK) : Cx :=
  cxOf (L2.CX P w) P w K mg base N qual (defScope st) f cdv A outer s H E
abbrev wE (E : XK) : WX := fun cls d _ H => E cls d H
theorem gf_of {x : Str} {f : Addr} {fd : FuncData} {ps : List Str} {k : Nat} {F : Fn} (hm : mg x = some (.ref f)) (kp : PySem.W.keepIn K (.ref f) = true) (b : Binds K fd ps []) (h : FnOk P w K mg base (L2.CX P w) k f fd ps (spF K mg F)) : GF P w K mg base x k F := ⟨f, fd, ps, hm, kp, b, h⟩
end
section
variable {X : Cx} {W : WX} {pos : Pos}
theorem ge_lc {elt tg iter : Expr} {ifs : List Expr} {scope : Scope} (own : List (Str × Nat)) {it : SI} {g : SG} {sl : List Nat} {t : ST} {m : SE} (hc : X.calm = true) (hN : X.N.Nodup) (hi : GI X W tg iter it) (ok : BlkOk X.N X.env.scope scope own)
    (hg : ∀ (s : Shared) (H : Hp) (C : Addr) (cl : List (Str × Addr)) (fp : List Addr), GG (X.blk s H scope (compEnvC scope cl C X.env) fp) tg g sl)
    (ht : ∀ (s : Shared) (H : Hp) (C : Addr) (cl : List (Str × Addr)) (fp : List Addr), GTs (X.blk s H scope (compEnvC scope cl C X.env) fp) W0 ifs t)
    (he : ∀ (s : Shared) (H : Hp) (C : Addr) (cl : List (Str × Addr)) (fp : List Addr), GE (X.blk s H scope (compEnvC scope cl C X.env) fp) W0 elt m)
    (hsl : ∀ i ∈ sl, i ∈ own.map (·.2) := by decide) (hs : ∀ x, foldedSetIterable iter X.env x = pure x := by intro _; rfl) : GE X W (.ListComp elt [⟨tg, iter, ifs, 0⟩] scope pos) (eLc it g t m (own.map (·.2))) :=
  L2.PE.imp (pe_lc (g := tG X.K g sl) (tt := tT X.K X.mg W0 t) (te := tE X.K X.mg W0 m) hc hN hi ok hg ht he hs) fun σ H Q h => lc_read hsl h
/-- name = [..] on one line -/
theorem gs_setLc (i : Nat) {y : Str} {py : Pos} {elt tg iter : Expr} {ifs : List Expr} {scope : Scope} {spos : Pos} (own : List (Str × Nat)) {it : SI} {g : SG} {sl : List Nat} {t : ST} {m : SE} (hc : X.calm = true) (hN : X.N.Nodup) (hi : GI X W tg iter it) (ok : BlkOk X.N X.env.scope scope own)
    (hg : ∀ (s : Shared) (H : Hp) (C : Addr) (cl : List (Str × Addr)) (fp : List Addr), GG (X.blk s H scope (compEnvC scope cl C X.env) fp) tg g sl)
    (ht : ∀ (s : Shared) (H : Hp) (C : Addr) (cl : List (Str × Addr)) (fp : List Addr), GTs (X.blk s H scope (compEnvC scope cl C X.env) fp) W0 ifs t)
    (he : ∀ (s : Shared) (H : Hp) (C : Addr) (cl : List (Str × Addr)) (fp : List Addr), GE (X.blk s H scope (compEnvC scope cl C X.env) fp) W0 elt m)
    (hy : X.N[i]? = some y := by rfl) (hyl : X.env.scope.names.lookup y = some .local := by rfl)
    (hsw : swapsWith (.ListComp elt [⟨tg, iter, ifs, 0⟩] scope pos) (some (.Name y py)) spos.line X.env = pure true := by exact sw_true rfl rfl rfl (by decide +kernel))
    (hsl : ∀ i ∈ sl, i ∈ own.map (·.2) := by decide) (hs : ∀ x, foldedSetIterable iter X.env x = pure x := by intro _; rfl) : GS X W (.Assign [.Name y py] (.ListComp elt [⟨tg, iter, ifs, 0⟩] scope pos) spos) (sAsg (eLc it g t m (own.map (·.2))) (Z.gName i)) :=
  L2.PS.imp (ps_setLc (g := tG X.K g sl) (tt := tT X.K X.mg W0 t) (te := tE X.K X.mg W0 m) hc hN hy hyl hsw hi ok hg ht he hs) fun D σ H ⟨ι, ρ, S, s, r, p⟩ => by
    have h : tE X.K X.mg W (eLc it g t m (own.map (·.2))) σ H (fun x H1 => D.nx (σ.set i (some x)) H1) := ⟨ι, ρ, S, s, r, PoS.bo r p fun d S1 ι1 H1 x e1 s1 r1 r2 p1 => p1 ι1 H1 _ .refl s1 (r2.set r1)⟩
    exact lc_read hsl h
end
end Z
namespace Z
open PySem PySem.Spec PyProof.Rows L2
/-! ### data -/
mutual
def PD.py : PD → PyData
  | .non => .none
  | .bl b => .bool b
  | .int i => .int i
  | .str s => .str (Z.str s)
  | .lst xs => .list (pyL xs)
  | .tup xs => .tuple (pyL xs)
def pyL : List PD → List PyData
  | [] => []
  | x :: xs => PD.py x :: pyL xs
end
mutual
def PD.asc : PD → Prop
  | .str s => ∀ c ∈ s, c < 128
  | .lst xs => ascL xs
  | .tup xs => ascL xs
  | _ => True
def ascL : List PD → Prop
  | [] => True
  | x :: xs => PD.asc x ∧ ascL xs
end
theorem str_beq (a b : List Nat) : (Z.str a == Z.str b) = (a == b) := by
  by_cases h : a = b
  · subst h; simp
  · have h' : Z.str a ≠ Z.str b := fun e => h (by have := congrArg (fun z : Str => z.cps.toList) e; simpa using this)
    rw [beq_eq_false_iff_ne.mpr h, beq_eq_false_iff_ne.mpr h']
mutual
theorem py_eqv : ∀ x y : PD, PyData.eqv x.py y.py = x.eqv y
  | .non, y => by cases y <;> simp [PD.py, PyData.eqv, PD.eqv]
  | .bl a, y => by cases y <;> simp [PD.py, PyData.eqv, PD.eqv, b2i]
  | .int i, y => by cases y <;> simp [PD.py, PyData.eqv, PD.eqv, b2i]
  | .str s, y => by cases y <;> simp [PD.py, PyData.eqv, PD.eqv, str_beq]
  | .lst xs, y => by cases y <;> simp [PD.py, PyData.eqv, PD.eqv, py_eqvL xs]
  | .tup xs, y => by cases y <;> simp [PD.py, PyData.eqv, PD.eqv, py_eqvL xs]
theorem py_eqvL : ∀ xs ys : List PD, PyData.eqvAll (pyL xs) (pyL ys) = eqvL xs ys
  | [], ys => by cases ys <;> simp [pyL, PyData.eqvAll, eqvL]
  | x :: xs, ys => by cases ys <;> simp [pyL, PyData.eqvAll, eqvL, py_eqv x, py_eqvL xs]
end
mutual
theorem py_depth : ∀ x : PD, x.py.depth = x.dep
  | .non => rfl
  | .bl _ => rfl
  | .int _ => rfl
  | .str _ => rfl
  | .lst xs => by simp only [PD.py, PyData.depth, PD.dep, py_depthL xs]
  | .tup xs => by simp only [PD.py, PyData.depth, PD.dep, py_depthL xs]
theorem py_depthL : ∀ xs : List PD, PyData.depthAll (pyL xs) = depL xs
  | [] => rfl
  | x :: xs => by simp only [pyL, PyData.depthAll, depL, py_depth x, py_depthL xs]
end
mutual
theorem py_lay : ∀ x : PD, x.asc → x.py.canLay0 = true
  | .non, _ => rfl
  | .bl _, _ => rfl
  | .int _, _ => rfl
  | .str s, h => by
    rw [PD.asc] at h
    rw [PD.py, PyData.canLay0]
    unfold PyData.strOk
    rw [Array.all_eq_true']
    intro c hc
    exact decide_eq_true (Nat.lt_trans (h c (by simpa using hc)) (by decide))
  | .lst xs, h => by rw [PD.asc] at h; rw [PD.py, PyData.canLay0]; exact py_layL xs h
  | .tup xs, h => by rw [PD.asc] at h; rw [PD.py, PyData.canLay0]; exact py_layL xs h
theorem py_layL : ∀ xs : List PD, ascL xs → PyData.canLayAll0 (pyL xs) = true
  | [], _ => rfl
  | x :: xs, h => by rw [ascL] at h; rw [pyL, PyData.canLayAll0, py_lay x h.1, py_layL xs h.2]; rfl
end
theorem py_shaped {x : PD} (h : x.asc) (d : x.dep ≤ 64) : SeqAt.shaped x.py = true := by
  unfold SeqAt.shaped
  rw [py_lay x h, py_depth]
  simpa using d
theorem pyL_map : ∀ xs : List PD, pyL xs = xs.map PD.py
  | [] => rfl
  | x :: xs => by simp [pyL, pyL_map xs]
section
variable {K : PySem.W.Frag} {ι : List Addr} {H : Hp}
mutual
theorem pd_ok {g : Nat → Option PD} (hg : ∀ n y a, g n = some y → ι[n]? = some a → Dp K H (.ref a) y.py ∧ y.asc) : ∀ (d : D) (v : V) (x : PD), Rep K ι H d v → d.pd g = some x → Dp K H v x.py ∧ x.asc
  | .non, v, x, r, h => by rw [Rep] at r; rw [D.pd] at h; cases h; subst r; exact ⟨.non, trivial⟩
  | .bl b, v, x, r, h => by rw [Rep] at r; rw [D.pd] at h; cases h; subst r; exact ⟨.bl b, trivial⟩
  | .int i, v, x, r, h => by rw [Rep] at r; rw [D.pd] at h; cases h; subst r; exact ⟨.int i, trivial⟩
  | .str s, v, x, r, h => by rw [Rep] at r; rw [D.pd] at h; cases h; obtain ⟨rfl, r⟩ := r; exact ⟨.str _, r⟩
  | .tup xs, v, x, r, h => by
    rw [Rep] at r
    rw [D.pd] at h
    obtain ⟨a, vs, rfl, r1, r2⟩ := r
    obtain ⟨ys, h1, rfl⟩ := Option.map_eq_some_iff.mp h
    obtain ⟨q1, q2⟩ := pdL_ok hg xs vs ys r2 h1
    exact ⟨.tup (SqT.of r1) q1, q2⟩
  | .fl xs, v, x, r, h => by
    rw [Rep] at r
    rw [D.pd] at h
    obtain ⟨a, vs, rfl, r1, r2⟩ := r
    obtain ⟨ys, h1, rfl⟩ := Option.map_eq_some_iff.mp h
    obtain ⟨q1, q2⟩ := pdL_ok hg xs vs ys r2 h1
    exact ⟨.lst r1.seq q1, q2⟩
  | .ref n, v, x, r, h => by
    rw [Rep] at r
    rw [D.pd] at h
    obtain ⟨a, rfl, r1⟩ := r
    exact hg n x a h r1
theorem pdL_ok {g : Nat → Option PD} (hg : ∀ n y a, g n = some y → ι[n]? = some a → Dp K H (.ref a) y.py ∧ y.asc) : ∀ (ds : List D) (vs : List V) (xs : List PD), RepL K ι H ds vs → pdL g ds = some xs → DpAll K H vs (pyL xs) ∧ ascL xs
  | [], vs, xs, r, h => by rw [RepL] at r; rw [pdL] at h; cases h; subst r; exact ⟨.nil, trivial⟩
  | d :: ds, vs, xs, r, h => by
    rw [RepL] at r
    rw [pdL] at h
    obtain ⟨v, t, rfl, r1, r2⟩ := r
    match g1 : d.pd g, g2 : pdL g ds, h with
    | some y, some ys, h =>
      cases h
      obtain ⟨a1, a2⟩ := pd_ok hg d v y r1 g1
      obtain ⟨b1, b2⟩ := pdL_ok hg ds t ys r2 g2
      exact ⟨.cons a1 b1, a2, b2⟩
end
theorem rdR_ok {S : Store} (s : Sim K ι S H) : ∀ (n : Nat) (r : Nat) (y : PD) (a : Addr), rdR n S r = some y → ι[r]? = some a → Dp K H (.ref a) y.py ∧ y.asc
  | 0, _, _, _, h, _ => by cases h
  | n + 1, r, y, a, h, ha => by
    unfold rdR at h
    match g : S[r]?, h with
    | some (.lst xs), h =>
      obtain ⟨ys, h1, rfl⟩ := Option.map_eq_some_iff.mp h
      obtain ⟨vs, e1, e2⟩ := s.get ha g
      obtain ⟨q1, q2⟩ := pdL_ok (rdR_ok s n) xs vs ys e2 h1
      exact ⟨.lst (SqL.of e1) q1, q2⟩
theorem dat_ok {S : Store} (s : Sim K ι S H) {d : D} {v : V} {x : PD} (r : Rep K ι H d v) (h : dat S d = some x) : Dp K H v x.py ∧ x.asc := pd_ok (rdR_ok s 70) d v x r h
theorem seq_ok {S : Store} (s : Sim K ι S H) {d : D} {v : V} {xs : List D} (r : Rep K ι H d v) (h : seqOf S d = some xs) : ∃ a vs, v = .ref a ∧ (SqL K H a vs ∨ H a = some (.tup vs)) ∧ RepL K ι H xs vs := by
  cases d with
  | tup ys => rw [Rep] at r; obtain ⟨a, vs, rfl, r1, r2⟩ := r; cases h; exact ⟨a, vs, rfl, .inr r1, r2⟩
  | fl ys => rw [Rep] at r; obtain ⟨a, vs, rfl, r1, r2⟩ := r; cases h; exact ⟨a, vs, rfl, .inl r1.seq, r2⟩
  | ref n =>
    rw [Rep] at r
    obtain ⟨a, rfl, r1⟩ := r
    unfold seqOf at h
    dsimp only at h
    split at h
    · rename_i g
      cases h
      obtain ⟨vs, e1, e2⟩ := s.get r1 g
      exact ⟨a, vs, rfl, .inl (SqL.of e1), e2⟩
    · cases h
  | _ => cases h
theorem lst_ok {S : Store} (s : Sim K ι S H) {n : Nat} {v : V} {xs : List D} (r : Rep K ι H (.ref n) v) (h : S[n]? = some (.lst xs)) : ∃ a vs, v = .ref a ∧ ι[n]? = some a ∧ H a = some (.lst vs) ∧ RepL K ι H xs vs := by
  rw [Rep] at r
  obtain ⟨a, rfl, r1⟩ := r
  obtain ⟨vs, e1, e2⟩ := s.get r1 h
  exact ⟨a, vs, rfl, r1, e1, e2⟩
theorem Rep.str {s : List Nat} {v : V} (r : Rep K ι H (.str s) v) : v = .str (Z.str s) ∧ ∀ c ∈ s, c < 128 := by rw [Rep] at r; exact r
theorem RepL.nil {vs : List V} (r : RepL K ι H [] vs) : vs = [] := by rw [RepL] at r; exact r
theorem RepL.cons {d : D} {ds : List D} {vs : List V} (r : RepL K ι H (d :: ds) vs) : ∃ v r, vs = v :: r ∧ Rep K ι H d v ∧ RepL K ι H ds r := by rw [RepL] at r; exact r
theorem RepL.set {v : V} {d : D} (q : Rep K ι H d v) : ∀ {ds : List D} {vs : List V} (i : Nat), RepL K ι H ds vs → RepL K ι H (ds.set i d) (vs.set i v)
  | [], vs, i, r => by rw [r.nil]; simp [RepL]
  | x :: xs, vs, i, r => by
    obtain ⟨u, t, rfl, r1, r2⟩ := r.cons
    cases i with
    | zero => rw [List.set_cons_zero, List.set_cons_zero, RepL]; exact ⟨v, t, rfl, q, r2⟩
    | succ i => rw [List.set_cons_succ, List.set_cons_succ, RepL]; exact ⟨u, _, rfl, r1, RepL.set q i r2⟩
theorem RepL.sub {ds ds' : List D} {vs vs' : List V} (r : RepL K ι H ds vs) (hl : ds'.length = vs'.length) (h : ∀ (i : Nat) (d : D) (v : V), ds'[i]? = some d → vs'[i]? = some v → ∃ j : Nat, ds[j]? = some d ∧ vs[j]? = some v) : RepL K ι H ds' vs' :=
  .of_get hl.symm fun i d v h1 h2 => by
    obtain ⟨j, a, b⟩ := h i d v h1 h2
    obtain ⟨u, c, e⟩ := r.get a
    rw [b] at c; cases c
    exact e
theorem RepL.drop {ds : List D} {vs : List V} (r : RepL K ι H ds vs) (n : Nat) : RepL K ι H (ds.drop n) (vs.drop n) := r.sub (by simp [r.length]) fun i d v h1 h2 => ⟨n + i, by simpa using h1, by simpa using h2⟩
theorem RepL.take {ds : List D} {vs : List V} (r : RepL K ι H ds vs) (n : Nat) : RepL K ι H (ds.take n) (vs.take n) := r.sub (by simp [r.length]) fun i d v h1 h2 => by
  rw [List.getElem?_take] at h1 h2
  by_cases hi : i < n
  · exact ⟨i, by simpa [hi] using h1, by simpa [hi] using h2⟩
  · simp [hi] at h1
theorem RepL.eraseIdx {ds : List D} {vs : List V} (r : RepL K ι H ds vs) (n : Nat) : RepL K ι H (ds.eraseIdx n) (vs.eraseIdx n) := r.sub (by simp [List.length_eraseIdx, r.length]) fun i d v h1 h2 => by
  rw [List.getElem?_eraseIdx] at h1 h2
  by_cases hi : i < n
  · exact ⟨i, by simpa [hi] using h1, by simpa [hi] using h2⟩
  · exact ⟨i + 1, by simpa [hi] using h1, by simpa [hi] using h2⟩
theorem RepL.flat {ds : List D} {vs : List V} (r : RepL K ι H ds vs) : ∀ n : Nat, RepL K ι H (List.replicate n ds).flatten (List.replicate n vs).flatten
  | 0 => by simp [RepL]
  | n + 1 => by simp only [List.replicate_succ, List.flatten_cons]; exact r.append (RepL.flat r n)
theorem RepL.cut {ds : List D} {vs : List V} (r : RepL K ι H ds vs) (lo hi : Option Int) : RepL K ι H (Z.cut ds lo hi) (cutV vs lo hi) := by
  unfold Z.cut cutV
  have e : ∀ n d o, Z.sIx n d o = HT.sIx n d o := fun n d o => by cases o <;> rfl
  rw [e, e, r.length]
  exact (r.drop _).take _
end
/-! ### operators -/
section
variable {X : Cx}
theorem no_add : NoEx addD := by
  intro d e S c S'
  unfold addD
  split <;> (try split) <;> (try split) <;> simp [new1]
theorem zo_add : OpR X (binaryOp .Add) (r2 X addD) := by
  intro pins s σ H x y v u Q I rx ry ⟨ι, S, d, e, sm, rd, re, po⟩
  cases d <;> cases e <;> first
    | exact False.elim po
    | skip
  case int.int i j =>
    rw [Rep] at rd re
    exact op_add pins s σ H _ _ v u Q I rx ry ⟨i, j, rd, re, Po.ret po sm (by rw [Rep])⟩
  case str.str a b =>
    obtain ⟨rfl, h1⟩ := rd.str
    obtain ⟨rfl, h2⟩ := re.str
    dsimp only [addD] at po
    by_cases hl : a.length + b.length ≤ LINE
    · rw [if_pos hl] at po
      refine op_add_str pins s σ H _ _ v u Q I rx ry ⟨_, _, rfl, rfl, by rw [LINE_eq] at hl; simpa [Str.length, sizeLine] using hl, Po.ret po sm ?_⟩
      rw [Rep]
      refine ⟨?_, fun c hc => (List.mem_append.mp hc).elim (h1 c) (h2 c)⟩
      show V.str (⟨a.toArray ++ b.toArray⟩ : Str) = _
      simp
    · rw [if_neg hl] at po; exact po.elim
  case tup.tup a b =>
    rw [Rep] at rd re
    obtain ⟨p, vs, rfl, h1, h2⟩ := rd
    obtain ⟨q, ws, rfl, h3, h4⟩ := re
    dsimp only [addD] at po
    by_cases hl : a.length + b.length ≤ LINE
    · rw [if_pos hl] at po
      refine op_catA pins s σ H _ _ v u Q I rx ry ⟨p, q, vs, ws, rfl, rfl, SqT.of h1, SqT.of h3, by rw [h2.length, h4.length]; rw [LINE_eq] at hl; exact hl, fun e => ?_, fun _ e => ?_, fun _ _ t ht => ?_⟩
      · subst e
        have : a = [] := List.eq_nil_of_length_eq_zero (by rw [← h2.length]; rfl)
        subst this
        exact Po.ret po sm (by rw [Rep]; exact ⟨q, ws, rfl, h3, by simpa using h4⟩)
      · subst e
        have : b = [] := List.eq_nil_of_length_eq_zero (by rw [← h4.length]; rfl)
        subst this
        exact Po.ret po sm (by rw [Rep]; exact ⟨p, vs, rfl, h1, by simpa using h2⟩)
      · have ex := ext_tup (ι := ι) (o := .tup (vs ++ ws)) ht
        exact Po.ret (Po.mono ex po) (sm.tup ht) (by rw [Rep]; exact ⟨t, _, rfl, upd_same, RepL.ext ex _ _ (h2.append h4)⟩)
    · rw [if_neg hl] at po; exact po.elim
  case ref.ref m n =>
    dsimp only [addD] at po
    match g1 : S[m]?, g2 : S[n]?, po with
    | some (.lst a), some (.lst b), po =>
      obtain ⟨p, vs, rfl, i1, e1, r1⟩ := lst_ok sm rd g1
      obtain ⟨q, ws, rfl, i2, e2, r2⟩ := lst_ok sm re g2
      dsimp only at po
      by_cases hl : a.length + b.length ≤ LINE
      · rw [if_pos hl] at po
        refine op_cat pins s σ H _ _ v u Q I rx ry ⟨p, q, vs, ws, rfl, rfl, e1, e2, by rw [r1.length, r2.length]; rw [LINE_eq] at hl; exact hl, fun t ht => ?_⟩
        exact Po.ret (Po.mono (ext_new (t := [t]) (o := .lst (vs ++ ws)) ht) po) (sm.newL ht (r1.append r2)) (Rep.newL sm)
      · rw [if_neg hl] at po; exact po.elim
theorem no_sub : NoEx subD := by intro d e S c S'; unfold subD; split <;> simp
theorem zo_sub : OpR X (binaryOp .Sub) (r2 X subD) := by
  intro pins s σ H x y v u Q I rx ry ⟨ι, S, d, e, sm, rd, re, po⟩
  cases d <;> cases e <;> first
    | exact False.elim po
    | skip
  case int.int i j =>
    rw [Rep] at rd re
    exact op_sub pins s σ H _ _ v u Q I rx ry ⟨i, j, rd, re, Po.ret po sm (by rw [Rep])⟩
theorem no_mul : NoEx mulD := by
  intro d e S c S'
  unfold mulD
  split <;> (try split) <;> (try split) <;> simp [new1]
theorem zo_mul : OpR X (binaryOp .Mult) (r2 X mulD) := by
  intro pins s σ H x y v u Q I rx ry ⟨ι, S, d, e, sm, rd, re, po⟩
  cases d <;> cases e <;> first
    | exact False.elim po
    | skip
  case int.int i j =>
    rw [Rep] at rd re
    dsimp only [mulD] at po
    by_cases hc : (small i ∨ small j) ∨ i.natAbs.log2 + j.natAbs.log2 < 1000000
    · rw [if_pos hc] at po
      have q := Po.ret (x := V.int (i * j)) po sm (by rw [Rep])
      rcases hc with hc | hc
      · exact op_mul pins s σ H _ _ v u Q I rx ry ⟨i, j, rd, re, by rw [small_iff, small_iff] at hc; exact hc, q⟩
      · exact op_mulW pins s σ H _ _ v u Q I rx ry ⟨i, j, rd, re, hc, q⟩
    · rw [if_neg hc] at po; exact po.elim
  case ref.int m k =>
    dsimp only [mulD] at po
    match g1 : S[m]?, po with
    | some (.lst a), po =>
      obtain ⟨p, vs, rfl, i1, e1, r1⟩ := lst_ok sm rd g1
      rw [Rep] at re
      dsimp only at po
      by_cases hl : -9223372036854775808 ≤ k ∧ k < 9223372036854775808 ∧ a.length * k.toNat ≤ LINE
      · rw [if_pos hl] at po
        refine op_rep pins s σ H _ _ v u Q I rx ry ⟨p, k, vs, rfl, re, e1, hl.1, hl.2.1, by rw [r1.length]; have := hl.2.2; rw [LINE_eq] at this; exact this, fun t ht => ?_⟩
        exact Po.ret (Po.mono (ext_new (t := [t]) (o := .lst (List.replicate k.toNat vs).flatten) ht) po) (sm.newL ht (r1.flat _)) (Rep.newL sm)
      · rw [if_neg hl] at po; exact po.elim
  case tup.int a k =>
    dsimp only [mulD] at po
    rw [Rep] at rd
    rw [Rep] at re
    obtain ⟨p, vs, rfl, h1, h2⟩ := rd
    by_cases hc : 0 < a.length ∧ a.length ≤ 1000 ∧ 2 ≤ k ∧ k ≤ 1000
    · rw [if_pos hc] at po
      refine op_repT pins s σ H _ _ v u Q I rx ry ⟨p, k, vs, rfl, re, SqT.of h1, fun e => by rw [← h2.length, e] at hc; exact absurd hc.1 (by decide), hc.2.2.1, hc.2.2.2, by rw [h2.length]; exact hc.2.1, fun t ht => ?_⟩
      have ex := ext_tup (ι := ι) (o := .tup (List.replicate k.toNat vs).flatten) ht
      exact Po.ret (Po.mono ex po) (sm.tup ht) (by rw [Rep]; exact ⟨t, _, rfl, upd_same, RepL.ext ex _ _ (h2.flat _)⟩)
    · rw [if_neg hc] at po; exact po.elim
theorem no_fdiv : NoEx fdivD := by intro d e S c S'; unfold fdivD; split <;> (try split) <;> simp
theorem zo_fdiv : OpR X (binaryOp .FloorDiv) (r2 X fdivD) := by
  intro pins s σ H x y v u Q I rx ry ⟨ι, S, d, e, sm, rd, re, po⟩
  cases d <;> cases e <;> first
    | exact False.elim po
    | skip
  case int.int i j =>
    rw [Rep] at rd re
    dsimp only [fdivD] at po
    by_cases hc : 0 < j ∧ j.natAbs.log2 < 9000
    · rw [if_pos hc] at po
      exact op_fdivW pins s σ H _ _ v u Q I rx ry ⟨i, j, rd, re, hc, Po.ret po sm (by rw [Rep])⟩
    · rw [if_neg hc] at po; exact po.elim
theorem no_mod : NoEx modD := by intro d e S c S'; unfold modD; split <;> (try split) <;> simp
theorem zo_mod : OpR X (binaryOp .Mod) (r2 X modD) := by
  intro pins s σ H x y v u Q I rx ry ⟨ι, S, d, e, sm, rd, re, po⟩
  cases d <;> cases e <;> first
    | exact False.elim po
    | skip
  case int.int i j =>
    rw [Rep] at rd re
    dsimp only [modD] at po
    by_cases hc : 0 < j
    · rw [if_pos hc] at po
      exact op_mod pins s σ H _ _ v u Q I rx ry ⟨i, j, rd, re, hc, Po.ret po sm (by rw [Rep])⟩
    · rw [if_neg hc] at po; exact po.elim
theorem no_pow : NoEx powD := by intro d e S c S'; unfold powD; split <;> (try split) <;> simp
theorem zo_pow : OpR X (binaryOp .Pow) (r2 X powD) := by
  intro pins s σ H x y v u Q I rx ry ⟨ι, S, d, e, sm, rd, re, po⟩
  cases d <;> cases e <;> first
    | exact False.elim po
    | skip
  case int.int i j =>
    rw [Rep] at rd re
    dsimp only [powD] at po
    by_cases hc : 0 ≤ j ∧ j ≤ 1000000 ∧ small i
    · rw [if_pos hc] at po
      have h3 := hc.2.2
      rw [small_iff] at h3
      exact op_pow pins s σ H _ _ v u Q I rx ry ⟨i, j, rd, re, ⟨hc.1, hc.2.1, by omega⟩, Po.ret po sm (by rw [Rep])⟩
    · rw [if_neg hc] at po; exact po.elim
theorem no_neg : ∀ d S c S', negD d S ≠ some (.ex c S') := by intro d S c S'; unfold negD; split <;> simp
theorem zo_neg : UnR X (unaryOp .USub) (fun x H Q => ∃ ι S d, Sim X.K ι S H ∧ Rep X.K ι H d x ∧ Po (Rep X.K) X.K X.mg ι H Q (fun _ _ _ => False) (negD d S)) := by
  intro pins s σ H x v Q I rx ⟨ι, S, d, sm, rd, po⟩
  cases d <;> first
    | exact False.elim po
    | skip
  case int i =>
    rw [Rep] at rd
    exact un_neg pins s σ H _ v Q I rx ⟨i, rd, Po.ret po sm (by rw [Rep])⟩
theorem zo_cmp {op : CmpOp} {f : D → D → Store → M D} {p : Int → Int → Bool} (hop : OpR X (compareOp op) (rI0 fun i j => .bl (p i j))) (h : ∀ i j S, f (.int i) (.int j) S = some (.ok (.bl (p i j)) S))
    (h' : ∀ d e S, f d e S ≠ none → ∃ i j, d = .int i ∧ e = .int j) : OpR X (compareOp op) (r2 X f) := by
  intro pins s σ H x y v u Q I rx ry ⟨ι, S, d, e, sm, rd, re, po⟩
  obtain ⟨i, j, rfl, rfl⟩ := h' d e S fun z => by rw [z] at po; exact po
  rw [h] at po
  rw [Rep] at rd re
  exact hop pins s σ H _ _ v u Q I rx ry ⟨i, j, rd, re, Po.ret po sm (by rw [Rep])⟩
theorem no_lt : NoEx ltD := by intro d e S c S'; unfold ltD; split <;> simp
theorem no_le : NoEx leD := by intro d e S c S'; unfold leD; split <;> simp
theorem no_gt : NoEx gtD := by intro d e S c S'; unfold gtD; split <;> simp
theorem no_ge : NoEx geD := by intro d e S c S'; unfold geD; split <;> simp
theorem zo_lt : OpR X (compareOp .Lt) (r2 X ltD) := zo_cmp op_lt (fun _ _ _ => rfl) fun d e S h => by cases d <;> cases e <;> first | exact absurd rfl h | exact ⟨_, _, rfl, rfl⟩
theorem zo_le : OpR X (compareOp .LtE) (r2 X leD) := zo_cmp op_le (fun _ _ _ => rfl) fun d e S h => by cases d <;> cases e <;> first | exact absurd rfl h | exact ⟨_, _, rfl, rfl⟩
theorem zo_gt : OpR X (compareOp .Gt) (r2 X gtD) := zo_cmp op_gt (fun _ _ _ => rfl) fun d e S h => by cases d <;> cases e <;> first | exact absurd rfl h | exact ⟨_, _, rfl, rfl⟩
theorem zo_ge : OpR X (compareOp .GtE) (r2 X geD) := zo_cmp op_ge (fun _ _ _ => rfl) fun d e S h => by cases d <;> cases e <;> first | exact absurd rfl h | exact ⟨_, _, rfl, rfl⟩
theorem no_eq : NoEx eqD := by intro d e S c S'; unfold eqD; split <;> (try split) <;> simp
theorem no_ne : NoEx neD := by intro d e S c S'; unfold neD; split <;> (try split) <;> simp
theorem zo_eq (hu : X.A.units + 64 < cLine) : OpR X (compareOp .Eq) (r2 X eqD) := by
  intro pins s σ H x y v u Q I rx ry ⟨ι, S, d, e, sm, rd, re, po⟩
  unfold eqD at po
  match g1 : dat S d, g2 : dat S e, po with
  | some a, some b, po =>
    dsimp only at po
    by_cases hc : a.dep ≤ 64 ∧ b.dep ≤ 64
    · rw [if_pos hc] at po
      obtain ⟨q1, q2⟩ := dat_ok sm rd g1
      obtain ⟨q3, q4⟩ := dat_ok sm re g2
      refine op_eqD hu pins s σ H _ _ v u Q I rx ry ⟨_, _, q1, q3, py_shaped q2 hc.1, py_shaped q4 hc.2, ?_⟩
      rw [py_eqv]
      exact Po.ret po sm (by rw [Rep])
    · rw [if_neg hc] at po; exact po.elim
theorem zo_ne (hu : X.A.units + 64 < cLine) : OpR X (compareOp .NotEq) (r2 X neD) := by
  intro pins s σ H x y v u Q I rx ry ⟨ι, S, d, e, sm, rd, re, po⟩
  unfold neD at po
  match g1 : dat S d, g2 : dat S e, po with
  | some a, some b, po =>
    dsimp only at po
    by_cases hc : a.dep ≤ 64 ∧ b.dep ≤ 64
    · rw [if_pos hc] at po
      obtain ⟨q1, q2⟩ := dat_ok sm rd g1
      obtain ⟨q3, q4⟩ := dat_ok sm re g2
      refine op_neD hu pins s σ H _ _ v u Q I rx ry ⟨_, _, q1, q3, py_shaped q2 hc.1, py_shaped q4 hc.2, ?_⟩
      rw [py_eqv]
      exact Po.ret po sm (by rw [Rep])
    · rw [if_neg hc] at po; exact po.elim
theorem rep_isNon {K : PySem.W.Frag} {ι : List Addr} {H : Hp} {d : D} {v : V} (r : Rep K ι H d v) : decide (v = .non) = isNonB d := by
  cases d with
  | non => rw [Rep] at r; subst r; rfl
  | bl _ => rw [Rep] at r; subst r; rfl
  | int _ => rw [Rep] at r; subst r; rfl
  | str _ => rw [Rep] at r; obtain ⟨rfl, _⟩ := r; rfl
  | tup _ => rw [Rep] at r; obtain ⟨_, _, rfl, _⟩ := r; rfl
  | ref _ => rw [Rep] at r; obtain ⟨_, rfl, _⟩ := r; rfl
  | fl _ => rw [Rep] at r; obtain ⟨_, _, rfl, _⟩ := r; rfl
theorem no_is : NoEx isD := by intro d e S c S'; unfold isD; split <;> simp
theorem no_isnt : NoEx isntD := by intro d e S c S'; unfold isntD; split <;> simp
theorem zo_is : OpR X (compareOp .Is) (r2 X isD) := by
  intro pins s σ H x y v u Q I rx ry ⟨ι, S, d, e, sm, rd, re, po⟩
  unfold isD at po
  split at po
  · rw [Rep] at re
    exact op_isN pins s σ H _ _ v u Q I rx ry ⟨re, by rw [rep_isNon rd]; exact Po.ret po sm (by rw [Rep])⟩
  · rename_i a b
    rw [Rep] at rd re
    refine op_isBl pins s σ H _ _ v u Q I rx ry ⟨a, b, rd, re, ?_⟩
    exact Po.ret po sm (by rw [Rep, Bool.beq_eq_decide_eq])
  · exact po.elim
theorem zo_isnt : OpR X (compareOp .IsNot) (r2 X isntD) := by
  intro pins s σ H x y v u Q I rx ry ⟨ι, S, d, e, sm, rd, re, po⟩
  unfold isntD at po
  split at po
  · rw [Rep] at re
    exact op_notN pins s σ H _ _ v u Q I rx ry ⟨re, by rw [rep_isNon rd]; exact Po.ret po sm (by rw [Rep])⟩
  · rename_i a b
    rw [Rep] at rd re
    refine op_notBl pins s σ H _ _ v u Q I rx ry ⟨a, b, rd, re, ?_⟩
    exact Po.ret po sm (by rw [Rep, Bool.beq_eq_decide_eq])
  · exact po.elim
theorem no_in : NoEx inD := by intro d e S c S'; unfold inD; split <;> simp
theorem no_nin : NoEx ninD := by intro d e S c S'; unfold ninD; split <;> simp
theorem inB_cases {x c : D} {S : Store} {b : Bool} (h : inB x c S = some b) : (∃ k z, x = .str [k] ∧ c = .str z ∧ b = decide (k ∈ z)) ∨
    (∃ n y ys, c = .ref n ∧ dat S x = some y ∧ dat S (.ref n) = some (.lst ys) ∧ y.dep ≤ 64 ∧ (PD.lst ys).dep ≤ 64 ∧ b = ys.any fun z => z.eqv y) := by
  unfold inB at h
  split at h
  · split at h
    · cases h; exact .inl ⟨_, _, rfl, rfl, rfl⟩
    · cases h
  · split at h
    · split at h
      · cases h; rename_i hc; exact .inr ⟨_, _, _, rfl, by assumption, by assumption, hc.1, hc.2, rfl⟩
      · cases h
    · cases h
  · cases h
theorem any_py (ys : List PD) (y : PD) : ((pyL ys).any fun z => PyData.eqv z y.py) = ys.any fun z => z.eqv y := by
  rw [pyL_map, List.any_map]
  congr 1
  funext z
  exact py_eqv z y
theorem zo_in (hu : X.A.units + 65 < cLine) : OpR X (compareOp .In) (r2 X inD) := by
  intro pins s σ H x y v u Q I rx ry ⟨ι, S, d, e, sm, rd, re, po⟩
  unfold inD at po
  cases g : inB d e S with
  | none => rw [g] at po; exact po.elim
  | some b =>
    rw [g] at po
    have q := Po.ret (x := V.bl b) po sm (by rw [Rep])
    rcases inB_cases g with ⟨k, z, rfl, rfl, rfl⟩ | ⟨n, y, ys, rfl, h1, h2, h3, h4, rfl⟩
    · obtain ⟨rfl, _⟩ := rd.str
      obtain ⟨rfl, _⟩ := re.str
      exact op_in_sign pins s σ H _ _ v u Q I rx ry ⟨k, Z.str z, rfl, rfl, by simpa using q⟩
    · obtain ⟨q1, q2⟩ := dat_ok sm rd h1
      obtain ⟨q3, q4⟩ := dat_ok sm re h2
      refine op_inD hu pins s σ H _ _ v u Q I rx ry ⟨_, _, q1, q3, py_shaped q2 h3, py_shaped q4 h4, ?_⟩
      rw [any_py]
      exact q
theorem zo_nin (hu : X.A.units + 65 < cLine) : OpR X (compareOp .NotIn) (r2 X ninD) := by
  intro pins s σ H x y v u Q I rx ry ⟨ι, S, d, e, sm, rd, re, po⟩
  unfold ninD at po
  cases g : inB d e S with
  | none => rw [g] at po; exact po.elim
  | some b =>
    rw [g] at po
    have q := Po.ret (x := V.bl (!b)) po sm (by rw [Rep])
    rcases inB_cases g with ⟨k, z, rfl, rfl, rfl⟩ | ⟨n, y, ys, rfl, h1, h2, h3, h4, rfl⟩
    · obtain ⟨rfl, _⟩ := rd.str
      obtain ⟨rfl, _⟩ := re.str
      exact op_notIn_sign pins s σ H _ _ v u Q I rx ry ⟨k, Z.str z, rfl, rfl, by simpa using q⟩
    · obtain ⟨q1, q2⟩ := dat_ok sm rd h1
      obtain ⟨q3, q4⟩ := dat_ok sm re h2
      refine op_notInD hu pins s σ H _ _ v u Q I rx ry ⟨_, _, q1, q3, py_shaped q2 h3, py_shaped q4 h4, ?_⟩
      rw [any_py]
      exact q
end
end Z
namespace Z
open PySem PySem.Spec PyProof.Rows L2
section
variable {X : Cx} {W : WX} {a b c e : Expr} {ma mb mc : SE} {pos : Pos}
/-! ### subscripts, slices -/
theorem atI_eq {α : Type} (xs : List α) (i : Int) : L2.atI xs i = Z.atI xs i := rfl
theorem no_ix : NoEx ixD := by
  intro d e S c S'
  unfold ixD
  split <;> (try split) <;> (try split) <;> (try split) <;> (try split) <;> simp
theorem RepL.atI {K : PySem.W.Frag} {ι : List Addr} {H : Hp} {ds : List D} {vs : List V} {i : Int} {d : D} (r : RepL K ι H ds vs) (h : Z.atI ds i = some d) : ∃ v, L2.atI vs i = some v ∧ Rep K ι H d v := by
  unfold Z.atI at h
  obtain ⟨j, h1, h2⟩ := Option.bind_eq_some_iff.mp h
  obtain ⟨v, h3, h4⟩ := r.get h2
  refine ⟨v, ?_, h4⟩
  unfold L2.atI
  rw [r.length]
  show (Z.ixN ds.length i).bind _ = _
  rw [h1]
  exact h3
theorem zx_ix : IxR X (r2 X ixD) := by
  intro value slice pins s σ H x y v u Q I rx ry ⟨ι, S, d, e, sm, rd, re, po⟩ hs
  unfold ixD at po
  split at po
  · rename_i i
    rw [Rep] at re
    split at po
    · rename_i z
      split at po
      · rename_i hl
        split at po
        · rename_i c hc
          obtain ⟨rfl, h2⟩ := rd.str
          have hm : c ∈ z := by
            unfold Z.atI at hc
            obtain ⟨j, _, q⟩ := Option.bind_eq_some_iff.mp hc
            exact List.mem_of_getElem? q
          exact ix_str value slice pins s σ H _ _ v u Q I rx ry ⟨_, i, c, rfl, re, by rw [LINE_eq] at hl; simpa [Str.length, sizeLine] using hl, by simpa [atI_eq] using hc, Po.ret po sm (by rw [Rep]; exact ⟨rfl, fun k hk => by simp at hk; subst hk; exact h2 _ hm⟩)⟩ hs
        · exact po.elim
      · exact po.elim
    · split at po
      · rename_i xs hx
        split at po
        · rename_i w hw
          obtain ⟨p, vs, rfl, h1, h2⟩ := seq_ok sm rd hx
          obtain ⟨t, h3, h4⟩ := h2.atI hw
          rcases h1 with h1 | h1
          · exact ix_list value slice pins s σ H _ _ v u Q I rx ry ⟨p, vs, i, t, rfl, re, h1, h3, Po.ret po sm h4⟩ hs
          · exact ix_tup value slice pins s σ H _ _ v u Q I rx ry ⟨p, vs, i, t, rfl, re, SqT.of h1, h3, Po.ret po sm h4⟩ hs
        · exact po.elim
      · exact po.elim
  · exact po.elim
theorem ge_ix (ha : GE X W a ma) (hb : GE X W b mb) (hs : PlainIx b := by exact fun _ _ => rfl) : GE X W (.Subscript a b pos) (e2 ixD ma mb) := (pe_ix zx_ix ha hb hs).imp fun σ H Q h => e2_read no_ix h
/-- a slice's part -/
def prt : Option SE → Env → Store → M (Option Int)
  | none, _, S => some (.ok none S)
  | some m, ρ, S => Z.bd (m ρ S) fun x S2 => match x with | .int i => some (.ok (some i) S2) | _ => none
def tO (K : PySem.W.Frag) (mg : Mg) (W : WX) (o : Option SE) : TO := fun σ H Q => ∃ ι ρ S, Sim K ι S H ∧ EnvR K ι H ρ σ ∧ Po (fun _ _ a b => b = a) K mg ι H Q (fun cls d H' => W cls d σ H') (prt o ρ S)
def GO (X : Cx) (W : WX) (e : Option Expr) (o : Option SE) : Prop := PO X e (tO X.K X.mg W o)
theorem go_none : GO X W none none := ⟨fun pins s σ H Q I ⟨ι, ρ, S, sm, r, p⟩ => (po_none (X := X)).run pins s σ H Q I (Po.ret p sm rfl)⟩
theorem go_some (h : GE X W e ma) : GO X W (some e) (some ma) := ⟨fun pins s σ H Q I ⟨ι, ρ, S, sm, r, p⟩ => (po_some h).run pins s σ H Q I ⟨ι, ρ, S, sm, r, Po.bd p fun d S1 ι1 H1 x e1 s1 r1 p1 => by
  cases d with
  | int i => rw [Rep] at r1; exact ⟨i, r1, Po.ret p1 s1 rfl⟩
  | _ => exact p1.elim⟩⟩
theorem zs_sl : SlR X (fun x lo hi H Q => ∃ ι S d, Sim X.K ι S H ∧ Rep X.K ι H d x ∧ Po (Rep X.K) X.K X.mg ι H Q (fun _ _ _ => False) (slD lo hi d S)) := by
  intro pins s σ H x v vl vu lo hi sl Q I rx hs pl pu ⟨ι, S, d, sm, rd, po⟩
  unfold slD at po
  split at po
  · rename_i z
    split at po
    · rename_i hl
      obtain ⟨rfl, h2⟩ := rd.str
      refine sl_str pins s σ H _ v vl vu lo hi sl Q I rx hs pl pu ⟨_, rfl, by rw [LINE_eq] at hl; simpa [Str.length, sizeLine] using hl, Po.ret po sm ?_⟩
      rw [Rep]
      refine ⟨?_, fun k hk => h2 k ?_⟩
      · unfold cutS cut
        have e : ∀ n d o, Z.sIx n d o = HT.sIx n d o := fun n d o => by cases o <;> rfl
        simp only [e, Str.length]
        simp
      · unfold cut at hk
        exact List.mem_of_mem_drop (List.mem_of_mem_take hk)
    · exact po.elim
  · rename_i xs
    rw [Rep] at rd
    obtain ⟨p, vs, rfl, h1, h2⟩ := rd
    refine sl_tupA pins s σ H _ v vl vu lo hi sl Q I rx hs pl pu ⟨p, vs, rfl, SqT.of h1, fun hw => ?_, fun _ t ht => ?_⟩
    · have hc : cutV vs lo hi = vs := by unfold cutV; rw [hw.1, hw.2]; simp
      refine Po.ret po sm ?_
      rw [Rep]
      refine ⟨p, vs, rfl, h1, ?_⟩
      have := h2.cut lo hi
      rw [hc] at this
      exact this
    · have ex := ext_tup (ι := ι) (o := .tup (cutV vs lo hi)) ht
      exact Po.ret (Po.mono ex po) (sm.tup ht) (by rw [Rep]; exact ⟨t, _, rfl, upd_same, RepL.ext ex _ _ (h2.cut lo hi)⟩)
  · split at po
    · rename_i g
      obtain ⟨p, vs, rfl, i1, e1, r1⟩ := lst_ok sm rd g
      refine sl_list pins s σ H _ v vl vu lo hi sl Q I rx hs pl pu ⟨p, vs, rfl, SqL.of e1, fun t ht => ?_⟩
      exact Po.ret (Po.mono (ext_new (t := [t]) (o := .lst (cutV vs lo hi)) ht) po) (sm.newL ht (r1.cut lo hi)) (Rep.newL sm)
    · exact po.elim
  · exact po.elim
theorem no_sl (lo hi : Option Int) (d : D) (S : Store) (c : String) (S' : Store) : slD lo hi d S ≠ some (.ex c S') := by
  unfold slD
  split <;> (try split) <;> simp [new1]
theorem ge_sl {lo hi : Option Expr} {ol oh : Option SE} {p2 : Pos} (he : GE X W e ma) (hl : GO X W lo ol) (hh : GO X W hi oh) : GE X W (.Subscript e (.Slice lo hi none p2) pos) (eSl ma ol oh) :=
  (pe_slice zs_sl he hl hh).imp fun σ H Q ⟨ι, ρ, S, s, r, p⟩ => by
    refine ⟨ι, ρ, S, s, r, Po.bd p fun d S1 ι1 H1 x e1 s1 r1 p1 => ?_⟩
    have p1 : Po (Rep X.K) X.K X.mg ι1 H1 Q (fun cls d H' => W cls d σ H') (Z.bd (prt ol ρ S1) fun l S3 => Z.bd (prt oh ρ S3) fun h S5 => slD l h d S5) := by
      cases ol <;> cases oh <;> exact p1
    refine ⟨ι1, ρ, S1, s1, r.ext e1, Po.bd p1 fun l S2 ι2 H2 y e2 s2 r2 p2 => ?_⟩
    obtain rfl : y = l := r2
    refine ⟨ι2, ρ, S2, s2, (r.ext e1).ext e2, Po.bd p2 fun h S3 ι3 H3 z e3 s3 r3 p3 => ?_⟩
    obtain rfl : z = h := r3
    exact ⟨ι3, S3, d, s3, Rep.ext e3 _ _ (Rep.ext e2 _ _ r1), p3.noex fun c S' => no_sl _ _ _ _ c S'⟩
/-! ### built-ins by values -/
theorem one_of {ds : List D} {vs : List V} {d : D} {K : PySem.W.Frag} {ι : List Addr} {H : Hp} (r : RepL K ι H [d] vs) : ∃ v, vs = [v] ∧ Rep K ι H d v := by
  obtain ⟨v, t, rfl, h1, h2⟩ := r.cons
  rw [h2.nil]
  exact ⟨v, rfl, h1⟩
theorem no_len : NoExF lenF := by intro ds S c S'; unfold lenF; split <;> (try split) <;> simp
theorem zc_len : CallR X (.builtin "len") (rB X lenF) := by
  intro pins s σ H xs us Q I r ⟨ι, S, ds, sm, rd, po⟩
  unfold lenF at po
  split at po
  · rename_i z
    obtain ⟨v, rfl, h⟩ := one_of (ds := []) rd
    obtain ⟨rfl, _⟩ := h.str
    split at po
    · rename_i hl
      refine call_len_str pins s σ H _ us Q I r ⟨_, rfl, by rw [LINE_eq] at hl; simpa [Str.length, sizeLine] using hl, ?_⟩
      exact Po.ret po sm (by rw [Rep]; simp [Str.length])
    · exact po.elim
  · obtain ⟨v, rfl, h⟩ := one_of (ds := []) rd
    split at po
    · rename_i xs hx
      obtain ⟨p, vs, rfl, h1, h2⟩ := seq_ok sm h hx
      refine call_len_seq pins s σ H _ us Q I r ⟨p, vs, rfl, h1.imp id SqT.of, ?_⟩
      exact Po.ret po sm (by rw [Rep, h2.length])
    · exact po.elim
  · exact po.elim
theorem no_abs : NoExF absF := by intro ds S c S'; unfold absF; split <;> simp
theorem zc_abs : CallR X (.builtin "abs") (rB X absF) := by
  intro pins s σ H xs us Q I r ⟨ι, S, ds, sm, rd, po⟩
  unfold absF at po
  split at po
  · obtain ⟨v, rfl, h⟩ := one_of (ds := []) rd
    rw [Rep] at h
    exact call_abs pins s σ H _ us Q I r ⟨_, by rw [h], Po.ret po sm (by rw [Rep])⟩
  · exact po.elim
theorem no_max : NoExF maxF := by intro ds S c S'; unfold maxF; split <;> simp
theorem no_min : NoExF minF := by intro ds S c S'; unfold minF; split <;> simp
theorem two_of {vs : List V} {d e : D} {K : PySem.W.Frag} {ι : List Addr} {H : Hp} (r : RepL K ι H [d, e] vs) : ∃ v w, vs = [v, w] ∧ Rep K ι H d v ∧ Rep K ι H e w := by
  obtain ⟨v, t, rfl, h1, h2⟩ := r.cons
  obtain ⟨w, rfl, h3⟩ := one_of (ds := []) h2
  exact ⟨v, w, rfl, h1, h3⟩
theorem zc_max (hc : X.calm = true) : CallR X (.builtin "max") (rB X maxF) := by
  intro pins s σ H xs us Q I r ⟨ι, S, ds, sm, rd, po⟩
  unfold maxF at po
  split at po
  · obtain ⟨v, w, rfl, h, h'⟩ := two_of rd
    rw [Rep] at h h'
    exact call_max2 hc pins s σ H _ us Q I r ⟨_, _, by rw [h, h'], Po.ret po sm (by rw [Rep])⟩
  · exact po.elim
theorem zc_min (hc : X.calm = true) : CallR X (.builtin "min") (rB X minF) := by
  intro pins s σ H xs us Q I r ⟨ι, S, ds, sm, rd, po⟩
  unfold minF at po
  split at po
  · obtain ⟨v, w, rfl, h, h'⟩ := two_of rd
    rw [Rep] at h h'
    exact call_min2 hc pins s σ H _ us Q I r ⟨_, _, by rw [h, h'], Po.ret po sm (by rw [Rep])⟩
  · exact po.elim
theorem bls_ok {K : PySem.W.Frag} {ι : List Addr} {H : Hp} : ∀ {ds : List D} {vs : List V} {bs : List Bool}, RepL K ι H ds vs → blsOf ds = some bs → vs = bs.map V.bl
  | [], vs, bs, r, h => by rw [blsOf] at h; cases h; rw [r.nil]; rfl
  | d :: ds, vs, bs, r, h => by
    cases d with
    | bl b =>
      rw [blsOf] at h
      obtain ⟨cs, h1, rfl⟩ := Option.map_eq_some_iff.mp h
      obtain ⟨v, t, rfl, h2, h3⟩ := r.cons
      rw [Rep] at h2
      rw [h2, bls_ok h3 h1]
      rfl
    | _ => cases h
theorem no_all : NoExF allF := by intro ds S c S'; unfold allF; split <;> (try split) <;> (try split) <;> simp
theorem zc_all (hc : X.calm = true) : CallR X (.builtin "all") (rB X allF) := by
  intro pins s σ H xs us Q I r ⟨ι, S, ds, sm, rd, po⟩
  unfold allF at po
  split at po
  · split at po
    · rename_i g
      split at po
      · rename_i hb
        obtain ⟨v, rfl, h⟩ := one_of (ds := []) rd
        obtain ⟨p, vs, rfl, i1, e1, r1⟩ := lst_ok sm h g
        have := bls_ok r1 hb
        subst this
        exact cr_all hc pins s σ H _ us Q I r ⟨p, _, rfl, SqL.of e1, Po.ret po sm (by rw [Rep])⟩
      · exact po.elim
    · exact po.elim
  · exact po.elim
theorem no_list : NoExF listF := by intro ds S c S'; unfold listF; split <;> (try split) <;> simp [new1]
theorem zc_list : CallR X (.type "list") (rB X listF) := by
  intro pins s σ H xs us Q I r ⟨ι, S, ds, sm, rd, po⟩
  unfold listF at po
  split at po
  · obtain ⟨v, rfl, h⟩ := one_of (ds := []) rd
    split at po
    · rename_i xs hx
      obtain ⟨p, vs, rfl, h1, h2⟩ := seq_ok sm h hx
      refine call_list_of pins s σ H _ us Q I r ⟨p, vs, rfl, h1.imp id SqT.of, fun t ht => ?_⟩
      exact Po.ret (Po.mono (ext_new (t := [t]) (o := .lst vs) ht) po) (sm.newL ht h2) (Rep.newL sm)
    · exact po.elim
  · exact po.elim
theorem no_tuple : NoExF tupleF := by intro ds S c S'; unfold tupleF; split <;> (try split) <;> simp
theorem zc_tuple : CallR X (.type "tuple") (rB X tupleF) := by
  intro pins s σ H xs us Q I r ⟨ι, S, ds, sm, rd, po⟩
  unfold tupleF at po
  split at po
  · obtain ⟨v, rfl, h⟩ := one_of (ds := []) rd
    split at po
    · rename_i xs hx
      obtain ⟨p, vs, rfl, h1, h2⟩ := seq_ok sm h hx
      refine call_tuple_of pins s σ H _ us Q I r ⟨p, vs, rfl, ?_⟩
      rcases h1 with h1 | h1
      · refine .inl ⟨h1, fun t ht => ?_⟩
        have ex := ext_tup (ι := ι) (o := .tup vs) ht
        exact Po.ret (Po.mono ex po) (sm.tup ht) (by rw [Rep]; exact ⟨t, _, rfl, upd_same, RepL.ext ex _ _ h2⟩)
      · exact .inr ⟨SqT.of h1, Po.ret po sm (by rw [Rep]; exact ⟨p, vs, rfl, h1, h2⟩)⟩
    · exact po.elim
  · exact po.elim
/-! ### isinstance -/
def Ty.nm : Ty → String
  | .str => "str" | .int => "int" | .bool => "bool" | .tuple => "tuple" | .list => "list"
theorem ty_of {K : PySem.W.Frag} {ι : List Addr} {H : Hp} {S : Store} {d : D} {v : V} {t : Ty} {b : Bool} (s : Sim K ι S H) (r : Rep K ι H d v) (h : isiB S t d = some b) : ∃ T : String, TyX K H v (.type T) ∧ PySem.W.kitOne K (.type T) (.type t.nm) = some b := by
  cases d with
  | non => rw [Rep] at r; subst r; cases h; exact ⟨_, .base .non, by cases t <;> exact kit_ty (by decide +kernel)⟩
  | bl x => rw [Rep] at r; subst r; exact ⟨_, .base (.bl x), by cases t <;> (cases h; exact kit_ty (by decide +kernel))⟩
  | int x => rw [Rep] at r; subst r; exact ⟨_, .base (.int x), by cases t <;> (cases h; exact kit_ty (by decide +kernel))⟩
  | str x => obtain ⟨rfl, _⟩ := r.str; exact ⟨_, .base (.str _), by cases t <;> (cases h; exact kit_ty (by decide +kernel))⟩
  | tup xs =>
    rw [Rep] at r
    obtain ⟨a, vs, rfl, h1, _⟩ := r
    refine ⟨"tuple", ?_, by cases t <;> (cases h; exact kit_ty (by decide +kernel))⟩
    exact .base (.tup h1)
  | fl xs =>
    rw [Rep] at r
    obtain ⟨a, vs, rfl, h1, _⟩ := r
    refine ⟨"list", ?_, by cases t <;> (cases h; exact kit_ty (by decide +kernel))⟩
    rcases h1 with ⟨o, h1⟩ | ⟨o, its, n, h1, h2, _⟩
    · exact .base (.frz h1)
    · exact .kList h1 h2
  | ref n =>
    unfold isiB at h
    dsimp only at h
    split at h
    · rename_i g
      obtain ⟨p, vs, rfl, i1, e1, r1⟩ := lst_ok s r g
      exact ⟨"list", .base (.lst e1), by cases t <;> (cases h; exact kit_ty (by decide +kernel))⟩
    · cases h
/-- isinstance(e, T) -/
theorem ge_isi (t : Ty) {x T : Str} {p p2 : Pos} (he : GE X W e ma) (hg : Gl X x) (hm : X.mg x = none) (hv : bootBuiltins x = some (.builtin "isinstance")) (hg2 : Gl X T) (hm2 : X.mg T = none) (hv2 : bootBuiltins T = some (.type t.nm))
    (hn : x ≠ "__name__" := by decide) (hdb : (x == ("__debug__" : Str)) = false := by decide) (hn2 : T ≠ "__name__" := by decide) (hdb2 : (T == ("__debug__" : Str)) = false := by decide)
    (hs : starEach (e :: [.Name T p2]) X.env = (false, eval e X.env) :: starEach [.Name T p2] X.env := by rfl) (hpl : (backTo pos (starEach [.Name T p2] X.env)).any (·.1) = false := by rfl) : GE X W (.Call (.Name x p) [e, .Name T p2] [] pos) (e1 (isiD t) ma) :=
  (pe_callB call_isi hg hm hv (pa_cons he (pa_cons (pe_bltn (v := .ty t.nm) hg2 hm2 hv2 rfl hn2 hdb2) pa_nil) hs) hn hdb hs hpl).imp fun σ H Q ⟨ι, ρ, S, s, r, p⟩ => by
    refine ⟨ι, ρ, S, s, r, Po.bd p fun d S1 ι1 H1 y e1 s1 r1 p1 => ?_⟩
    unfold isiD at p1
    cases g : isiB S1 t d with
    | none => rw [g] at p1; exact p1.elim
    | some k =>
      rw [g] at p1
      obtain ⟨T, h1, h2⟩ := ty_of s1 r1 g
      exact ⟨y, .ty t.nm, _, _, k, rfl, .ty _, h1, h2, Po.ret p1 s1 (by rw [Rep])⟩
/-! ### methods -/
def rM (X : Cx) (F : Fn) : V → List V → Hp → VK → Prop := fun x vs H Q => ∃ ι S d ds, Sim X.K ι S H ∧ Rep X.K ι H d x ∧ RepL X.K ι H ds vs ∧ Po (Rep X.K) X.K X.mg ι H Q (fun _ _ _ => False) (F (d :: ds) S)
def Rc.nm : Rc → String
  | .list => "list" | .str => "str" | .dict => "dict"
theorem rc_ok {K : PySem.W.Frag} {ι : List Addr} {H : Hp} {S : Store} {d : D} {v : V} {t : Rc} (s : Sim K ι S H) (r : Rep K ι H d v) (h : rcB S t d = true) : tyV K t.nm v H := by
  unfold rcB at h
  split at h
  · obtain ⟨rfl, _⟩ := r.str
    cases t <;> first | rfl | cases h
  · split at h
    · rename_i g
      obtain ⟨p, vs, rfl, i1, e1, r1⟩ := lst_ok s r g
      exact .inl ⟨rfl, _, SqL.of e1⟩
    · rename_i g
      rw [Rep] at r
      obtain ⟨a, rfl, r1⟩ := r
      obtain ⟨ks, e, _⟩ := s.get r1 g
      exact .inr (.inr (.inl ⟨rfl, .inr ⟨ks, e⟩⟩))
    · cases h
  · cases h
theorem ge_mt (t : Rc) {id : String} {F : Fn} {o : Expr} {es : List Expr} {ms : List SE} {name : Str} {apos : Pos} (n : NoExF F) (pa : PlainAttrs t.nm) (slot : Slot t.nm name id) (hty : typeOf (.builtin id) = pure (.type "method_descriptor")) (hm : MtR X id (rM X F)) (ho : GE X W o ma) (ha : GA X W (e :: es) ms)
    (hbase : attributeBase o name X.env (eval o X.env) = eval o X.env := by rfl)
    (hfew : ((backTo pos (starEach (e :: es) X.env)).all (fun x => !x.1) && (backToKw pos (keywordEach [] X.env)).all (fun x => x.1.isSome)
      && decide ((e :: es).length + ([] : List Keyword).length + (if ([] : List Keyword).isEmpty then 0 else 1) < 30)) = true := by rfl)
    (hline : (apos.endLine == pos.line) = true := by rfl) (hs : starEach (e :: es) X.env = (false, eval e X.env) :: starEach es X.env := by rfl) (hplain : (backTo pos (starEach es X.env)).any (·.1) = false := by rfl) :
    GE X W (.Call (.Attribute o name apos) (e :: es) [] pos) (eMt t F ma ms) := (pe_bm pa slot hty hm ho ha hbase hfew hline hs hplain).imp fun σ H Q ⟨ι, ρ, S, s, r, p⟩ => by
  refine ⟨ι, ρ, S, s, r, Po.bd p fun d S1 ι1 H1 x e1 s1 r1 p1 => ?_⟩
  by_cases hr : rcB S1 t d = true
  · rw [if_pos hr] at p1
    refine ⟨rc_ok s1 r1 hr, ι1, ρ, S1, s1, r.ext e1, Po.evL p1 fun ds S2 ι2 H2 vs hd e2 s2 r2 p2 => ?_⟩
    exact ⟨ι2, S2, d, ds, s2, Rep.ext e2 _ _ r1, r2, p2.noex fun c S' => n _ _ _ _⟩
  · rw [if_neg hr] at p1; exact p1.elim
theorem ge_mt0 (t : Rc) {id : String} {F : Fn} {o : Expr} {name : Str} {apos : Pos} (n : NoExF F) (pa : PlainAttrs t.nm) (slot : Slot t.nm name id) (hty : typeOf (.builtin id) = pure (.type "method_descriptor")) (hm : MtR X id (rM X F)) (ho : GE X W o ma)
    (hbase : attributeBase o name X.env (eval o X.env) = eval o X.env := by rfl) (hline : (apos.endLine == pos.line) = true := by rfl) :
    GE X W (.Call (.Attribute o name apos) [] [] pos) (eMt t F ma []) := (pe_bm0 pa slot hty hm ho hbase hline).imp fun σ H Q ⟨ι, ρ, S, s, r, p⟩ => by
  refine ⟨ι, ρ, S, s, r, Po.bd p fun d S1 ι1 H1 x e1 s1 r1 p1 => ?_⟩
  by_cases hr : rcB S1 t d = true
  · rw [if_pos hr] at p1
    exact ⟨rc_ok s1 r1 hr, ι1, S1, d, [], s1, r1, by rw [RepL], Po.noex p1 fun c S' => n _ _ _ _⟩
  · rw [if_neg hr] at p1; exact p1.elim
theorem no_append : NoExF appendF := by intro ds S c S'; unfold appendF; split <;> (try split) <;> (try split) <;> simp
theorem zm_append : MtR X "list.append" (rM X appendF) := by
  intro pins s σ H x xs v us Q I rx r ⟨ι, S, d, ds, sm, rd, rds, po⟩
  unfold appendF at po
  split at po
  · rename_i n y heq
    cases heq
    obtain ⟨w, rfl, hw⟩ := one_of (ds := []) rds
    split at po
    · rename_i ys g
      obtain ⟨p, vs, rfl, i1, e1, r1⟩ := lst_ok sm rd g
      split at po
      · rename_i hl
        have em : Ext ι H ι (upd H p (.lst (vs ++ [w]))) := ext_mut e1 trivial
        refine mt_append pins s σ H _ _ v us Q I rx r ⟨p, vs, w, rfl, rfl, e1, by rw [r1.length]; rw [LINE_eq] at hl; exact hl, ?_⟩
        exact Po.ret (Po.mono em po) (sm.put i1 ⟨_, upd_same, RepL.ext em _ _ (r1.append (RepL.one hw))⟩ ⟨_, e1, trivial⟩) (by rw [Rep])
      · exact po.elim
    · exact po.elim
  · exact po.elim
theorem no_pop : NoExF popF := by intro ds S c S'; unfold popF; split <;> (try split) <;> (try split) <;> (try split) <;> simp
theorem RepL.dropLast {K : PySem.W.Frag} {ι : List Addr} {H : Hp} {ds : List D} {vs : List V} (r : RepL K ι H ds vs) : RepL K ι H ds.dropLast vs.dropLast := by
  rw [List.dropLast_eq_take, List.dropLast_eq_take, r.length]
  exact r.take _
theorem zm_pop : MtR X "list.pop" (rM X popF) := by
  intro pins s σ H x xs v us Q I rx r ⟨ι, S, d, ds, sm, rd, rds, po⟩
  unfold popF at po
  split at po
  · rename_i n heq
    cases heq
    have e0 := rds.nil
    subst e0
    split at po
    · rename_i ys g
      obtain ⟨p, vs, rfl, i1, e1, r1⟩ := lst_ok sm rd g
      split at po
      · rename_i z hz
        obtain ⟨w, h1, h2⟩ := r1.get hz
        have em : Ext ι H ι (upd H p (.lst vs.dropLast)) := ext_mut e1 trivial
        refine mt_pop pins s σ H _ _ v us Q I rx r ⟨p, vs, w, rfl, rfl, e1, by rw [r1.length]; exact h1, ?_⟩
        exact Po.ret (Po.mono em po) (sm.put i1 ⟨_, upd_same, RepL.ext em _ _ r1.dropLast⟩ ⟨_, e1, trivial⟩) (Rep.ext em _ _ h2)
      · exact po.elim
    · exact po.elim
  · rename_i n i heq
    cases heq
    obtain ⟨wi, rfl, hwi⟩ := one_of (ds := []) rds
    rw [Rep] at hwi
    subst hwi
    split at po
    · rename_i ys g
      obtain ⟨p, vs, rfl, i1, e1, r1⟩ := lst_ok sm rd g
      split at po
      · rename_i k hk
        split at po
        · rename_i z hz
          obtain ⟨w, h1, h2⟩ := r1.get hz
          have em : Ext ι H ι (upd H p (.lst (vs.eraseIdx k))) := ext_mut e1 trivial
          obtain ⟨q1, q2, q3, q4⟩ := L2.ixN_seq (n := ys.length) (i := i) hk
          have hsz : vs.length ≤ sizeLine := (show ObjOk X.prog X.w H s.heap p (.lst vs) from I.hok p _ e1).1
          have hsz2 : ys.length ≤ 16777216 := by rw [← r1.length]; exact hsz
          refine mt_popAt pins s σ H _ _ v us Q I rx r ⟨p, vs, i, k, w, rfl, rfl, e1, by omega, by omega, by rw [r1.length]; exact q1, h1, ?_⟩
          exact Po.ret (Po.mono em po) (sm.put i1 ⟨_, upd_same, RepL.ext em _ _ (r1.eraseIdx k)⟩ ⟨_, e1, trivial⟩) (Rep.ext em _ _ h2)
        · exact po.elim
      · exact po.elim
    · exact po.elim
  · exact po.elim
theorem no_extend : NoExF extendF := by intro ds S c S'; unfold extendF; split <;> (try split) <;> (try split) <;> simp
theorem zm_extend : MtR X "list.extend" (rM X extendF) := by
  intro pins s σ H x xs v us Q I rx r ⟨ι, S, d, ds, sm, rd, rds, po⟩
  unfold extendF at po
  split at po
  · rename_i n m heq
    cases heq
    obtain ⟨w, rfl, hw⟩ := one_of (ds := []) rds
    split at po
    · rename_i ys zs g g'
      obtain ⟨p, vs, rfl, i1, e1, r1⟩ := lst_ok sm rd g
      obtain ⟨q, ws, rfl, i2, e2, r2⟩ := lst_ok sm hw g'
      split at po
      · rename_i hl
        have em : Ext ι H ι (upd H p (.lst (vs ++ ws))) := ext_mut e1 trivial
        refine mt_extend pins s σ H _ _ v us Q I rx r ⟨p, q, vs, ws, rfl, rfl, e1, e2, by rw [r1.length, r2.length]; rw [LINE_eq] at hl; exact hl, ?_⟩
        exact Po.ret (Po.mono em po) (sm.put i1 ⟨_, upd_same, RepL.ext em _ _ (r1.append r2)⟩ ⟨_, e1, trivial⟩) (by rw [Rep])
      · exact po.elim
    · exact po.elim
  · exact po.elim
/-! ### what is walked -/
theorem Po.ritm {K : PySem.W.Frag} {mg : Mg} {ι : List Addr} {H : Hp} {R : It → Hp → Prop} {E : XK} {J : Itm} {S : Store} {j : It} (h : Po (RItm K) K mg ι H R E (some (.ok J S))) (s : Sim K ι S H) (r : RItm K ι H J j) : R j H := h ι H j .refl s r
theorem ritm_seq {K : PySem.W.Frag} {ι : List Addr} {H : Hp} {xs : List D} {n : Nat} {a : Addr} (ha : ι[n]? = some a) : RItm K ι H ⟨xs, fun S => S[n]? = some (.lst xs)⟩ (Itl K a) := fun ι' H' S' e s c => by
  obtain ⟨vs, h1, h2⟩ := s.get (e.at ha) c
  refine ⟨fun i x hx => ?_, vs, SqL.of h1, by rw [h2.length]; exact Nat.le_refl _⟩
  obtain ⟨v, h3, h4⟩ := h2.get hx
  refine ⟨⟨vs, v, SqL.of h1, h3⟩, fun w H'' y => ?_⟩
  obtain ⟨rfl, y⟩ := y
  have := y vs (SqL.of h1)
  rw [h3] at this
  cases this
  exact ⟨.refl, s, h4⟩
theorem ritm_tup {K : PySem.W.Frag} {ι : List Addr} {H : Hp} {xs : List D} {vs : List V} {a : Addr} (h1 : SqT K H a vs) (h2 : RepL K ι H xs vs) : RItm K ι H ⟨xs, fun _ => True⟩ (Itt K a) := fun ι' H' S' e s c => by
  have h1 := e.sqT h1
  have h2 := RepL.ext e _ _ h2
  refine ⟨fun i x hx => ?_, vs, h1, by rw [h2.length]; exact Nat.le_refl _⟩
  obtain ⟨v, h3, h4⟩ := h2.get hx
  refine ⟨⟨vs, v, h1, h3⟩, fun w H'' y => ?_⟩
  obtain ⟨rfl, y⟩ := y
  have := y vs h1
  rw [h3] at this
  cases this
  exact ⟨.refl, s, h4⟩
theorem ritm_fl {K : PySem.W.Frag} {ι : List Addr} {H : Hp} {xs : List D} {vs : List V} {a : Addr} (h1 : FzL K H a vs) (h2 : RepL K ι H xs vs) : RItm K ι H ⟨xs, fun _ => True⟩ (Itl K a) := fun ι' H' S' e s c => by
  have h1 := e.fzL h1
  have h2 := RepL.ext e _ _ h2
  refine ⟨fun i x hx => ?_, vs, h1.seq, by rw [h2.length]; exact Nat.le_refl _⟩
  obtain ⟨v, h3, h4⟩ := h2.get hx
  refine ⟨⟨vs, v, h1.seq, h3⟩, fun w H'' y => ?_⟩
  obtain ⟨rfl, y⟩ := y
  have := y vs h1.seq
  rw [h3] at this
  cases this
  exact ⟨.refl, s, h4⟩
end
end Z
namespace Z
open PySem PySem.Spec PyProof.Rows L2
section
variable {X : Cx} {W : WX} {e tg : Expr} {m : SE} {pos : Pos}
theorem new_it {pins : List (Addr × Obj)} {σ : L2.St} {H : Hp} {sh : Shared} {R : It → Hp → Prop} (J : L2.Inv X pins σ H sh) (ob : Obj) {tn : Nat → Heap → Prop} {j : It}
    (tu : Turn X.prog X.w X.K tg j [sh.heap.objs.size] sh.heap.objs.size tn) (t0 : tn 0 (sh.heap.push ob)) (q : R j H) : PIE X pins σ tg R (.ref sh.heap.objs.size) { sh with heap := sh.heap.push ob } := by
  refine ⟨_, _, tn, j, H, rfl, J.kept (t' := sh.toks) (fun b o g => Heap.get?_push_of_some _ g), tu, t0, fun b hb => ?_, q⟩
  obtain rfl : b = sh.heap.objs.size := by simpa using hb
  exact J.fpOk (Nat.le_refl _) (J.hok.fresh (Nat.le_refl _))
theorem ritm_str {K : PySem.W.Frag} {ι : List Addr} {H : Hp} {s : List Nat} (ha : ∀ c ∈ s, c < 128) : RItm K ι H ⟨s.map fun c => .str [c], fun _ => True⟩ (Its (Z.str s)) := fun ι' H' S' ex sm c => by
  refine ⟨fun i x hx => ?_, by show (Z.str s).cps.size ≤ _; simp⟩
  rw [List.getElem?_map] at hx
  obtain ⟨k, hk, rfl⟩ := Option.map_eq_some_iff.mp hx
  have hi := (List.getElem?_eq_some_iff.mp hk).1
  refine ⟨by show i < (Z.str s).cps.size; simpa using hi, fun v H2 y => ?_⟩
  obtain ⟨rfl, c, h1, rfl⟩ := y
  have h1 : s[i]? = some c := by simpa using h1
  rw [hk] at h1; cases h1
  exact ⟨.refl, sm, by rw [Rep]; exact ⟨rfl, fun d hd => by simp at hd; subst hd; exact ha _ (List.mem_of_getElem? hk)⟩⟩
/-- what is walked, by its value -/
theorem iter_val {pins : List (Addr × Obj)} {σ : L2.St} {H : Hp} {sh : Shared} {R : It → Hp → Prop} {E : XK} {v : Value} {x : V} {ι : List Addr} {S : Store} {d : D} (J : L2.Inv X pins σ H sh) (rx : L2.RelV x v) (sm : Sim X.K ι S H) (rd : Rep X.K ι H d x)
    (p : Po (RItm X.K) X.K X.mg ι H R E (itmOf d S)) : wpAny (model X.prog X.w) X.A (pyIter v) (PIE X pins σ tg R) X.xe sh := by
  unfold itmOf at p
  split at p
  · split at p
    · rename_i xs g
      obtain ⟨a, vs, rfl, i1, e1, r1⟩ := lst_ok sm rd g
      obtain rfl : v = Value.ref a := rx
      obtain ⟨its, rv, pl, _⟩ := J.list (SqL.of e1)
      exact wpAny_pyIter_list pl.isList (new_it J _ (turn_list a _) ⟨_, Heap.get?_push_size _ rfl, rfl, rfl⟩ (Po.ritm p sm (ritm_seq i1)))
    · exact p.elim
  · rw [Rep] at rd
    obtain ⟨a, vs, rfl, h1, h2⟩ := rd
    obtain rfl : v = Value.ref a := rx
    obtain ⟨its, rv, pl, _⟩ := J.tuple (SqT.of h1)
    exact wpAny_pyIter_tuple (show sh.heap.IsTuple a its.toArray from pl) (new_it J _ (turn_tuple a _) ⟨_, Heap.get?_push_size _ rfl, rfl, rfl⟩ (Po.ritm p sm (ritm_tup (SqT.of h1) h2)))
  · rw [Rep] at rd
    obtain ⟨a, vs, rfl, h1, h2⟩ := rd
    obtain rfl : v = Value.ref a := rx
    obtain ⟨its, rv, pl, _⟩ := J.list h1.seq
    exact wpAny_pyIter_list pl.isList (new_it J _ (turn_list a _) ⟨_, Heap.get?_push_size _ rfl, rfl, rfl⟩ (Po.ritm p sm (ritm_fl h1 h2)))
  · rename_i s
    obtain ⟨rfl, ha⟩ := rd.str
    obtain ⟨t, rfl⟩ := rx
    have hall : (Z.str s).cps.all (· < 128) = true := by
      rw [Array.all_eq_true']
      intro c hc
      exact decide_eq_true (ha c (by simpa using hc))
    exact wpAny_pyIter_ascii hall (new_it J _ (turn_str _ _ t "str_ascii_iterator" (.inl rfl)) ⟨_, Heap.get?_push_size _ rfl, rfl, rfl⟩ (Po.ritm p sm (ritm_str ha)))
  · exact p.elim
theorem gi_any (h : GE X W e m) : GI X W tg e (iAny m) := by
  refine ⟨fun pins sh σ H R J ⟨ι, ρ, S, sm, r, p⟩ => ?_⟩
  have p : Po (RItm X.K) X.K X.mg ι H R (fun cls d H' => W cls d σ H') (Z.bd (m ρ S) itmOf) := p
  refine L2.thn (h.run pins sh σ H (fun x H1 => ∃ ι1 S1 d, Sim X.K ι1 S1 H1 ∧ Rep X.K ι1 H1 d x ∧ Po (RItm X.K) X.K X.mg ι1 H1 R (fun cls d H' => W cls d σ H') (itmOf d S1)) J ⟨ι, ρ, S, sm, r, Po.bd p fun d S1 ι1 H1 x e1 s1 r1 p1 => ⟨ι1, S1, d, s1, r1, p1⟩⟩) ?_
  rintro v sh1 ⟨x, H1, J1, rx, ι1, S1, d, s1, r1, p1⟩
  exact iter_val J1 rx s1 r1 p1
theorem ritm_range {K : PySem.W.Frag} {ι : List Addr} {H : Hp} {lo : Int} {n : Nat} : RItm K ι H ⟨(List.range n).map fun (k : Nat) => .int (lo + k), fun _ => True⟩ (Itr lo n) := fun ι' H' S' ex sm c => by
  refine ⟨fun i x hx => ?_, by show n ≤ _; simp⟩
  rw [List.getElem?_map] at hx
  obtain ⟨k, hk, rfl⟩ := Option.map_eq_some_iff.mp hx
  have hi : i < n := by simpa using (List.getElem?_eq_some_iff.mp hk).1
  rw [List.getElem?_range hi] at hk
  cases hk
  refine ⟨hi, fun v H2 y => ?_⟩
  obtain ⟨rfl, rfl⟩ := y
  exact ⟨.refl, sm, by rw [Rep]⟩
/-- range(n) -/
theorem gi_r1 {a : Expr} {p : Pos} (ha : GE X W a m) (hg : Gl X "range") (hm : X.mg "range" = none) (hs : starEach [a] X.env = [(false, eval a X.env)] := by rfl) (hs2 : starEach [a] X.env = (false, eval a X.env) :: starEach [] X.env := by rfl) :
    GI X W tg (.Call (.Name "range" p) [a] [] pos) (iR1 m) := (pi_range1 hg hm (pa_cons ha pa_nil hs2) hs).imp fun σ H R ⟨ι, ρ, S, sm, r, p⟩ => by
  refine ⟨ι, ρ, S, sm, r, Po.bd p fun d S1 ι1 H1 x e1 s1 r1 p1 => ?_⟩
  cases d with
  | int n =>
    rw [Rep] at r1
    subst r1
    dsimp only at p1
    by_cases hc : r62 n
    · rw [if_pos hc] at p1
      rw [r62_iff] at hc
      refine ⟨n, rfl, by omega, by omega, Po.ritm p1 s1 ?_⟩
      have := ritm_range (K := X.K) (ι := ι1) (H := H1) (lo := 0) (n := n.toNat)
      simpa using this
    · rw [if_neg hc] at p1; exact p1.elim
  | _ => exact p1.elim
/-! ### o[i] = v -/
theorem Po.bqb {α β α' : Type} {R : List Addr → Hp → α → β → Prop} {K mg ι H} {Q : β → Hp → Prop} {E : XK} {m : M α} {f : α → Store → M α'} {o : Res α'} (h : Z.bq m f = some o)
    (k : ∀ a S ι1 H1 x, Ext ι H ι1 H1 → Sim K ι1 S H1 → R ι1 H1 a x → f a S = some o → Q x H1) : Po R K mg ι H Q E m := by
  match m, h with
  | some (.ok a S), h => exact fun ι1 H1 x e s r => k a S ι1 H1 x e s r h
theorem gg_sub {o i : Expr} {mo mi : SE} (ho : GE X W o mo) (hi : GE X W i mi)
    (ha : ∀ v, assign (.Subscript o i pos) X.env v = (do
      let ov ← holding [v] (eval o X.env)
      let iv ← holding [v, ov] (eval i X.env)
      standAt pos
      holding [v, ov, iv] (setItem ov iv v)
      release [v, ov, iv] []) := by intro _; rfl) : GG X (.Subscript o i pos) (setF mo mi) [] := (pg_sub ho hi set_list ha).imp fun v σ H Q ⟨ι, ρ, S, d, ρ', S', s, r, rd, g, k⟩ => by
  unfold setF at g
  split at g
  · rename_i u S3 h
    cases g
    refine ⟨ι, ρ, S, s, r, Po.bqb h fun x S1 ι1 H1 y e1 s1 r1 h1 => ?_⟩
    refine ⟨ι1, ρ, S1, s1, r.ext e1, Po.bqb h1 fun z S2 ι2 H2 t e2 s2 r2 h2 => ?_⟩
    split at h2
    · rename_i n q
      split at h2
      · rename_i xs g2
        split at h2
        · rename_i j hj
          cases h2
          obtain ⟨p, vs, rfl, i1, f1, f2⟩ := lst_ok s2 (Rep.ext e2 _ _ r1) g2
          rw [Rep] at r2
          have em : Ext ι2 H2 ι2 (upd H2 p (.lst (vs.set j v))) := ext_mut f1 trivial
          refine ⟨p, vs, q, j, rfl, r2, f1, by rw [f2.length]; exact hj, ?_⟩
          exact k ι2 _ σ ((e1.trans e2).trans em) (s2.put i1 ⟨_, upd_same, RepL.ext em _ _ (RepL.set (Rep.ext e2 _ _ (Rep.ext e1 _ _ rd)) j f2)⟩ ⟨_, f1, trivial⟩) (((r.ext e1).ext e2).ext em) .refl
        · cases h2
      · cases h2
    · cases h2
  · cases g
end
end Z
namespace Z
/-- a def's outcome -/
def endF : Option Out → M D
  | some (.rt d S) => some (.ok d S)
  | some (.nx _ S) => some (.ok .non S)
  | some (.ex c _ S) => some (.ex c S)
  | _ => none
@[simp] theorem endF_rt (d : D) (S : Store) : endF (some (.rt d S)) = some (.ok d S) := rfl
@[simp] theorem endF_nx (ρ : Env) (S : Store) : endF (some (.nx ρ S)) = some (.ok .non S) := rfl
@[simp] theorem endF_ex (c : String) (ρ : Env) (S : Store) : endF (some (.ex c ρ S)) = some (.ex c S) := rfl
/-- a def by its body: n parameters, N names -/
def runF (n N : Nat) (b : SS) : Fn := fun ds S => if ds.length = n then endF (b (env0 N ds) S) else none
theorem runF_len {n N : Nat} {b : SS} {ds : List D} {S : Store} (h : runF n N b ds S ≠ none) : ds.length = n := by
  unfold runF at h
  by_cases e : ds.length = n
  · exact e
  · rw [if_neg e] at h; exact absurd rfl h
theorem run_eq {n : Nat} (N : Nat) {b : SS} {ds : List D} (S : Store) (h : ds.length = n) : runF n N b ds S = endF (b (ds.map some ++ List.replicate (N - n) none) S) := by unfold runF env0; rw [if_pos h, h]
section
variable {f g : D → D → Store → M D} {a b c : SE} {t t' : ST} {A B : SS} {ρ : Env} {S : Store}
@[simp] theorem x_var (i : Nat) : eVar i ρ S = match ρ[i]? with | some (some d) => some (.ok d S) | _ => none := rfl
@[simp] theorem x_c (d : D) : eC d ρ S = some (.ok d S) := rfl
@[simp] theorem x_1 (h : D → Store → M D) : e1 h a ρ S = bd (a ρ S) h := rfl
@[simp] theorem x_2 : e2 f a b ρ S = bd (a ρ S) fun x S1 => bd (b ρ S1) fun y S2 => f x y S2 := rfl
@[simp] theorem x_nil : evL [] ρ S = some (.ok [] S) := rfl
@[simp] theorem x_cons (r : List SE) : evL (a :: r) ρ S = bd (a ρ S) fun x S1 => bd (evL r ρ S1) fun xs S2 => some (.ok (x :: xs) S2) := rfl
@[simp] theorem x_tup (es : List SE) : eTup es ρ S = bd (evL es ρ S) fun xs S1 => some (.ok (.tup xs) S1) := rfl
@[simp] theorem x_lst (es : List SE) : eLst es ρ S = bd (evL es ρ S) fun xs S1 => some (.ok (.ref S1.length) (S1 ++ [.lst xs])) := rfl
@[simp] theorem x_call (F : Fn) (es : List SE) : eCall F es ρ S = bd (evL es ρ S) F := rfl
@[simp] theorem x_and : eAnd a b ρ S = bd (a ρ S) fun x S1 => match x with | .bl true => b ρ S1 | .bl false => some (.ok (.bl false) S1) | _ => none := rfl
@[simp] theorem x_or : eOr a b ρ S = bd (a ρ S) fun x S1 => match x with | .bl false => b ρ S1 | .bl true => some (.ok (.bl true) S1) | _ => none := rfl
@[simp] theorem x_not : eNot a ρ S = bd (a ρ S) fun x S1 => match x with | .bl b => some (.ok (.bl !b) S1) | _ => none := rfl
@[simp] theorem x_ch : eCh f g a b c ρ S = bd (a ρ S) fun x S1 => bd (b ρ S1) fun y S2 => bd (f x y S2) fun z S3 =>
  match z with | .bl true => bd (c ρ S3) fun w S4 => g y w S4 | .bl false => some (.ok (.bl false) S3) | _ => none := rfl
@[simp] theorem x_tval (e : SE) : tVal e ρ S = bd (e ρ S) fun x S1 => match x with | .bl b => some (.ok b S1) | _ => none := rfl
@[simp] theorem x_tand : tAnd t t' ρ S = bd (t ρ S) fun x S1 => if x = true then t' ρ S1 else some (.ok false S1) := rfl
@[simp] theorem x_tor : tOr t t' ρ S = bd (t ρ S) fun x S1 => if x = true then some (.ok true S1) else t' ρ S1 := rfl
@[simp] theorem x_tnot : tNot t ρ S = bd (t ρ S) fun x S1 => some (.ok (!x) S1) := rfl
@[simp] theorem x_tyes : tYes ρ S = some (.ok true S) := rfl
@[simp] theorem x_if : eIf t a b ρ S = bd (t ρ S) fun x S1 => if x = true then a ρ S1 else b ρ S1 := rfl
@[simp] theorem x_name (i : Nat) (d : D) : gName i d ρ S = some (ρ.set i (some d), S) := rfl
@[simp] theorem x_gall : gAll [] [] ρ S = some (ρ, S) := rfl
@[simp] theorem x_gcons (h : SG) (gs : List SG) (d : D) (ds : List D) : gAll (h :: gs) (d :: ds) ρ S = match h d ρ S with | some (ρ1, S1) => gAll gs ds ρ1 S1 | none => none := rfl
@[simp] theorem x_gtup (gs : List SG) (ds : List D) : gTup gs (.tup ds) ρ S = gAll gs ds ρ S := rfl
@[simp] theorem x_sq : sq A B ρ S = match A ρ S with | some (.nx ρ1 S1) => B ρ1 S1 | o => o := rfl
@[simp] theorem x_nx : sNx ρ S = some (.nx ρ S) := rfl
@[simp] theorem x_bk : sBk ρ S = some (.bk ρ S) := rfl
@[simp] theorem x_ct : sCt ρ S = some (.ct ρ S) := rfl
@[simp] theorem x_exp (e : SE) : sExp e ρ S = bo (e ρ S) ρ fun _ S1 => some (.nx ρ S1) := rfl
@[simp] theorem x_ret (e : SE) : sRet e ρ S = bo (e ρ S) ρ fun d S1 => some (.rt d S1) := rfl
@[simp] theorem x_sif : sIf t A B ρ S = bo (t ρ S) ρ fun x S1 => if x = true then A ρ S1 else B ρ S1 := rfl
@[simp] theorem x_asg (e : SE) (h : SG) : sAsg e h ρ S = bo (e ρ S) ρ fun d S1 => match h d ρ S1 with | some (ρ2, S2) => some (.nx ρ2 S2) | none => none := rfl
@[simp] theorem x_aug (i : Nat) (e : SE) : sAug i f e ρ S = bo (e2 f (eVar i) e ρ S) ρ fun d S1 => some (.nx (ρ.set i (some d)) S1) := rfl
@[simp] theorem x_any : iAny a ρ S = bd (a ρ S) itmOf := rfl
@[simp] theorem x_r1 : iR1 a ρ S = bd (a ρ S) fun d S1 => match d with
  | .int n => if r62 n then some (.ok ⟨(List.range n.toNat).map fun (k : Nat) => .int k, fun _ => True⟩ S1) else none
  | _ => none := rfl
@[simp] theorem x_for (it : SI) (h : SG) : sFor it h A ρ S = bo (it ρ S) ρ fun J S1 => forL J.chk h A J.xs ρ S1 := rfl
@[simp] theorem x_set (o i : SE) (d : D) : setF o i d ρ S = match bq (o ρ S) fun x S1 => bq (i ρ S1) fun y S2 => (match x, y with
    | .ref n, .int k => (match S2[n]? with
      | some (.lst xs) => (match ixN xs.length k with
        | some j => some (.ok () (S2.set n (.lst (xs.set j d))))
        | none => none)
      | _ => none)
    | _, _ => none) with
  | some (.ok _ S3) => some (ρ, S3)
  | _ => none := rfl
@[simp] theorem x_mt (ty : Rc) (F : Fn) (o : SE) (es : List SE) : eMt ty F o es ρ S = bd (o ρ S) fun d S1 => if rcB S1 ty d = true then bd (evL es ρ S1) fun ds S2 => F (d :: ds) S2 else none := rfl
@[simp] theorem x_sl (lo hi : Option SE) : eSl a lo hi ρ S = bd (a ρ S) fun d S1 =>
  bd (match lo with | none => some (.ok none S1) | some m => bd (m ρ S1) fun x S2 => match x with | .int i => some (.ok (some i) S2) | _ => none) fun l S3 =>
  bd (match hi with | none => some (.ok none S3) | some m => bd (m ρ S3) fun x S4 => match x with | .int i => some (.ok (some i) S4) | _ => none) fun h S5 => slD l h d S5 := rfl
end
section
variable {S : Store}
@[simp] theorem o_add (i j : Int) : addD (.int i) (.int j) S = some (.ok (.int (i + j)) S) := rfl
@[simp] theorem o_adds (a b : List Nat) : addD (.str a) (.str b) S = if a.length + b.length ≤ LINE then some (.ok (.str (a ++ b)) S) else none := rfl
@[simp] theorem o_addt (a b : List D) : addD (.tup a) (.tup b) S = if a.length + b.length ≤ LINE then some (.ok (.tup (a ++ b)) S) else none := rfl
@[simp] theorem o_addr (m n : Nat) : addD (.ref m) (.ref n) S = match S[m]?, S[n]? with
    | some (.lst a), some (.lst b) => if a.length + b.length ≤ LINE then some (.ok (.ref S.length) (S ++ [.lst (a ++ b)])) else none
    | _, _ => none := rfl
@[simp] theorem o_mult (a : List D) (k : Int) : mulD (.tup a) (.int k) S = if 0 < a.length ∧ a.length ≤ 1000 ∧ 2 ≤ k ∧ k ≤ 1000 then some (.ok (.tup (List.replicate k.toNat a).flatten) S) else none := rfl
@[simp] theorem o_mulr (m : Nat) (k : Int) : mulD (.ref m) (.int k) S = match S[m]? with
    | some (.lst a) => if -9223372036854775808 ≤ k ∧ k < 9223372036854775808 ∧ a.length * k.toNat ≤ LINE then some (.ok (.ref S.length) (S ++ [.lst (List.replicate k.toNat a).flatten])) else none
    | _ => none := rfl
@[simp] theorem o_sub (i j : Int) : subD (.int i) (.int j) S = some (.ok (.int (i - j)) S) := rfl
@[simp] theorem o_mul (i j : Int) : mulD (.int i) (.int j) S = if (small i ∨ small j) ∨ i.natAbs.log2 + j.natAbs.log2 < 1000000 then some (.ok (.int (i * j)) S) else none := rfl
@[simp] theorem o_fdiv (i j : Int) : fdivD (.int i) (.int j) S = if 0 < j ∧ j.natAbs.log2 < 9000 then some (.ok (.int (i / j)) S) else none := rfl
@[simp] theorem o_mod (i j : Int) : modD (.int i) (.int j) S = if 0 < j then some (.ok (.int (i % j)) S) else none := rfl
@[simp] theorem o_pow (i j : Int) : powD (.int i) (.int j) S = if 0 ≤ j ∧ j ≤ 1000000 ∧ small i then some (.ok (.int (i ^ j.toNat)) S) else none := rfl
@[simp] theorem o_neg (i : Int) : negD (.int i) S = some (.ok (.int (-i)) S) := rfl
@[simp] theorem o_lt (i j : Int) : ltD (.int i) (.int j) S = some (.ok (.bl (decide (i < j))) S) := rfl
@[simp] theorem o_le (i j : Int) : leD (.int i) (.int j) S = some (.ok (.bl (decide (i ≤ j))) S) := rfl
@[simp] theorem o_gt (i j : Int) : gtD (.int i) (.int j) S = some (.ok (.bl (decide (j < i))) S) := rfl
@[simp] theorem o_ge (i j : Int) : geD (.int i) (.int j) S = some (.ok (.bl (decide (j ≤ i))) S) := rfl
@[simp] theorem o_eq (i j : Int) : eqD (.int i) (.int j) S = some (.ok (.bl (decide (i = j))) S) := by
  unfold eqD dat
  simp [D.pd, PD.dep, PD.eqv]
  rfl
@[simp] theorem o_eqs (a b : List Nat) : eqD (.str a) (.str b) S = some (.ok (.bl (decide (a = b))) S) := by
  unfold eqD dat
  simp [D.pd, PD.dep, PD.eqv]
  exact Bool.eq_iff_iff.mpr (by simp)
@[simp] theorem o_eqb (a b : Bool) : eqD (.bl a) (.bl b) S = some (.ok (.bl (decide (a = b))) S) := by
  unfold eqD dat
  simp [D.pd, PD.dep, PD.eqv]
  rfl
@[simp] theorem o_ne (i j : Int) : neD (.int i) (.int j) S = some (.ok (.bl (!decide (i = j))) S) := by
  unfold neD dat
  simp [D.pd, PD.dep, PD.eqv]
  rfl
@[simp] theorem o_nes (a b : List Nat) : neD (.str a) (.str b) S = some (.ok (.bl (!decide (a = b))) S) := by
  unfold neD dat
  simp [D.pd, PD.dep, PD.eqv]
  exact Bool.eq_iff_iff.mpr (by simp)
@[simp] theorem o_neb (a b : Bool) : neD (.bl a) (.bl b) S = some (.ok (.bl (!decide (a = b))) S) := by
  unfold neD dat
  simp [D.pd, PD.dep, PD.eqv]
  rfl
@[simp] theorem o_ixs (s : List Nat) (i : Int) : ixD (.str s) (.int i) S = if s.length ≤ LINE then (match atI s i with | some c => some (.ok (.str [c]) S) | none => none) else none := rfl
@[simp] theorem o_ixt (xs : List D) (i : Int) : ixD (.tup xs) (.int i) S = match atI xs i with | some x => some (.ok x S) | none => none := rfl
@[simp] theorem o_ixf (xs : List D) (i : Int) : ixD (.fl xs) (.int i) S = match atI xs i with | some x => some (.ok x S) | none => none := rfl
@[simp] theorem o_ixr (n : Nat) (i : Int) : ixD (.ref n) (.int i) S = match seqOf S (.ref n) with | some xs => (match atI xs i with | some x => some (.ok x S) | none => none) | none => none := rfl
@[simp] theorem o_sqt (xs : List D) : seqOf S (.tup xs) = some xs := rfl
@[simp] theorem o_sqf (xs : List D) : seqOf S (.fl xs) = some xs := rfl
@[simp] theorem o_sqr (n : Nat) : seqOf S (.ref n) = match S[n]? with | some (.lst xs) => some xs | _ => none := rfl
@[simp] theorem o_lens (s : List Nat) : lenF [.str s] S = if s.length ≤ LINE then some (.ok (.int s.length) S) else none := rfl
@[simp] theorem o_lent (xs : List D) : lenF [.tup xs] S = some (.ok (.int xs.length) S) := rfl
@[simp] theorem o_lenf (xs : List D) : lenF [.fl xs] S = some (.ok (.int xs.length) S) := rfl
@[simp] theorem o_lenr (n : Nat) : lenF [.ref n] S = match seqOf S (.ref n) with | some xs => some (.ok (.int xs.length) S) | none => none := rfl
@[simp] theorem o_abs (i : Int) : absF [.int i] S = some (.ok (.int (if i < 0 then -i else i)) S) := rfl
@[simp] theorem o_max (i j : Int) : maxF [.int i, .int j] S = some (.ok (.int (if j > i then j else i)) S) := rfl
@[simp] theorem o_min (i j : Int) : minF [.int i, .int j] S = some (.ok (.int (if j < i then j else i)) S) := rfl
@[simp] theorem o_list (d : D) : listF [d] S = match seqOf S d with | some xs => some (.ok (.ref S.length) (S ++ [.lst xs])) | none => none := rfl
@[simp] theorem o_tuple (d : D) : tupleF [d] S = match seqOf S d with | some xs => some (.ok (.tup xs) S) | none => none := rfl
@[simp] theorem o_app (n : Nat) (x : D) : appendF [.ref n, x] S = match S[n]? with
    | some (.lst xs) => if xs.length < LINE then some (.ok .non (S.set n (.lst (xs ++ [x])))) else none
    | _ => none := rfl
@[simp] theorem o_pop (n : Nat) (i : Int) : popF [.ref n, .int i] S = match S[n]? with
    | some (.lst xs) => (match ixN xs.length i with
      | some k => (match xs[k]? with | some x => some (.ok x (S.set n (.lst (xs.eraseIdx k)))) | none => none)
      | none => none)
    | _ => none := rfl
@[simp] theorem o_rcr (n : Nat) (t : Rc) : rcB S t (.ref n) = match S[n]?, t with | some (.lst _), .list => true | some (.st _), .dict => true | _, _ => false := rfl
@[simp] theorem o_rcs (s : List Nat) (t : Rc) : rcB S t (.str s) = match t with | .str => true | _ => false := rfl
@[simp] theorem o_itr (n : Nat) : itmOf (.ref n) S = match S[n]? with
    | some (.lst xs) => some (.ok ⟨xs, fun S => S[n]? = some (.lst xs)⟩ S)
    | _ => none := rfl
@[simp] theorem o_itt (xs : List D) : itmOf (.tup xs) S = some (.ok ⟨xs, fun _ => True⟩ S) := rfl
@[simp] theorem o_itf (xs : List D) : itmOf (.fl xs) S = some (.ok ⟨xs, fun _ => True⟩ S) := rfl
@[simp] theorem o_its (s : List Nat) : itmOf (.str s) S = some (.ok ⟨s.map fun c => .str [c], fun _ => True⟩ S) := rfl
@[simp] theorem lg_lt {n : Nat} (h : n < 18446744073709551616) : n.log2 < 9000 := by
  by_cases h0 : n = 0
  · subst h0; decide
  · exact Nat.lt_of_lt_of_le ((Nat.log2_lt h0).mpr (show n < 2 ^ 64 from h)) (by decide)
@[simp] theorem leLINE {n : Nat} (h : n ≤ 16777216) : n ≤ LINE := by rw [LINE_eq]; exact h
@[simp] theorem ltLINE {n : Nat} (h : n < 16777216) : n < LINE := by rw [LINE_eq]; exact h
@[simp] theorem r62_nat {n : Nat} (h : n ≤ 1000000000) : r62 (n : Int) := (r62_iff _).mpr (by omega)
@[simp] theorem r62_lit {i : Int} (h0 : -1000000000 ≤ i) (h1 : i ≤ 1000000000) : r62 i := (r62_iff _).mpr (by omega)
theorem r62_of {i : Int} (h0 : -1000000000 ≤ i) (h1 : i ≤ 1000000000) : r62 i := (r62_iff _).mpr (by omega)
@[simp] theorem r62_0 : r62 0 := r62_of (by decide) (by decide)
@[simp] theorem r62_1 : r62 1 := r62_of (by decide) (by decide)
@[simp] theorem small_0 : small 0 := (small_iff _).mpr (by decide)
@[simp] theorem small_1 : small 1 := (small_iff _).mpr (by decide)
@[simp] theorem small_nat {n : Nat} (h : n < 18446744073709551616) : small (n : Int) := (small_iff _).mpr (by omega)
@[simp] theorem small_lit {i : Int} (h0 : -1000000000000000000 ≤ i) (h1 : i ≤ 1000000000000000000) : small i := (small_iff _).mpr (by omega)
theorem at0 {α : Type} (x : α) (xs : List α) : atI (x :: xs) 0 = some x := by simp [atI, ixN]
@[simp] theorem ixN_lit (n : Nat) (k : Nat) : ixN n (OfNat.ofNat k) = if k < n then some k else none := by
  unfold ixN
  rw [if_pos (by exact Int.natCast_nonneg k)]
  by_cases h : k < n
  · rw [if_pos h, if_pos (by exact Int.ofNat_lt.mpr h)]; rfl
  · rw [if_neg h, if_neg (by exact fun g => h (Int.ofNat_lt.mp g))]
end
end Z
namespace Z
open PySem PySem.Spec PyProof.Rows L2
theorem _root_.L2.Room.u65 {k : Nat} {A : Around} (r : Room k A) : A.units + 65 < cLine := by have := r.un; omega
/-! ### += of whole numbers -/
section
variable {X : Cx}
theorem no_iadd : NoEx iaddD := by
  intro d e S c S' h
  cases d <;> cases e <;> cases h
theorem zi_add : OpR X (inplaceOp .Add) (r2 X iaddD) := by
  intro pins s σ H x y v u Q I rx ry ⟨ι, S, d, e, sm, rd, re, po⟩
  cases d <;> cases e <;> first
    | exact False.elim po
    | skip
  case int.int i j =>
    rw [Rep] at rd re
    subst rd re
    exact iop_add pins s σ H _ _ v u Q I rx ry ⟨i, j, rfl, rfl, Po.ret po sm (by rw [Rep])⟩
end
section
variable {P : Program} {w : World} {K : PySem.W.Frag} {mg : Mg} {base : Heap}
/-- THE RULE for a def that is taken by its body -/
theorem fn_run {x qual : Str} {st : Stmt} {f : Addr} {fd : FuncData} {N ps : List Str} {k n : Nat} {b : SS} (Fu : Fun K x qual st f fd) (S : FnScope N ps (defScope st)) (hn : n = ps.length)
    (der : ∀ (cdv : Value) (A : Around) (outer : List PySem.Env) (s : Shared) (H : Hp) (E : XK), Room k (A.deeper (envOfC qual (defScope st) s.heap.objs.size f cdv)) → GSs (cx P w K mg base N qual st f cdv A outer s H E) (wE E) (defBody st) b) :
    FnOk P w K mg base (L2.CX P w) (k + 1) f fd ps (spF K mg (runF n N.length b)) := by
  subst hn
  have hpl : ps.length ≤ N.length := by have := congrArg List.length S.pre; rw [List.length_take] at this; omega
  refine Fu.okX S (fun vs H Q E h => ?_) (fun cdv A outer s H vs Q E hr h => ?_)
  · obtain ⟨ι, S, ds, s, r, p⟩ := h
    rw [r.length]
    exact runF_len fun e => by rw [e] at p; exact p
  · refine ⟨_, der cdv A outer s H E hr, ?_⟩
    obtain ⟨ι, S0, ds, s0, r, p⟩ := h
    have hl : ds.length = ps.length := runF_len (fun e => by rw [e] at p; exact p)
    refine ⟨ι, env0 N.length ds, S0, s0, .start r (by rw [hl]; exact hpl), ?_⟩
    unfold runF at p
    rw [if_pos hl] at p
    match g : b (env0 N.length ds) S0, p with
    | none, p => exact p.elim
    | some (.rt d S'), p => exact fun ι1 H1 v e1 s1 r1 => p ι1 H1 v e1 s1 r1
    | some (.nx ρ S'), p => exact fun ι1 H1 σ1 e1 s1 r1 => p ι1 H1 .non e1 s1 (by rw [Rep])
    | some (.ex c ρ S'), p => exact fun ι1 H1 σ1 cls e1 s1 r1 g1 => p ι1 H1 cls e1 s1 g1
    | some (.bk ρ S'), p => exact p.elim
    | some (.ct ρ S'), p => exact p.elim
/-- the law's own promise -/
def spL (K : PySem.W.Frag) (R : Fn) : Sp := fun vs H Q _ => ∃ (a : Addr) (ns : List Int), vs = [.ref a] ∧ FzL K H a (ns.map V.int) ∧ Only H ∧ (∃ S', R [.fl (ns.map .int)] [] = some (.ok (.bl true) S')) ∧ ∀ H', Q (.bl true) H'
theorem repL_ints {ι : List Addr} {H : Hp} : ∀ ns : List Int, RepL K ι H (ns.map .int) (ns.map V.int)
  | [] => by rw [List.map_nil, RepL]; rfl
  | n :: r => by rw [List.map_cons, RepL]; exact ⟨_, _, rfl, by rw [Rep], repL_ints r⟩
theorem sim_nil {H : Hp} : Sim K [] [] H := ⟨rfl, List.Pairwise.nil, fun i o a h _ => by simp at h⟩
theorem law_ok {f : Addr} {fd : FuncData} {ps : List Str} {k : Nat} {R : Fn} (h : FnOk P w K mg base (L2.CX P w) k f fd ps (spF K mg R)) : FnOk P w K mg base (L2.CX P w) k f fd ps (spL K R) :=
  h.imp fun vs H Q E ⟨a, ns, e, hz, ho, ⟨S', hR⟩, q⟩ => by
    subst e
    refine ⟨[], [], [.fl (ns.map .int)], sim_nil, ?_, ?_⟩
    · rw [RepL]
      exact ⟨_, _, rfl, by rw [Rep]; exact ⟨a, _, rfl, hz, repL_ints ns⟩, by rw [RepL]⟩
    · rw [hR]
      intro ι' H' v e1 s1 r1
      rw [Rep] at r1
      subst r1
      exact q H'
theorem fz_only {H : Hp} {a : Addr} {xs : List V} (ho : Only H) (h : SqL K H a xs) : FzL K H a xs := by
  rcases h with (h | h) | h
  · rcases ho a with e | ⟨o, ys, e⟩
    · rw [e] at h; cases h
    · rw [e] at h; cases h
  · exact .inl h
  · exact .inr h
end
/-- THE END: R answers True at every script of at most n numbers -/
theorem walkZ {l : PySem.W.OpenLaw} {n k : Nat} {q : Program} {loose : List Str} {XP : (Str → Option Value) → Heap → Prop} {YP : World → Heap → Prop} {d : DefRec} {K : Params → PySem.W.Frag} {R : Fn}
    (hn : l.most = some n) (hn2 : n ≤ sizeLine) (hr : Room k callerA) (hdf : d.params.defaults = [])
    (hY : ∀ (w : World) (h : Heap), YP w h → (K w.params).In h)
    (hR : ∀ ns : List Int, ns.length ≤ n → (∀ z ∈ ns, Builtin.Int.intBits z ≤ 1048576) → ∃ S', R [.fl (ns.map .int)] [] = some (.ok (.bl true) S'))
    (F : ∀ (w : World) (mg : Str → Option Value) (fa : Addr) (h : Heap), (K w.params).In h → h.Ns mainGlobals mg → mg d.name = some (.ref fa) →
      ∃ fd : FuncData, (∀ (s : Shared) (u : Value), BindsTo s fd ⟨[u], []⟩ [("script", u)]) ∧ ∀ base : Heap, (K w.params).In base → base.Ns mainGlobals mg → FnOk l.prog w (K w.params) mg base (L2.CX l.prog w) k fa fd ["script"] (spF (K w.params) mg R)) :
    PySem.W.WalkO q loose XP YP l.row.toRowW d [] (fun f vs => PySem.call f vs) :=
  L2.walk_ofB (x := "script") (CX := fun w => L2.CX l.prog w) (sp := fun w => spL (K w.params) R) hn hn2 hdf hr hY
    (fun w mg fa h X G hm => let ⟨fd, hb, hF⟩ := F w mg fa h X G hm; ⟨fd, hb, fun base X' G' => law_ok (hF base X' G')⟩)
    (fun w H a ns hl hb hO hS => ⟨a, ns, rfl, fz_only hO hS, hO, hR ns hl hb, fun _ => rfl⟩)
    (fun w H s e s' ⟨_, _, _, _, _, _, _, _, _, _, _, _, h⟩ => h)
section
variable {X : Cx} {W : WX} {pos : Pos}
/-- a text of the module -/
theorem ge_gs {x s : Str} {t : Tok} {cs : List Nat} (hm : X.mg x = some (.str s t)) (hs : s = str cs) (ha : (cs.all fun c => decide (c < 128)) = true) (hg : Gl X x) (hd : (x == ("__debug__" : Str)) = false := by decide) : GE X W (.Name x pos) (eC (.str cs)) :=
  ge_glob (v := .str s) hg hm ⟨_, rfl⟩ (fun _ _ => by rw [Rep]; exact ⟨by rw [hs], fun c hc => of_decide_eq_true (List.all_eq_true.mp ha c hc)⟩) hd
theorem ge_gi {x : Str} {i : Int} {t : Tok} (hm : X.mg x = some (.int i t)) (hg : Gl X x) (hd : (x == ("__debug__" : Str)) = false := by decide) : GE X W (.Name x pos) (eC (.int i)) :=
  ge_glob (v := .int i) hg hm ⟨_, rfl⟩ (fun _ _ => by rw [Rep]) hd
end
end Z
namespace Z
open PySem PySem.Spec PyProof.Rows L2
theorem fnok_none {P : Program} {w : World} {K : PySem.W.Frag} {mg : Mg} {base : Heap} {f : Addr} {fd : FuncData} {ps : List Str} {k : Nat} : FnOk P w K mg base (L2.CX P w) k f fd ps (spF K mg fun _ _ => none) :=
  ⟨fun _ _ _ _ ⟨_, _, _, _, _, p⟩ => False.elim p, fun _ _ _ _ _ _ _ _ _ _ _ _ _ ⟨_, _, _, _, _, p⟩ => False.elim p⟩
end Z
namespace Z
/-! ### more built-ins -/
def intsL : List D → Option (List Int)
  | [] => some []
  | .int i :: r => (intsL r).map (i :: ·)
  | _ :: _ => none
theorem intsL_map : ∀ ns : List Int, intsL (ns.map .int) = some ns
  | [] => rfl
  | n :: r => by simp [intsL, intsL_map r]
theorem intsL_eq : ∀ {ds : List D} {ns : List Int}, intsL ds = some ns → ds = ns.map .int
  | [], ns, h => by cases h; rfl
  | d :: ds, ns, h => by
    cases d with
    | int i =>
      rw [intsL] at h
      obtain ⟨ms, h1, rfl⟩ := Option.map_eq_some_iff.mp h
      rw [intsL_eq h1]; rfl
    | _ => cases h
def strsL : List D → Option (List (List Nat))
  | [] => some []
  | .str s :: r => (strsL r).map (s :: ·)
  | _ :: _ => none
theorem strsL_map : ∀ ns : List (List Nat), strsL (ns.map .str) = some ns
  | [] => rfl
  | n :: r => by simp [strsL, strsL_map r]
theorem strsL_eq : ∀ {ds : List D} {ns : List (List Nat)}, strsL ds = some ns → ds = ns.map .str
  | [], ns, h => by cases h; rfl
  | d :: ds, ns, h => by
    cases d with
    | str i =>
      rw [strsL] at h
      obtain ⟨ms, h1, rfl⟩ := Option.map_eq_some_iff.mp h
      rw [strsL_eq h1]; rfl
    | _ => cases h
def intF : Fn := fun ds S => match ds with
  | [.int i] => some (.ok (.int i) S)
  | [.bl b] => some (.ok (.int (if b = true then 1 else 0)) S)
  | _ => none
/-- a number's figures -/
def dec (i : Int) : List Nat := (toString i).toList.map Char.toNat
def strF : Fn := fun ds S => match ds with
  | [.int i] => if i.natAbs.log2 < 1920 then some (.ok (.str (dec i)) S) else none
  | [.str s] => some (.ok (.str s) S)
  | _ => none
def joinS (sep : List Nat) : List (List Nat) → List Nat
  | [] => []
  | [x] => x
  | x :: y :: r => x ++ sep ++ joinS sep (y :: r)
def joinF : Fn := fun ds S => match ds with
  | [.str sep, .ref n] => (match S[n]? with
    | some (.lst xs) => (match strsL xs with
      | some ys => if (ys.map List.length).sum + ys.length * sep.length ≤ 16777216 then some (.ok (.str (joinS sep ys)) S) else none
      | none => none)
    | _ => none)
  | _ => none
def sumF : Fn := fun ds S => match ds with
  | [.ref n] => (match S[n]? with
    | some (.lst xs) => (match intsL xs with
      | some ys => some (.ok (.int ys.sum) S)
      | none => none)
    | _ => none)
  | _ => none
def maxI : List Int → Option Int
  | [] => none
  | x :: r => some (r.foldl max x)
def minI : List Int → Option Int
  | [] => none
  | x :: r => some (r.foldl min x)
def maxLF : Fn := fun ds S => match ds with
  | [.ref n] => (match S[n]? with
    | some (.lst xs) => (match (intsL xs).bind maxI with
      | some y => some (.ok (.int y) S)
      | none => none)
    | _ => none)
  | _ => none
def minLF : Fn := fun ds S => match ds with
  | [.ref n] => (match S[n]? with
    | some (.lst xs) => (match (intsL xs).bind minI with
      | some y => some (.ok (.int y) S)
      | none => none)
    | _ => none)
  | _ => none
theorem foldl_max_mem : ∀ (r : List Int) (x : Int), r.foldl max x ∈ x :: r
  | [], x => by simp
  | y :: r, x => by
    have h := foldl_max_mem r (max x y)
    rw [List.foldl_cons]
    rcases List.mem_cons.mp h with h | h
    · rw [h]
      by_cases c : x ≤ y
      · rw [Int.max_eq_right c]; simp
      · rw [Int.max_eq_left (by omega)]; simp
    · simp [h]
theorem foldl_max_le : ∀ (r : List Int) (x : Int), ∀ z ∈ x :: r, z ≤ r.foldl max x
  | [], x, z, h => by simp at h; subst h; exact Int.le_refl _
  | y :: r, x, z, h => by
    rw [List.foldl_cons]
    have h1 := foldl_max_le r (max x y)
    rcases List.mem_cons.mp h with h | h
    · subst h; exact Int.le_trans (Int.le_max_left z y) (h1 _ (by simp))
    · rcases List.mem_cons.mp h with h | h
      · subst h; exact Int.le_trans (Int.le_max_right x z) (h1 _ (by simp))
      · exact h1 z (by simp [h])
theorem foldl_min_mem : ∀ (r : List Int) (x : Int), r.foldl min x ∈ x :: r
  | [], x => by simp
  | y :: r, x => by
    have h := foldl_min_mem r (min x y)
    rw [List.foldl_cons]
    rcases List.mem_cons.mp h with h | h
    · rw [h]
      by_cases c : x ≤ y
      · rw [Int.min_eq_left c]; simp
      · rw [Int.min_eq_right (by omega)]; simp
    · simp [h]
theorem foldl_min_le : ∀ (r : List Int) (x : Int), ∀ z ∈ x :: r, r.foldl min x ≤ z
  | [], x, z, h => by simp at h; subst h; exact Int.le_refl _
  | y :: r, x, z, h => by
    rw [List.foldl_cons]
    have h1 := foldl_min_le r (min x y)
    rcases List.mem_cons.mp h with h | h
    · subst h; exact Int.le_trans (h1 _ (by simp)) (Int.min_le_left z y)
    · rcases List.mem_cons.mp h with h | h
      · subst h; exact Int.le_trans (h1 _ (by simp)) (Int.min_le_right x z)
      · exact h1 z (by simp [h])
theorem max_same {ns : List Int} {m y : Int} (h : maxI ns = some y) (h1 : m ∈ ns) (h2 : ∀ z ∈ ns, z ≤ m) : m = y := by
  cases ns with
  | nil => cases h
  | cons x r =>
    cases h
    exact Int.le_antisymm (foldl_max_le r x m h1) (h2 _ (foldl_max_mem r x))
theorem min_same {ns : List Int} {m y : Int} (h : minI ns = some y) (h1 : m ∈ ns) (h2 : ∀ z ∈ ns, m ≤ z) : m = y := by
  cases ns with
  | nil => cases h
  | cons x r =>
    cases h
    exact Int.le_antisymm (h2 _ (foldl_min_mem r x)) (foldl_min_le r x m h1)
/-- the numbers lo, lo + c, .., n of them -/
def stepsL (lo c : Int) (n : Nat) : List D := (List.range n).map fun (k : Nat) => .int (lo + (k : Int) * c)
/-- range(a, b) -/
noncomputable def iR2 (a b : SE) : SI := fun ρ S => bd (a ρ S) fun d S1 => bd (b ρ S1) fun e S2 => match d, e with
  | .int i, .int j => if r62 i ∧ r62 j then some (.ok ⟨(List.range (j - i).toNat).map fun (k : Nat) => .int (i + k), fun _ => True⟩ S2) else none
  | _, _ => none
@[irreducible] def r24 (i j k : Int) : Prop := (0 ≤ i ∧ i < 16777216) ∧ (0 ≤ j ∧ j < 16777216) ∧ 0 < k ∧ k < 16777216
theorem r24_iff (i j k : Int) : r24 i j k ↔ (0 ≤ i ∧ i < 16777216) ∧ (0 ≤ j ∧ j < 16777216) ∧ 0 < k ∧ k < 16777216 := by unfold r24; exact Iff.rfl
noncomputable instance (i j k : Int) : Decidable (r24 i j k) := Classical.propDecidable _
/-- range(a, b, c), c above 0 -/
noncomputable def iR3 (a b c : SE) : SI := fun ρ S => bd (a ρ S) fun d S1 => bd (b ρ S1) fun e S2 => bd (c ρ S2) fun f S3 => match d, e, f with
  | .int i, .int j, .int k => if r24 i j k then some (.ok ⟨stepsL i k (if i < j then ((j - i - 1) / k + 1).toNat else 0), fun _ => True⟩ S3) else none
  | _, _, _ => none
/-- list(range(n)) -/
noncomputable def eLR (a : SE) : SE := fun ρ S => bd (a ρ S) fun d S1 => match d with
  | .int n => if r62 n ∧ n.toNat ≤ LINE then new1 (.lst ((List.range n.toNat).map fun (k : Nat) => .int k)) S1 else none
  | _ => none
section
variable {S : Store} {ρ : Env}
@[simp] theorem o_int (i : Int) : intF [.int i] S = some (.ok (.int i) S) := rfl
@[simp] theorem o_intb (b : Bool) : intF [.bl b] S = some (.ok (.int (if b = true then 1 else 0)) S) := rfl
@[simp] theorem o_str (i : Int) : strF [.int i] S = if i.natAbs.log2 < 1920 then some (.ok (.str (dec i)) S) else none := rfl
@[simp] theorem o_join (sep : List Nat) (n : Nat) : joinF [.str sep, .ref n] S = match S[n]? with
    | some (.lst xs) => (match strsL xs with
      | some ys => if (ys.map List.length).sum + ys.length * sep.length ≤ 16777216 then some (.ok (.str (joinS sep ys)) S) else none
      | none => none)
    | _ => none := rfl
@[simp] theorem o_sum (n : Nat) : sumF [.ref n] S = match S[n]? with
    | some (.lst xs) => (match intsL xs with
      | some ys => some (.ok (.int ys.sum) S)
      | none => none)
    | _ => none := rfl
@[simp] theorem o_maxL (n : Nat) : maxLF [.ref n] S = match S[n]? with
    | some (.lst xs) => (match (intsL xs).bind maxI with
      | some y => some (.ok (.int y) S)
      | none => none)
    | _ => none := rfl
@[simp] theorem x_r2 (a b : SE) : iR2 a b ρ S = bd (a ρ S) fun d S1 => bd (b ρ S1) fun e S2 => match d, e with
  | .int i, .int j => if r62 i ∧ r62 j then some (.ok ⟨(List.range (j - i).toNat).map fun (k : Nat) => .int (i + k), fun _ => True⟩ S2) else none
  | _, _ => none := rfl
@[simp] theorem x_r3 (a b c : SE) : iR3 a b c ρ S = bd (a ρ S) fun d S1 => bd (b ρ S1) fun e S2 => bd (c ρ S2) fun f S3 => match d, e, f with
  | .int i, .int j, .int k => if r24 i j k then some (.ok ⟨stepsL i k (if i < j then ((j - i - 1) / k + 1).toNat else 0), fun _ => True⟩ S3) else none
  | _, _, _ => none := rfl
@[simp] theorem x_lr (a : SE) : eLR a ρ S = bd (a ρ S) fun d S1 => match d with
  | .int n => if r62 n ∧ n.toNat ≤ LINE then some (.ok (.ref S1.length) (S1 ++ [.lst ((List.range n.toNat).map fun (k : Nat) => .int k)])) else none
  | _ => none := rfl
end
end Z
namespace Z
/-! ### x in range(n) -/
def inRb (n : Int) : PD → Bool
  | .int i => decide (0 ≤ i ∧ i < n)
  | .bl b => decide ((if b = true then (1 : Int) else 0) < n)
  | _ => false
def inRD : D → D → Store → M D := fun d e S => match e with
  | .int n => (match dat S d with
    | some x => if x.dep ≤ 60 ∧ 0 ≤ n ∧ n ≤ 1000 then some (.ok (.bl (inRb n x)) S) else none
    | none => none)
  | _ => none
end Z
namespace Z
/-- d[::-1] -/
def revD : D → Store → M D := fun d S => match d with
  | .ref n => (match S[n]? with
    | some (.lst xs) => new1 (.lst xs.reverse) S
    | _ => none)
  | _ => none
end Z
namespace Z
/-- text.split(c): cur, what stands ahead -/
def splitA (c : Nat) : List Nat → List Nat → List (List Nat)
  | cur, [] => [cur]
  | cur, x :: r => if x = c then cur :: splitA c [] r else splitA c (cur ++ [x]) r
def splitF : Fn := fun ds S => match ds with
  | [.str s, .str [c]] => if s.length + 2 ≤ 16777216 then new1 (.lst ((splitA c [] s).map .str)) S else none
  | _ => none
end Z
namespace Z
/-- int(word), a figure's too -/
def intTF : Fn := fun ds S => match ds with
  | [.str [k]] => if 48 ≤ k ∧ k ≤ 57 then some (.ok (.int ((k : Int) - 48)) S) else none
  | ds => intF ds S
@[simp] theorem o_intT (k : Nat) (S : Store) : intTF [.str [k]] S = if 48 ≤ k ∧ k ≤ 57 then some (.ok (.int ((k : Int) - 48)) S) else none := rfl
@[simp] theorem o_split (s : List Nat) (c : Nat) (S : Store) : splitF [.str s, .str [c]] S = if s.length + 2 ≤ 16777216 then some (.ok (.ref S.length) (S ++ [.lst ((splitA c [] s).map .str)])) else none := rfl
@[simp] theorem o_rev (n : Nat) (S : Store) : revD (.ref n) S = match S[n]? with
    | some (.lst xs) => some (.ok (.ref S.length) (S ++ [.lst xs.reverse]))
    | _ => none := rfl
theorem splitA_mem (c : Nat) : ∀ (l cur : List Nat), ∀ q ∈ splitA c cur l, ∀ k ∈ q, k ∈ cur ∨ k ∈ l
  | [], cur, q, hq, k, hk => by simp [splitA] at hq; subst hq; exact .inl hk
  | x :: r, cur, q, hq, k, hk => by
    rw [splitA] at hq
    split at hq
    · rcases List.mem_cons.mp hq with rfl | hq
      · exact .inl hk
      · rcases splitA_mem c r [] q hq k hk with h | h
        · cases h
        · exact .inr (List.mem_cons_of_mem _ h)
    · rcases splitA_mem c r (cur ++ [x]) q hq k hk with h | h
      · rcases List.mem_append.mp h with h | h
        · exact .inl h
        · simp at h; subst h; exact .inr (by simp)
      · exact .inr (List.mem_cons_of_mem _ h)
end Z
namespace Z
/-- try: b, except the class x: h -/
def sTry (x : String) (b h : SS) : SS := fun ρ S => match b ρ S with
  | some (.ex c ρ1 S1) => if c = x then h ρ1 S1 else none
  | o => o
@[simp] theorem x_raise (c : String) (ρ : Env) (S : Store) : sRaise c ρ S = some (.ex c ρ S) := rfl
@[simp] theorem x_try (x : String) (b h : SS) (ρ : Env) (S : Store) : sTry x b h ρ S = match b ρ S with
    | some (.ex c ρ1 S1) => if c = x then h ρ1 S1 else none
    | o => o := rfl
end Z
namespace Z
/-! ### dicts of tuple keys -/
def k0 : D → Bool
  | .int _ => true
  | .str _ => true
  | _ => false
def kEq0 : D → D → Bool
  | .int i, .int j => decide (i = j)
  | .str s, .str t => decide (s = t)
  | _, _ => false
def kEqL : List D → List D → Bool
  | [], [] => true
  | x :: xs, y :: ys => kEq0 x y && kEqL xs ys
  | _, _ => false
def tget (kvs : List (List D × D)) (k : List D) : Option D := (kvs.find? fun p => kEqL p.1 k).map (·.2)
def tput (kvs : List (List D × D)) (k : List D) (v : D) : List (List D × D) :=
  if (kvs.any fun p => kEqL p.1 k) = true then kvs.map (fun p => if kEqL p.1 k = true then (p.1, v) else p) else kvs ++ [(k, v)]
def eDctT : SE := fun _ S => new1 (.st []) S
/-- (a, ..) not in d -/
def eTNi (es : List SE) (d : SE) : SE := fun ρ S => bd (evL es ρ S) fun ks S1 => bd (d ρ S1) fun x S2 => match x with
  | .ref n => (match S2[n]? with
    | some (.st kvs) => if ks.all k0 = true then some (.ok (.bl (!(tget kvs ks).isSome)) S2) else none
    | _ => none)
  | _ => none
/-- d[a, ..] -/
def eTGet (d : SE) (es : List SE) : SE := fun ρ S => bd (d ρ S) fun x S1 => bd (evL es ρ S1) fun ks S2 => match x with
  | .ref n => (match S2[n]? with
    | some (.st kvs) => if ks.all k0 = true then (match tget kvs ks with | some v => some (.ok v S2) | none => none) else none
    | _ => none)
  | _ => none
/-- d[a, ..] = v -/
def sTPut (d : SE) (es : List SE) (v : SE) : SS := fun ρ S => bo (v ρ S) ρ fun w S1 => bo (d ρ S1) ρ fun x S2 => bo (evL es ρ S2) ρ fun ks S3 => match x with
  | .ref n => (match S3[n]? with
    | some (.st kvs) => if ks.all k0 = true ∧ ks.length ≤ 1000 ∧ kvs.length < 1000000 then some (.nx ρ (S3.set n (.st (tput kvs ks w)))) else none
    | _ => none)
  | _ => none
section
variable {ρ : Env} {S : Store}
@[simp] theorem x_dctT : eDctT ρ S = some (.ok (.ref S.length) (S ++ [.st []])) := rfl
@[simp] theorem x_tni (es : List SE) (d : SE) : eTNi es d ρ S = bd (evL es ρ S) fun ks S1 => bd (d ρ S1) fun x S2 => match x with
  | .ref n => (match S2[n]? with
    | some (.st kvs) => if ks.all k0 = true then some (.ok (.bl (!(tget kvs ks).isSome)) S2) else none
    | _ => none)
  | _ => none := rfl
@[simp] theorem x_tget (es : List SE) (d : SE) : eTGet d es ρ S = bd (d ρ S) fun x S1 => bd (evL es ρ S1) fun ks S2 => match x with
  | .ref n => (match S2[n]? with
    | some (.st kvs) => if ks.all k0 = true then (match tget kvs ks with | some v => some (.ok v S2) | none => none) else none
    | _ => none)
  | _ => none := rfl
@[simp] theorem x_tput (es : List SE) (d v : SE) : sTPut d es v ρ S = bo (v ρ S) ρ fun w S1 => bo (d ρ S1) ρ fun x S2 => bo (evL es ρ S2) ρ fun ks S3 => match x with
  | .ref n => (match S3[n]? with
    | some (.st kvs) => if ks.all k0 = true ∧ ks.length ≤ 1000 ∧ kvs.length < 1000000 then some (.nx ρ (S3.set n (.st (tput kvs ks w)))) else none
    | _ => none)
  | _ => none := rfl
end
end Z
namespace Z
/-- repr(i) -/
def reprIF : Fn := fun ds S => match ds with
  | [.int i] => if i.natAbs.log2 < 1920 then some (.ok (.str (dec i)) S) else none
  | _ => none
@[simp] theorem o_reprI (i : Int) (S : Store) : reprIF [.int i] S = if i.natAbs.log2 < 1920 then some (.ok (.str (dec i)) S) else none := rfl
end Z
namespace Z
/-! ### dicts of tuple keys, keys of any expression -/
def kvL : D → Option (List D)
  | .tup ks => if ks.all k0 = true then some ks else none
  | _ => none
/-- a dict as it is read: it may be locked by a walk -/
def stAt (S : Store) : D → Option (List (List D × D))
  | .ref n => (match S[n]? with | some (.st kvs) => some kvs | some (.dct kvs) => some kvs | _ => none)
  | _ => none
def kIn (x y : D) (S : Store) : M D := match kvL x, stAt S y with
  | some ks, some kvs => some (.ok (.bl (tget kvs ks).isSome) S)
  | _, _ => none
def kNi (x y : D) (S : Store) : M D := match kvL x, stAt S y with
  | some ks, some kvs => some (.ok (.bl (!(tget kvs ks).isSome)) S)
  | _, _ => none
def kGet (y x : D) (S : Store) : M D := match kvL x, stAt S y with
  | some ks, some kvs => (match tget kvs ks with | some v => some (.ok v S) | none => none)
  | _, _ => none
/-- d[k] = v -/
def sKPut (d k v : SE) : SS := fun ρ S => bo (v ρ S) ρ fun w S1 => bo (d ρ S1) ρ fun y S2 => bo (k ρ S2) ρ fun x S3 => match y, kvL x with
  | .ref n, some ks => (match S3[n]? with
    | some (.st kvs) => if kvs.length < 1000000 then some (.nx ρ (S3.set n (.st (tput kvs ks w)))) else none
    | _ => none)
  | _, _ => none
/-- {k: v} -/
def eDct1 (k v : SE) : SE := fun ρ S => bd (k ρ (S ++ [.st []])) fun x S1 => bd (v ρ S1) fun w S2 => match kvL x, S2[S.length]? with
  | some ks, some (.st []) => some (.ok (.ref S.length) (S2.set S.length (.st [(ks, w)])))
  | _, _ => none
def prOf : List D → Option (List (List D × D))
  | [] => some []
  | .tup [k, v] :: r => (match kvL k, prOf r with | some ks, some t => some ((ks, v) :: t) | _, _ => none)
  | _ => none
/-- dict(xs), of a list of pairs -/
def dictF : Fn := fun ds S => match ds with
  | [.ref n] => (match S[n]? with
    | some (.lst xs) => (match prOf xs with
      | some kvs => if kvs.length < 1000000 then new1 (.st (kvs.foldl (fun acc p => tput acc p.1 p.2) [])) S else none
      | none => none)
    | _ => none)
  | _ => none
def i0 : D → Bool
  | .int _ => true
  | _ => false
/-- what is walked: the keys of a dict that is locked -/
def iKeyD (d : SE) : SI := fun ρ S => bd (d ρ S) fun y S1 => match y with
  | .ref n => (match S1[n]? with
    | some (.dct kvs) => if (kvs.all fun p => p.1.all i0) = true then some (.ok ⟨kvs.map fun p => .tup p.1, fun S => S[n]? = some (.dct kvs)⟩ S1) else none
    | _ => none)
  | _ => none
open Classical in
/-- a statement while the dict that name i holds is locked -/
noncomputable def sLock (i : Nat) (m : SS) : SS := fun ρ S => match ρ[i]? with
  | some (some (.ref n)) => (match S[n]? with
    | some (.st kvs) => (match m ρ (S.set n (.dct kvs)) with
      | some (.nx ρ1 S1) => if S1[n]? = some (.dct kvs) then some (.nx ρ1 (S1.set n (.st kvs))) else none
      | some (.rt d S1) => if S1[n]? = some (.dct kvs) then some (.rt d (S1.set n (.st kvs))) else none
      | _ => none)
    | _ => none)
  | _ => none
section
variable {ρ : Env} {S : Store}
@[simp] theorem x_kput (d k v : SE) : sKPut d k v ρ S = bo (v ρ S) ρ fun w S1 => bo (d ρ S1) ρ fun y S2 => bo (k ρ S2) ρ fun x S3 => match y, kvL x with
  | .ref n, some ks => (match S3[n]? with
    | some (.st kvs) => if kvs.length < 1000000 then some (.nx ρ (S3.set n (.st (tput kvs ks w)))) else none
    | _ => none)
  | _, _ => none := rfl
@[simp] theorem x_dct1 (k v : SE) : eDct1 k v ρ S = bd (k ρ (S ++ [.st []])) fun x S1 => bd (v ρ S1) fun w S2 => match kvL x, S2[S.length]? with
  | some ks, some (.st []) => some (.ok (.ref S.length) (S2.set S.length (.st [(ks, w)])))
  | _, _ => none := rfl
@[simp] theorem x_keyD (d : SE) : iKeyD d ρ S = bd (d ρ S) fun y S1 => match y with
  | .ref n => (match S1[n]? with
    | some (.dct kvs) => if (kvs.all fun p => p.1.all i0) = true then some (.ok ⟨kvs.map fun p => .tup p.1, fun S => S[n]? = some (.dct kvs)⟩ S1) else none
    | _ => none)
  | _ => none := rfl
@[simp] theorem o_kvL (ks : List D) : kvL (.tup ks) = if ks.all k0 = true then some ks else none := rfl
@[simp] theorem o_stAt (n : Nat) : stAt S (.ref n) = (match S[n]? with | some (.st kvs) => some kvs | some (.dct kvs) => some kvs | _ => none) := rfl
@[simp] theorem o_kIn (x y : D) : kIn x y S = match kvL x, stAt S y with
  | some ks, some kvs => some (.ok (.bl (tget kvs ks).isSome) S)
  | _, _ => none := rfl
@[simp] theorem o_kNi (x y : D) : kNi x y S = match kvL x, stAt S y with
  | some ks, some kvs => some (.ok (.bl (!(tget kvs ks).isSome)) S)
  | _, _ => none := rfl
@[simp] theorem o_kGet (x y : D) : kGet y x S = match kvL x, stAt S y with
  | some ks, some kvs => (match tget kvs ks with | some v => some (.ok v S) | none => none)
  | _, _ => none := rfl
@[simp] theorem o_dictF (n : Nat) : dictF [.ref n] S = (match S[n]? with
    | some (.lst xs) => (match prOf xs with
      | some kvs => if kvs.length < 1000000 then some (.ok (.ref S.length) (S ++ [.st (kvs.foldl (fun acc p => tput acc p.1 p.2) [])])) else none
      | none => none)
    | _ => none) := rfl
end
end Z
namespace Z
open PySem PySem.Spec PyProof.Rows L2
section
variable {X : Cx} {W : WX} {a b c e tg : Expr} {ma mb mc m : SE} {pos : Pos}
theorem ints_ok {K : PySem.W.Frag} {ι : List Addr} {H : Hp} : ∀ {ns : List Int} {vs : List V}, RepL K ι H (ns.map .int) vs → vs = ns.map V.int
  | [], vs, r => by rw [List.map_nil] at r; rw [r.nil]; rfl
  | n :: ns, vs, r => by
    rw [List.map_cons] at r
    obtain ⟨v, t, rfl, h1, h2⟩ := r.cons
    rw [Rep] at h1
    rw [h1, ints_ok h2]; rfl
theorem strs_ok {K : PySem.W.Frag} {ι : List Addr} {H : Hp} : ∀ {ns : List (List Nat)} {vs : List V}, RepL K ι H (ns.map .str) vs → vs = (ns.map str).map V.str ∧ ∀ s ∈ ns, ∀ c ∈ s, c < 128
  | [], vs, r => by rw [List.map_nil] at r; rw [r.nil]; exact ⟨rfl, fun _ h => by cases h⟩
  | n :: ns, vs, r => by
    rw [List.map_cons] at r
    obtain ⟨v, t, rfl, h1, h2⟩ := r.cons
    rw [Rep] at h1
    obtain ⟨h3, h4⟩ := strs_ok h2
    rw [h1.1, h3]
    refine ⟨rfl, fun s hs => ?_⟩
    rcases List.mem_cons.mp hs with rfl | hs
    · exact h1.2
    · exact h4 s hs
theorem no_int : NoExF intF := by intro ds S c S'; unfold intF; split <;> simp
theorem zc_int : CallR X (.type "int") (rB X intF) := by
  intro pins s σ H xs us Q I r ⟨ι, S, ds, sm, rd, po⟩
  unfold intF at po
  split at po
  · obtain ⟨v, rfl, h⟩ := one_of (ds := []) rd
    rw [Rep] at h
    exact call_int1 pins s σ H _ us Q I r (.inl ⟨_, by rw [h], Po.ret po sm (by rw [Rep])⟩)
  · obtain ⟨v, rfl, h⟩ := one_of (ds := []) rd
    rw [Rep] at h
    exact call_int1 pins s σ H _ us Q I r (.inr ⟨_, by rw [h], Po.ret po sm (by rw [Rep])⟩)
  · exact po.elim
theorem dec_eq (i : Int) : Str.ofString (toString i) = str (dec i) := Str.ofString_eq_toList _
theorem dec_asc (i : Int) : ∀ c ∈ dec i, c < 128 := fun c h => by
  obtain ⟨k, h1, rfl⟩ := List.mem_map.mp h
  exact int_ascii i k h1
theorem no_strF : NoExF strF := by intro ds S c S'; unfold strF; split <;> (try split) <;> simp
theorem zc_str : CallR X (.type "str") (rB X strF) := by
  intro pins s σ H xs us Q I r ⟨ι, S, ds, sm, rd, po⟩
  unfold strF at po
  split at po
  · rename_i i
    obtain ⟨v, rfl, h⟩ := one_of (ds := []) rd
    rw [Rep] at h
    split at po
    · rename_i hl
      exact call_str_int pins s σ H _ us Q I r ⟨i, by rw [h], hl, Po.ret po sm (by rw [Rep]; exact ⟨congrArg V.str (dec_eq i), dec_asc i⟩)⟩
    · exact po.elim
  · obtain ⟨v, rfl, h⟩ := one_of (ds := []) rd
    exact SkE.call_str_str pins s σ H _ us Q I r ⟨_, by rw [Rep] at h; rw [h.1], Po.ret po sm (by rw [Rep] at h ⊢; exact ⟨rfl, h.2⟩)⟩
  · exact po.elim
theorem join_str (sep : List Nat) : ∀ ys : List (List Nat), Str.join (str sep) (ys.map str) = str (joinS sep ys)
  | [] => rfl
  | [x] => rfl
  | x :: y :: r => by
    have h := join_str sep (y :: r)
    rw [List.map_cons] at h
    rw [List.map_cons, List.map_cons, Str.join, h, joinS]
    · show (⟨((str x).cps ++ (str sep).cps) ++ (str (joinS sep (y :: r))).cps⟩ : Str) = _
      simp [str]
    · simp
theorem join_asc {sep : List Nat} (hs : ∀ c ∈ sep, c < 128) : ∀ ys : List (List Nat), (∀ s ∈ ys, ∀ c ∈ s, c < 128) → ∀ c ∈ joinS sep ys, c < 128
  | [], _, c, h => by cases h
  | [x], g, c, h => g x (by simp) c h
  | x :: y :: r, g, c, h => by
    rw [joinS] at h
    rcases List.mem_append.mp h with h | h
    · rcases List.mem_append.mp h with h | h
      · exact g x (by simp) c h
      · exact hs c h
    · exact join_asc hs (y :: r) (fun s hs' => g s (List.mem_cons_of_mem _ hs')) c h
theorem no_join : NoExF joinF := by intro ds S c S'; unfold joinF; split <;> (try split) <;> (try split) <;> (try split) <;> simp
theorem zm_join : MtR X "str.join" (rM X joinF) := by
  intro pins s σ H x xs v us Q I rx r ⟨ι, S, d, ds, sm, rd, rds, po⟩
  unfold joinF at po
  split at po
  · rename_i sep n heq
    cases heq
    obtain ⟨w, rfl, hw⟩ := one_of (ds := []) rds
    split at po
    · rename_i ys g
      obtain ⟨p, vs, rfl, i1, e1, r1⟩ := lst_ok sm hw g
      split at po
      · rename_i zs hz
        split at po
        · rename_i hl
          have := strsL_eq hz
          subst this
          obtain ⟨q1, q2⟩ := strs_ok r1
          rw [Rep] at rd
          refine mt_join pins s σ H _ _ v us Q I rx r ⟨str sep, p, zs.map str, rd.1, rfl, .inl (by rw [← q1]; exact SqL.of e1), ?_, Po.ret po sm ?_⟩
          · simpa [Str.length, Function.comp_def] using hl
          · rw [Rep, show Txt.join (str sep) (zs.map str) = Str.join (str sep) (zs.map str) from PySem.StrLaws.glued_eq_join _ _, join_str]
            exact ⟨rfl, join_asc rd.2 zs q2⟩
        · exact po.elim
      · exact po.elim
    · exact po.elim
  · exact po.elim
theorem no_sum : NoExF sumF := by intro ds S c S'; unfold sumF; split <;> (try split) <;> (try split) <;> simp
theorem zc_sum (hc : X.calm = true) : CallR X (.builtin "sum") (rB X sumF) := by
  intro pins s σ H xs us Q I r ⟨ι, S, ds, sm, rd, po⟩
  unfold sumF at po
  split at po
  · split at po
    · rename_i g
      split at po
      · rename_i hb
        obtain ⟨v, rfl, h⟩ := one_of (ds := []) rd
        obtain ⟨p, vs, rfl, i1, e1, r1⟩ := lst_ok sm h g
        have := intsL_eq hb
        subst this
        have := ints_ok r1
        subst this
        exact cr_sum hc pins s σ H _ us Q I r ⟨p, _, rfl, SqL.of e1, Po.ret po sm (by rw [Rep])⟩
      · exact po.elim
    · exact po.elim
  · exact po.elim
theorem no_maxL : NoExF maxLF := by intro ds S c S'; unfold maxLF; split <;> (try split) <;> (try split) <;> simp
theorem zc_maxL (hc : X.calm = true) : CallR X (.builtin "max") (rB X maxLF) := by
  intro pins s σ H xs us Q I r ⟨ι, S, ds, sm, rd, po⟩
  unfold maxLF at po
  split at po
  · split at po
    · rename_i g
      split at po
      · rename_i y hb
        obtain ⟨ns, hb1, hb2⟩ := Option.bind_eq_some_iff.mp hb
        obtain ⟨v, rfl, h⟩ := one_of (ds := []) rd
        obtain ⟨p, vs, rfl, i1, e1, r1⟩ := lst_ok sm h g
        have := intsL_eq hb1
        subst this
        have := ints_ok r1
        subst this
        refine cr_max hc pins s σ H _ us Q I r ⟨p, ns, rfl, SqL.of e1, ?_, fun m h1 h2 => ?_⟩
        · cases ns with
          | nil => cases hb2
          | cons _ _ => simp
        · rw [max_same hb2 h1 h2]; exact Po.ret po sm (by rw [Rep])
      · exact po.elim
    · exact po.elim
  · exact po.elim
theorem no_minL : NoExF minLF := by intro ds S c S'; unfold minLF; split <;> (try split) <;> (try split) <;> simp
theorem zc_minL (hc : X.calm = true) : CallR X (.builtin "min") (rB X minLF) := by
  intro pins s σ H xs us Q I r ⟨ι, S, ds, sm, rd, po⟩
  unfold minLF at po
  split at po
  · split at po
    · rename_i g
      split at po
      · rename_i y hb
        obtain ⟨ns, hb1, hb2⟩ := Option.bind_eq_some_iff.mp hb
        obtain ⟨v, rfl, h⟩ := one_of (ds := []) rd
        obtain ⟨p, vs, rfl, i1, e1, r1⟩ := lst_ok sm h g
        have := intsL_eq hb1
        subst this
        have := ints_ok r1
        subst this
        refine cr_min hc pins s σ H _ us Q I r ⟨p, ns, rfl, SqL.of e1, ?_, fun m h1 h2 => ?_⟩
        · cases ns with
          | nil => cases hb2
          | cons _ _ => simp
        · rw [min_same hb2 h1 h2]; exact Po.ret po sm (by rw [Rep])
      · exact po.elim
    · exact po.elim
  · exact po.elim
/-! ### ranges -/
theorem gi_r2 {p : Pos} (ha : GE X W a ma) (hb : GE X W b mb) (hg : Gl X "range") (hm : X.mg "range" = none) (hs : starEach [a, b] X.env = [(false, eval a X.env), (false, eval b X.env)] := by rfl) (hs2 : starEach [b] X.env = [(false, eval b X.env)] := by rfl) (hpl : (backTo pos (starEach [b] X.env)).any (·.1) = false := by rfl)
    (hsa : starEach [a, b] X.env = (false, eval a X.env) :: starEach [b] X.env := by rfl) (hsb : starEach [b] X.env = (false, eval b X.env) :: starEach [] X.env := by rfl) : GI X W tg (.Call (.Name "range" p) [a, b] [] pos) (iR2 ma mb) := (pi_range2 hg hm (pa_cons ha (pa_cons hb pa_nil hsb) hsa) hs hs2).imp fun σ H R ⟨ι, ρ, S, sm, r, p⟩ => by
  refine ⟨ι, ρ, S, sm, r, Po.bd p fun d S1 ι1 H1 x e1 s1 r1 p1 => ?_⟩
  refine ⟨ι1, ρ, S1, s1, r.ext e1, Po.bd p1 fun d' S2 ι2 H2 y e2 s2 r2 p2 => ?_⟩
  split at p2
  · rename_i i j
    rw [Rep] at r1 r2
    subst r1 r2
    split at p2
    · rename_i hc
      rw [r62_iff, r62_iff] at hc
      exact ⟨i, j, rfl, by omega, Po.ritm p2 s2 ritm_range⟩
    · exact p2.elim
  · exact p2.elim
theorem ritm_rangeC {K : PySem.W.Frag} {ι : List Addr} {H : Hp} {lo k : Int} {n : Nat} : RItm K ι H ⟨stepsL lo k n, fun _ => True⟩ (Itc lo k n) := fun ι' H' S' ex sm c => by
  refine ⟨fun i x hx => ?_, by show n ≤ _; simp [stepsL]⟩
  unfold stepsL at hx
  rw [List.getElem?_map] at hx
  obtain ⟨j, hk, rfl⟩ := Option.map_eq_some_iff.mp hx
  have hi : i < n := by simpa using (List.getElem?_eq_some_iff.mp hk).1
  rw [List.getElem?_range hi] at hk
  cases hk
  refine ⟨hi, fun v H2 y => ?_⟩
  obtain ⟨rfl, rfl⟩ := y
  exact ⟨.refl, sm, by rw [Rep]⟩
theorem rgC_up {i j k : Int} (h : (0 ≤ i ∧ i < 16777216) ∧ (0 ≤ j ∧ j < 16777216) ∧ 0 < k ∧ k < 16777216) : RgC i j k (if i < j then ((j - i - 1) / k + 1).toNat else 0) := by
  obtain ⟨⟨h1, h2⟩, ⟨h3, h4⟩, h5, h6⟩ := h
  have e : Builtin.Range.rangeSize i j k = ((if i < j then ((j - i - 1) / k + 1).toNat else 0 : Nat) : Int) := by
    unfold Builtin.Range.rangeSize
    rw [if_pos h5]
    by_cases c : i < j
    · rw [if_pos c, if_pos c]
      have : 0 ≤ (j - i - 1) / k := Int.ediv_nonneg (by omega) (by omega)
      omega
    · rw [if_neg c, if_neg c]; rfl
  refine ⟨by omega, by omega, ?_, e⟩
  unfold Builtin.Range.small
  have hb : 0 ≤ Builtin.Range.rangeSize i j k ∧ Builtin.Range.rangeSize i j k ≤ 16777216 := by
    rw [e]
    refine ⟨Int.natCast_nonneg _, ?_⟩
    by_cases c : i < j
    · rw [if_pos c]
      have h0 : 0 ≤ (j - i - 1) / k := Int.ediv_nonneg (by omega) (by omega)
      have : (j - i - 1) / k ≤ j - i - 1 := Int.ediv_le_self _ (by omega)
      omega
    · rw [if_neg c]; decide
  simp only [Builtin.Range.rangeFitsLong, Bool.and_eq_true, Bool.or_eq_true, decide_eq_true_eq, beq_iff_eq]
  rw [if_pos h5]
  simp only [Bool.and_eq_true, decide_eq_true_eq]
  omega
theorem gi_r3 {p : Pos} (ha : GE X W a ma) (hb : GE X W b mb) (hc : GE X W c mc) (hg : Gl X "range") (hm : X.mg "range" = none) (hs : starEach [a, b, c] X.env = (false, eval a X.env) :: starEach [b, c] X.env := by rfl) (hpl : (backTo pos (starEach [b, c] X.env)).any (·.1) = false := by rfl)
    (hsb : starEach [b, c] X.env = (false, eval b X.env) :: starEach [c] X.env := by rfl) (hsc : starEach [c] X.env = (false, eval c X.env) :: starEach [] X.env := by rfl) : GI X W tg (.Call (.Name "range" p) [a, b, c] [] pos) (iR3 ma mb mc) :=
  (pi_range3 hg hm (pa_cons ha (pa_cons hb (pa_cons hc pa_nil hsc) hsb) hs) hs hpl).imp fun σ H R ⟨ι, ρ, S, sm, r, p⟩ => by
  refine ⟨ι, ρ, S, sm, r, Po.bd p fun d S1 ι1 H1 x e1 s1 r1 p1 => ?_⟩
  refine ⟨ι1, ρ, S1, s1, r.ext e1, Po.bd p1 fun d' S2 ι2 H2 y e2 s2 r2 p2 => ?_⟩
  refine ⟨ι2, ρ, S2, s2, (r.ext e1).ext e2, Po.bd p2 fun d'' S3 ι3 H3 z e3 s3 r3 p3 => ?_⟩
  split at p3
  · rename_i i j k
    rw [Rep] at r1 r2 r3
    subst r1 r2 r3
    split at p3
    · rename_i hc
      rw [r24_iff] at hc
      exact ⟨i, j, k, _, rfl, rgC_up hc, Po.ritm p3 s3 ritm_rangeC⟩
    · exact p3.elim
  · exact p3.elim
theorem ge_lr {p p' pos' : Pos} (hc : X.calm = true) (hg : Gl X "list") (hm : X.mg "list" = none) (hg' : Gl X "range") (hm' : X.mg "range" = none) (ha : GE X W a ma) (na : starEach [a] X.env = (false, eval a X.env) :: starEach [] X.env := by rfl)
    (nb : starEach [.Call (.Name "range" p') [a] [] pos'] X.env = (false, eval (.Call (.Name "range" p') [a] [] pos') X.env) :: starEach [] X.env := by rfl) : GE X W (.Call (.Name "list" p) [.Call (.Name "range" p') [a] [] pos'] [] pos) (eLR ma) :=
  (pe_listRg hc hg hm (prg_1 hg' hm' ha na) nb).imp fun σ H Q ⟨ι, ρ, S, s, r, p⟩ => by
  refine ⟨ι, ρ, S, s, r, Po.bd p fun d S1 ι1 H1 x e1 s1 r1 p1 => ?_⟩
  split at p1
  · rename_i n
    rw [Rep] at r1
    subst r1
    split at p1
    · rename_i hb
      rw [r62_iff, LINE_eq] at hb
      refine ⟨n, rfl, ⟨by omega, by omega, by omega, by omega, by omega⟩, fun q hq => ?_⟩
      have hr : RepL X.K ι1 H1 ((List.range n.toNat).map fun (k : Nat) => .int k) (rgV 0 n) := by
        refine RepL.of_get (by rw [rgV_length]; simp) fun i d v h1 h2 => ?_
        rw [List.getElem?_map] at h1
        unfold rgV at h2
        rw [List.getElem?_map] at h2
        obtain ⟨k, h3, rfl⟩ := Option.map_eq_some_iff.mp h1
        obtain ⟨k', h4, rfl⟩ := Option.map_eq_some_iff.mp h2
        have : n - 0 = n := by omega
        rw [this, h3] at h4
        cases h4
        rw [Rep]; simp
      exact Po.ret (Po.mono (ext_new (t := [q]) (o := .lst (rgV 0 n)) hq) p1) (s1.newL hq hr) (Rep.newL s1)
    · exact p1.elim
  · exact p1.elim
end
end Z
namespace Z
open PySem PySem.Spec PyProof.Rows L2
theorem _root_.L2.Room.u1 {k : Nat} {A : Around} (r : Room k A) : A.units + 1 < cLine := by have := r.un; omega
/-! ### dicts -/
theorem keyD_eq : ∀ {x y : D} {k l : Key}, keyD x = some k → keyD y = some l → kEq0 x y = decide (k = l)
  | .int i, .int j, k, l, h, g => by cases h; cases g; simp [kEq0]
  | .str s, .str t, k, l, h, g => by
    cases h; cases g
    have : (Sum.inr (str s) : Key) = Sum.inr (str t) ↔ s = t := ⟨fun e => by have := Sum.inr.inj e; simpa using congrArg (fun z : Str => z.cps.toList) this, fun e => by rw [e]⟩
    simp only [kEq0]
    rw [Bool.eq_iff_iff]
    simp only [decide_eq_true_eq]
    exact this.symm
  | .int i, .str t, k, l, h, g => by cases h; cases g; simp [kEq0]
  | .str s, .int j, k, l, h, g => by cases h; cases g; simp [kEq0]
theorem keysD_eq : ∀ {xs ys : List D} {ks ls : List Key}, keysD xs = some ks → keysD ys = some ls → kEqL xs ys = decide (ks = ls)
  | [], [], ks, ls, h, g => by cases h; cases g; simp [kEqL]
  | [], y :: ys, ks, ls, h, g => by
    rw [keysD] at g
    split at g
    · cases h; cases g; simp [kEqL]
    · cases g
  | x :: xs, [], ks, ls, h, g => by
    rw [keysD] at h
    split at h
    · cases h; cases g; simp [kEqL]
    · cases h
  | x :: xs, y :: ys, ks, ls, h, g => by
    rw [keysD] at h g
    split at h
    · rename_i a as h1 h2
      split at g
      · rename_i b bs g1 g2
        cases h; cases g
        rw [kEqL, keyD_eq h1 g1, keysD_eq h2 g2, Bool.eq_iff_iff]
        simp
      · cases g
    · cases h
theorem keysD_ok : ∀ {xs : List D}, xs.all k0 = true → ∃ ks, keysD xs = some ks
  | [], _ => ⟨[], rfl⟩
  | x :: xs, h => by
    rw [List.all_cons, Bool.and_eq_true] at h
    obtain ⟨ks, e⟩ := keysD_ok h.2
    cases x with
    | int i => exact ⟨_, by rw [keysD, e]; rfl⟩
    | str s => exact ⟨_, by rw [keysD, e]; rfl⟩
    | _ => cases h.1
section
variable {K : PySem.W.Frag} {ι : List Addr} {H : Hp}
theorem repL_keys : ∀ {xs : List D} {vs : List V} {ks : List Key}, RepL K ι H xs vs → keysD xs = some ks → vs = ks.map kV
  | [], vs, ks, r, h => by cases h; exact r.nil
  | x :: xs, vs, ks, r, h => by
    obtain ⟨v, t, rfl, r1, r2⟩ := r.cons
    rw [keysD] at h
    split at h
    · rename_i k ks' h1 h2
      cases h
      rw [repL_keys r2 h2, List.map_cons]
      cases x with
      | int i => cases h1; rw [Rep] at r1; rw [r1]; rfl
      | str s => cases h1; rw [Rep] at r1; rw [r1.1]; rfl
      | _ => cases h1
    · cases h
theorem tget_ok {k : List D} {ks : List Key} (hk : keysD k = some ks) : ∀ {kvs : List (List D × D)} {es : List (List Key × V)}, KsR keysD K ι H kvs es → match tget kvs k with
    | some d => ∃ v, valV es ks = some v ∧ Rep K ι H d v
    | none => valV es ks = none
  | [], es, h => by rw [KsR] at h; subst h; exact valV_nil
  | p :: r, es, h => by
    rw [KsR] at h
    obtain ⟨k', v, t, rfl, h1, h2, h3⟩ := h
    have e := keysD_eq h1 hk
    have ih := tget_ok hk h3
    by_cases c : k' = ks
    · have : kEqL p.1 k = true := by rw [e]; simp [c]
      have g : tget (p :: r) k = some p.2 := by simp [tget, List.find?_cons, this]
      rw [g]
      exact ⟨v, valV_pos (p := (k', v)) c, h2⟩
    · have : kEqL p.1 k = false := by rw [e]; simp [c]
      have g : tget (p :: r) k = tget r k := by simp [tget, List.find?_cons, this]
      rw [g, valV_neg (p := (k', v)) c]
      exact ih
theorem KsR.snoc {α κ : Type} {key : α → Option κ} {x : α} {d : D} {k : κ} {v : V} (hk : key x = some k) (r : Rep K ι H d v) : ∀ {kvs : List (α × D)} {es : List (κ × V)}, KsR key K ι H kvs es → KsR key K ι H (kvs ++ [(x, d)]) (es ++ [(k, v)])
  | [], es, h => by rw [KsR] at h; subst h; exact ⟨k, v, [], rfl, hk, r, rfl⟩
  | p :: q, es, h => by
    rw [KsR] at h
    obtain ⟨k', v', t, rfl, h1, h2, h3⟩ := h
    rw [List.cons_append, KsR]
    exact ⟨k', v', _, rfl, h1, h2, KsR.snoc hk r h3⟩
theorem any_ok {k : List D} {ks : List Key} (hk : keysD k = some ks) : ∀ {kvs : List (List D × D)} {es : List (List Key × V)}, KsR keysD K ι H kvs es → (kvs.any fun p => kEqL p.1 k) = es.any fun p => decide (p.1 = ks)
  | [], es, h => by rw [KsR] at h; subst h; rfl
  | p :: r, es, h => by
    rw [KsR] at h
    obtain ⟨k', v, t, rfl, h1, h2, h3⟩ := h
    rw [List.any_cons, List.any_cons, any_ok hk h3, keysD_eq h1 hk]
theorem map_ok {k : List D} {ks : List Key} (hk : keysD k = some ks) {d : D} {w : V} (rd : Rep K ι H d w) : ∀ {kvs : List (List D × D)} {es : List (List Key × V)}, KsR keysD K ι H kvs es → KsR keysD K ι H (kvs.map fun p => if kEqL p.1 k = true then (p.1, d) else p) (es.map fun p => if p.1 = ks then (p.1, w) else p)
  | [], es, h => by rw [KsR] at h; subst h; rfl
  | p :: r, es, h => by
    rw [KsR] at h
    obtain ⟨k', v, t, rfl, h1, h2, h3⟩ := h
    rw [List.map_cons, List.map_cons, KsR, keysD_eq h1 hk]
    by_cases c : k' = ks
    · exact ⟨k', w, _, by rw [if_pos c], by simp [c, h1], by simpa [c] using rd, map_ok hk rd h3⟩
    · exact ⟨k', v, _, by rw [if_neg c], by simp [c, h1], by simpa [c] using h2, map_ok hk rd h3⟩
theorem tput_ok {k : List D} {ks : List Key} (hk : keysD k = some ks) {d : D} {w : V} (rd : Rep K ι H d w) {kvs : List (List D × D)} {es : List (List Key × V)} (h : KsR keysD K ι H kvs es) : KsR keysD K ι H (tput kvs k d) (putK es ks w) := by
  unfold tput putK
  rw [any_ok hk h]
  split
  · exact map_ok hk rd h
  · exact KsR.snoc hk rd h
end
section
variable {X : Cx} {W : WX} {o d : Expr} {es : List Expr} {ms : List SE} {md mv : SE} {pos pos' pos2 : Pos}
theorem ge_dctT : GE X W (.Dict [] [] pos) eDctT := pe_dnewT.imp fun σ H Q ⟨ι, ρ, S, s, r, p⟩ q hq => by
  have e := ext_new (ι := ι) (t := [q]) (o := HO.dT []) hq
  exact Po.ret (Po.mono e p) (s.new hq ⟨[], upd_same, rfl⟩) (Rep.newL s)
theorem tni_read {ta : TA} (hu : X.A.units + 1 < cLine) (ha : GA X W es ms) (hl : ms.length ≤ 1000) {σ : L2.St} {H : Hp} {Q : VK} (h : tE X.K X.mg W (eTNi ms md) σ H Q) : tDNotIn (tTup (tA X.K X.mg W ms)) (tE X.K X.mg W md) σ H Q := by
  obtain ⟨ι, ρ, S, s, r, p⟩ := h
  refine ⟨ι, ρ, S, s, r, Po.evL p fun ds S1 ι1 H1 vs hd e1 s1 r1 p1 => ⟨?_, fun q hq => ?_⟩⟩
  · rw [r1.length, hd]; exact Nat.le_trans hl (by decide)
  have e := ext_tup (ι := ι1) (o := .tup vs) hq
  refine ⟨ι1, ρ, S1, s1.tup hq, (r.ext e1).ext e, Po.bd (Po.mono e p1) fun x S2 ι2 H2 y e2 s2 r2 p2 => ?_⟩
  cases x with
  | ref n =>
    rw [Rep] at r2
    obtain ⟨a, rfl, ha2⟩ := r2
    dsimp only at p2
    match g : S2[n]?, p2 with
    | some (.st kvs), p2 =>
      dsimp only at p2
      by_cases hk : ds.all k0 = true
      · rw [if_pos hk] at p2
        obtain ⟨en, he, hr⟩ := s2.get ha2 g
        obtain ⟨ks, hks⟩ := keysD_ok hk
        have hvs := repL_keys r1 hks
        have hq2 : H2 q = some (.tup (ks.map kV)) := by rw [← hvs]; exact e2.tup q vs upd_same
        refine ⟨a, valV en ks, rfl, DGet.t he hq2, ?_⟩
        have hb : (valV en ks).isSome = (tget kvs ds).isSome := by
          have t := tget_ok hks hr
          cases c : tget kvs ds with
          | none => rw [c] at t; rw [t]; rfl
          | some w => rw [c] at t; obtain ⟨v, hv, _⟩ := t; rw [hv]; rfl
        rw [hb]
        exact Po.ret p2 s2 (by rw [Rep])
      · rw [if_neg hk] at p2; exact p2.elim
    | none, p2 => exact p2.elim
    | some (.lst _), p2 => exact p2.elim
    | some (.dct _), p2 => exact p2.elim
    | some (.ins _ _), p2 => exact p2.elim
    | some (.exn _), p2 => exact p2.elim
  | _ => exact p2.elim
theorem gt_tni {x1} (hu : X.A.units + 1 < cLine) (ha : GA X W es ms) (hd : GE X W d md) (hl : ms.length ≤ 1000 := by exact Nat.le_of_ble_eq_true rfl)
    (hm : behindInMarks .NotIn d = false := by first | exact nobehind _ (by decide) (by decide) | rfl) : GT X W (.Compare (.Tuple es x1 pos2) [.NotIn] [d] pos) (tVal (eTNi ms md)) :=
  (pt_cmp (pc_dnotin hu (pe_tup ha) hd) hm).imp fun σ H Q h => tni_read (ta := tNil) hu ha hl (tVal_read h)
theorem tget_read (hl : ms.length ≤ 1000) {σ : L2.St} {H : Hp} {Q : VK} (h : tE X.K X.mg W (eTGet md ms) σ H Q) : tDGet (tE X.K X.mg W md) (tTup (tA X.K X.mg W ms)) σ H Q := by
  obtain ⟨ι, ρ, S, s, r, p⟩ := h
  refine ⟨ι, ρ, S, s, r, Po.bd p fun x S1 ι1 H1 y e1 s1 r1 p1 => ?_⟩
  refine ⟨ι1, ρ, S1, s1, r.ext e1, Po.evL p1 fun ds S2 ι2 H2 vs hd e2 s2 r2 p2 => ⟨?_, fun q hq => ?_⟩⟩
  · rw [r2.length, hd]; exact Nat.le_trans hl (by decide)
  have e := ext_tup (ι := ι2) (o := .tup vs) hq
  cases x with
  | ref n =>
    have r1 := Rep.ext e2 _ _ r1
    rw [Rep] at r1
    obtain ⟨a, rfl, ha2⟩ := r1
    dsimp only at p2
    match g : S2[n]?, p2 with
    | some (.st kvs), p2 =>
      dsimp only at p2
      by_cases hk : ds.all k0 = true
      · rw [if_pos hk] at p2
        obtain ⟨en, he, hr⟩ := (s2.tup (o := .tup vs) hq).get ha2 g
        obtain ⟨ks, hks⟩ := keysD_ok hk
        have hvs := repL_keys r2 hks
        have t := tget_ok hks hr
        cases c : tget kvs ds with
        | none => rw [c] at p2; exact p2.elim
        | some w =>
          rw [c] at p2 t
          obtain ⟨v, hv, rv⟩ := t
          refine ⟨a, v, rfl, ?_, Po.ret (Po.mono e p2) (s2.tup hq) rv⟩
          rw [← hv]
          exact DGet.t he (by rw [← hvs]; exact upd_same)
      · rw [if_neg hk] at p2; exact p2.elim
    | none, p2 => exact p2.elim
    | some (.lst _), p2 => exact p2.elim
    | some (.dct _), p2 => exact p2.elim
    | some (.ins _ _), p2 => exact p2.elim
    | some (.exn _), p2 => exact p2.elim
  | _ => exact p2.elim
theorem ge_tget {x1} (hu : X.A.units + 1 < cLine) (hd : GE X W d md) (ha : GA X W es ms) (hl : ms.length ≤ 1000 := by exact Nat.le_of_ble_eq_true rfl) (hs : NoSl (.Tuple es x1 pos2) := by exact fun _ _ => rfl) :
    GE X W (.Subscript d (.Tuple es x1 pos2) pos) (eTGet md ms) := (pe_dget hu hd (pe_tup ha) hs).imp fun σ H Q h => tget_read hl h
theorem gs_tput {x1} {value : Expr} (hu : X.A.units + 1 < cLine) (hv : GE X W value mv) (hd : GE X W d md) (ha : GA X W es ms) (hl : ms.length ≤ 1000 := by exact Nat.le_of_ble_eq_true rfl)
    (hs : swapsWith value (some (.Subscript d (.Tuple es x1 pos2) pos')) pos.line X.env = pure false := by rfl) :
    GS X W (.Assign [.Subscript d (.Tuple es x1 pos2) pos'] value pos) (sTPut md ms mv) := (ps_dput hu hd (pe_tup ha) hv hs).imp fun En σ H ⟨ι, ρ, S, s, r, p⟩ => by
  unfold sTPut at p
  refine ⟨ι, ρ, S, s, r, PoS.bo r p fun w S1 ι1 H1 v e1 s1 r1 rr1 p1 => ?_⟩
  refine ⟨ι1, ρ, S1, s1, rr1, PoS.bo rr1 p1 fun x S2 ι2 H2 y e2 s2 r2 rr2 p2 => ?_⟩
  refine ⟨ι2, ρ, S2, s2, rr2, PoS.bo rr2 p2 fun ds S3 ι3 H3 vs e3 s3 r3 rr3 p3 => ?_⟩
  cases x with
  | ref n =>
    have r2 := Rep.ext e3 _ _ r2
    rw [Rep] at r2
    obtain ⟨a, rfl, ha2⟩ := r2
    dsimp only at p3
    match g : S3[n]?, p3 with
    | some (.st kvs), p3 =>
      dsimp only at p3
      by_cases hk : ds.all k0 = true ∧ ds.length ≤ 1000 ∧ kvs.length < 1000000
      · rw [if_pos hk] at p3
        refine ⟨by rw [r3.length]; exact Nat.le_trans hk.2.1 (by decide), fun q hq => ?_⟩
        have e := ext_tup (ι := ι3) (o := .tup vs) hq
        have s4 := s3.tup (o := .tup vs) hq
        obtain ⟨en, he, hr⟩ := s4.get ha2 g
        obtain ⟨ks, hks⟩ := keysD_ok hk.1
        have hvs := repL_keys r3 hks
        have rw4 : Rep X.K ι3 (upd H3 q (.tup vs)) w v := Rep.ext e _ _ (Rep.ext e3 _ _ (Rep.ext e2 _ _ r1))
        refine ⟨a, upd (upd H3 q (.tup vs)) a (.dT (putK en ks v)), rfl, .inr ⟨en, ks, q, he, rfl, by rw [← hvs]; exact upd_same, ?_, rfl⟩, ?_⟩
        · rw [hr.length, sizeLine_eq]; omega
        · have em : Ext ι3 (upd H3 q (.tup vs)) ι3 (upd (upd H3 q (.tup vs)) a (.dT (putK en ks v))) := ext_mut he trivial
          exact p3 ι3 _ σ (e.trans em) (s4.put ha2 ⟨_, upd_same, KsR.ext em _ _ (tput_ok hks rw4 hr)⟩ ⟨_, he, trivial⟩) ((rr3.ext e).ext em)
      · rw [if_neg hk] at p3; exact p3.elim
    | none, p3 => exact p3.elim
    | some (.lst _), p3 => exact p3.elim
    | some (.dct _), p3 => exact p3.elim
    | some (.ins _ _), p3 => exact p3.elim
    | some (.exn _), p3 => exact p3.elim
  | _ => exact p3.elim
theorem no_reprI : NoExF reprIF := by intro ds S c S'; unfold reprIF; split <;> (try split) <;> simp
theorem zc_reprI : CallR X (.builtin "repr") (rB X reprIF) := by
  intro pins s σ H xs us Q I r ⟨ι, S, ds, sm, rd, po⟩
  unfold reprIF at po
  split at po
  · rename_i i
    obtain ⟨v, rfl, h⟩ := one_of (ds := []) rd
    rw [Rep] at h
    split at po
    · rename_i hl
      exact SkE.call_repr_int pins s σ H _ us Q I r ⟨i, by rw [h], hl, Po.ret po sm (by rw [Rep]; exact ⟨congrArg V.str (dec_eq i), dec_asc i⟩)⟩
    · exact po.elim
  · exact po.elim
end
end Z
namespace Z
open PySem PySem.Spec PyProof.Rows L2
theorem _root_.L2.Room.u3 {k : Nat} {A : Around} (r : Room k A) : A.units + 3 < cLine := by have := r.un; omega
/-! ### dicts of tuple keys: what lies there -/
section
variable {K : PySem.W.Frag} {ι : List Addr} {H : Hp}
theorem kv_ok {x : D} {y : V} {ks : List D} (r : Rep K ι H x y) (h : kvL x = some ks) : ∃ b kk, y = .ref b ∧ H b = some (.tup (kk.map kV)) ∧ keysD ks = some kk := by
  unfold kvL at h
  split at h
  · rename_i zs
    split at h
    · rename_i hk
      cases h
      rw [Rep] at r
      obtain ⟨a, vs, rfl, h1, h2⟩ := r
      obtain ⟨kk, hkk⟩ := keysD_ok hk
      exact ⟨a, kk, rfl, by rw [← repL_keys h2 hkk]; exact h1, hkk⟩
    · cases h
  · cases h
theorem st_ok {S : Store} (s : Sim K ι S H) {x : D} {y : V} {kvs : List (List D × D)} (r : Rep K ι H x y) (h : stAt S x = some kvs) : ∃ a en, y = .ref a ∧ Rd H a (.dT en) ∧ KsR keysD K ι H kvs en := by
  unfold stAt at h
  split at h
  · rename_i n
    rw [Rep] at r
    obtain ⟨a, rfl, ha⟩ := r
    split at h
    · rename_i g
      cases h
      obtain ⟨en, he, hr⟩ := s.get ha g
      exact ⟨a, en, rfl, .inl he, hr⟩
    · rename_i g
      cases h
      obtain ⟨o, en, he, hr⟩ := s.get ha g
      exact ⟨a, en, rfl, .inr ⟨o, he⟩, hr⟩
    · cases h
  · cases h
end
section
variable {X : Cx} {W : WX} {a b o d k : Expr} {ma mb md mk mv : SE} {pos pos' : Pos}
theorem isSome_ok {K : PySem.W.Frag} {ι : List Addr} {H : Hp} {ks : List D} {kk : List Key} (hk : keysD ks = some kk) {kvs : List (List D × D)} {en : List (List Key × V)} (h : KsR keysD K ι H kvs en) : (valV en kk).isSome = (tget kvs ks).isSome := by
  have t := tget_ok hk h
  cases c : tget kvs ks with
  | none => rw [c] at t; rw [t]; rfl
  | some w => rw [c] at t; obtain ⟨v, hv, _⟩ := t; rw [hv]; rfl
theorem kni_read {σ : L2.St} {H : Hp} {Q : VK} (h : tE X.K X.mg W (e2 kNi ma mb) σ H Q) : tDNotIn (tE X.K X.mg W ma) (tE X.K X.mg W mb) σ H Q := by
  obtain ⟨ι, ρ, S, s, r, p⟩ := h
  refine ⟨ι, ρ, S, s, r, Po.bd p fun x S1 ι1 H1 y e1 s1 r1 p1 => ?_⟩
  refine ⟨ι1, ρ, S1, s1, r.ext e1, Po.bd p1 fun z S2 ι2 H2 w e2 s2 r2 p2 => ?_⟩
  have r1 := Rep.ext e2 _ _ r1
  unfold kNi at p2
  split at p2
  · rename_i ks kvs g1 g2
    obtain ⟨b, kk, rfl, h1, hk⟩ := kv_ok r1 g1
    obtain ⟨a, en, rfl, h2, hr⟩ := st_ok s2 r2 g2
    refine ⟨a, valV en kk, rfl, .inr ⟨en, kk, b, h2, rfl, h1, rfl⟩, ?_⟩
    rw [isSome_ok hk hr]
    exact Po.ret p2 s2 (by rw [Rep])
  · exact p2.elim
theorem kin_read {σ : L2.St} {H : Hp} {Q : VK} (h : tE X.K X.mg W (e2 kIn ma mb) σ H Q) : tDIn (tE X.K X.mg W ma) (tE X.K X.mg W mb) σ H Q := by
  obtain ⟨ι, ρ, S, s, r, p⟩ := h
  refine ⟨ι, ρ, S, s, r, Po.bd p fun x S1 ι1 H1 y e1 s1 r1 p1 => ?_⟩
  refine ⟨ι1, ρ, S1, s1, r.ext e1, Po.bd p1 fun z S2 ι2 H2 w e2 s2 r2 p2 => ?_⟩
  have r1 := Rep.ext e2 _ _ r1
  unfold kIn at p2
  split at p2
  · rename_i ks kvs g1 g2
    obtain ⟨b, kk, rfl, h1, hk⟩ := kv_ok r1 g1
    obtain ⟨a, en, rfl, h2, hr⟩ := st_ok s2 r2 g2
    refine ⟨a, valV en kk, rfl, .inr ⟨en, kk, b, h2, rfl, h1, rfl⟩, ?_⟩
    rw [isSome_ok hk hr]
    exact Po.ret p2 s2 (by rw [Rep])
  · exact p2.elim
theorem gt_kni (hu : X.A.units + 1 < cLine) (ha : GE X W a ma) (hb : GE X W b mb) (hm : behindInMarks .NotIn b = false := by first | exact nobehind _ (by decide) (by decide) | rfl) : GT X W (.Compare a [.NotIn] [b] pos) (tVal (e2 kNi ma mb)) :=
  (pt_cmp (pc_dnotin hu ha hb) hm).imp fun σ H Q h => kni_read (tVal_read h)
theorem gt_kin (hu : X.A.units + 1 < cLine) (ha : GE X W a ma) (hb : GE X W b mb) (hm : behindInMarks .In b = false := by first | exact nobehind _ (by decide) (by decide) | rfl) : GT X W (.Compare a [.In] [b] pos) (tVal (e2 kIn ma mb)) :=
  (pt_cmp (pc_din hu ha hb) hm).imp fun σ H Q h => kin_read (tVal_read h)
theorem ge_kget (hu : X.A.units + 1 < cLine) (hd : GE X W d md) (hk : GE X W k mk) (hs : NoSl k := by exact fun _ _ => rfl) : GE X W (.Subscript d k pos) (e2 kGet md mk) := (pe_dget hu hd hk hs).imp fun σ H Q ⟨ι, ρ, S, s, r, p⟩ => by
  refine ⟨ι, ρ, S, s, r, Po.bd p fun x S1 ι1 H1 y e1 s1 r1 p1 => ?_⟩
  refine ⟨ι1, ρ, S1, s1, r.ext e1, Po.bd p1 fun z S2 ι2 H2 w e2 s2 r2 p2 => ?_⟩
  have r1 := Rep.ext e2 _ _ r1
  unfold kGet at p2
  split at p2
  · rename_i ks kvs g1 g2
    obtain ⟨b, kk, rfl, h1, hk⟩ := kv_ok r2 g1
    obtain ⟨a, en, rfl, h2, hr⟩ := st_ok s2 r1 g2
    have t := tget_ok hk hr
    cases c : tget kvs ks with
    | none => rw [c] at p2; exact p2.elim
    | some u =>
      rw [c] at p2 t
      obtain ⟨v, hv, rv⟩ := t
      exact ⟨a, v, rfl, .inr ⟨en, kk, b, h2, rfl, h1, hv.symm⟩, Po.ret p2 s2 rv⟩
  · exact p2.elim
theorem gs_kput {value : Expr} (hu : X.A.units + 1 < cLine) (hv : GE X W value mv) (hd : GE X W d md) (hk : GE X W k mk)
    (hs : swapsWith value (some (.Subscript d k pos')) pos.line X.env = pure false := by rfl) : GS X W (.Assign [.Subscript d k pos'] value pos) (sKPut md mk mv) := (ps_dput hu hd hk hv hs).imp fun En σ H ⟨ι, ρ, S, s, r, p⟩ => by
  unfold sKPut at p
  refine ⟨ι, ρ, S, s, r, PoS.bo r p fun w S1 ι1 H1 v e1 s1 r1 rr1 p1 => ?_⟩
  refine ⟨ι1, ρ, S1, s1, rr1, PoS.bo rr1 p1 fun x S2 ι2 H2 y e2 s2 r2 rr2 p2 => ?_⟩
  refine ⟨ι2, ρ, S2, s2, rr2, PoS.bo rr2 p2 fun z S3 ι3 H3 t e3 s3 r3 rr3 p3 => ?_⟩
  split at p3
  · rename_i n ks g1
    split at p3
    · rename_i kvs g
      split at p3
      · rename_i hl
        obtain ⟨b, kk, rfl, h1, hk⟩ := kv_ok r3 g1
        have r2 := Rep.ext e3 _ _ r2
        rw [Rep] at r2
        obtain ⟨a, rfl, ha⟩ := r2
        obtain ⟨en, he, hr⟩ := s3.get ha g
        have rw3 : Rep X.K ι3 H3 w v := Rep.ext e3 _ _ (Rep.ext e2 _ _ r1)
        refine ⟨a, upd H3 a (.dT (putK en kk v)), rfl, .inr ⟨en, kk, b, he, rfl, h1, by rw [hr.length, sizeLine_eq]; omega, rfl⟩, ?_⟩
        have em : Ext ι3 H3 ι3 (upd H3 a (.dT (putK en kk v))) := ext_mut he trivial
        exact p3 ι3 _ σ em (s3.put ha ⟨_, upd_same, KsR.ext em _ _ (tput_ok hk rw3 hr)⟩ ⟨_, he, trivial⟩) (rr3.ext em)
      · exact p3.elim
    · exact p3.elim
  · exact p3.elim
end
end Z
namespace L2
open PySem PySem.Spec PyProof.Rows
/-! ### {k: v}, k a tuple -/
def tD1 (tk tv : TE) : TE := fun σ H Q => ∀ p, H p = none → tPairs [(tk, tv)] σ (upd H p (.dT [])) fun ps H2 => ∃ b ks y, ps = [(V.ref b, y)] ∧ H2 p = some (.dT []) ∧ H2 b = some (.tup (ks.map kV)) ∧ Q (.ref p) (upd H2 p (.dT [(ks, y)]))
theorem pe_dct1 {X : Cx} {pos : Pos} {k v : Expr} {tk tv : TE} (hu : X.A.units < cLine) (hk : PE X k tk) (hv : PE X v tv) : PE X (.Dict [some k] [v] pos) (tD1 tk tv) := by
  refine ⟨fun pins s σ H Q I q => ?_⟩
  have hn := I.hok.fresh (Nat.le_refl s.heap.objs.size)
  have I1 := I.laid (a := s.heap.objs.size) (o := .dT []) (h' := s.heap.push { cls := .type "dict", data := .dict #[] }) (t' := s.toks) (fun _ _ q => Heap.get?_push_of_some _ q) (Nat.le_refl _) (dt_empty s.heap I.big)
  rw [arm_eval_Dict, zip_pairTrees [some k] [v] X.env pos rfl rfl, dictDisplay_pairs (pairTrees [some k] [v] X.env pos) (by intro h; cases h) (Nat.le_of_ble_eq_true rfl)]
  refine wpAny_bind (wpAny_standAt (wpAny_bind (wpAny_subDictH (knd := tupleKind (mixKind X.prog X.w)) (Q := fun d s' => wpAny (model X.prog X.w) X.A (pure (Value.ref d)) _ _ s') hu (Nat.le_of_ble_eq_true rfl) ?_)))
  refine thn ((pps_cons hk hv pps_nil).run pins _ σ _ _ I1 (q _ hn)) fun ws s2 ⟨ps, H2, I2, rel, b, ks, y, ep, e, eb, q2⟩ => ?_
  subst ep
  obtain ⟨⟨u, w⟩, t, rfl, ⟨ru, rw'⟩, rt⟩ : ∃ c t, ws = c :: t ∧ (RelV (V.ref b) c.1 ∧ RelV y c.2) ∧ VV [] t := by
    cases rel with
    | cons h t => exact ⟨_, _, rfl, h, t⟩
  cases rt
  cases (show u = Value.ref b from ru)
  obtain ⟨z, hd, xs0, r0, dd⟩ := dt_of I2.hok e
  cases r0
  refine ⟨[(ks, b, w)], ⟨rfl, rfl, key_of I2.hok eb, trivial⟩, dd, fun h' tk dd' hs => wpAny_pure ⟨.ref s.heap.objs.size, _, ?_, rfl, q2⟩⟩
  obtain ⟨o, es, epc, ho, h2, h3, h4, _, h5⟩ := dd'
  refine d_write I2 (by rw [e]; exact True.intro) hs ⟨o, ho⟩ ⟨by rw [sizeLine_eq]; simp, hd, [(ks, b, w)], .cons ⟨rfl, ?_, rw'⟩ .nil, o, es, epc, ho, h2, h3, h4, h5⟩
  rw [upd_ne (ne_of eb e (fun z => nomatch z))]
  exact eb
/-! ### dict(xs), the keys tuples -/
theorem kt_merge {H : Hp} : ∀ {kvs : List (List Key × V)} {rs : List (List Key × Addr × Value)} {acc : List (List Key × V)} {xs : List (List Key × Addr × Value)}, KT H kvs rs → KT H acc xs → KT H (kvs.foldl (fun acc p => putK acc p.1 p.2) acc) (storedAllH xs rs)
  | [], _, acc, xs, .nil, r => r
  | p :: kvs, _, acc, xs, .cons (b := q) h t, r => by
    obtain ⟨q1, q2, q3⟩ := q
    obtain ⟨h1, h2, h3⟩ := h
    simp only at h1 h2 h3
    subst h1
    have := kt_merge t (r.put p.1 h2 h3)
    exact this
theorem len_merge : ∀ (kvs acc : List (List Key × V)), (kvs.foldl (fun acc p => putK acc p.1 p.2) acc).length ≤ acc.length + kvs.length
  | [], acc => Nat.le_refl _
  | p :: kvs, acc => by
    have := len_merge kvs (putK acc p.1 p.2)
    have := length_putK acc p.1 p.2
    simp only [List.foldl_cons, List.length_cons]
    omega
theorem pairsT_of {X : Cx} {pins : List (Addr × Obj)} {σ : St} {H : Hp} {s : Shared} (I : Inv X pins σ H s) : ∀ {ps : List Addr} {kvs : List (List Key × V)}, Paired (fun p kv => ∃ b, H p = some (.tup [.ref b, kv.2]) ∧ H b = some (.tup (kv.1.map kV))) ps kvs →
    ∃ rs : List (List Key × Addr × Value), KT H kvs rs ∧ rs.length = ps.length ∧ ∀ (j : Nat) (q : List Key × Addr × Value), rs[j]? = some q → ∃ p, ps[j]? = some p ∧ IsTup s.heap p #[.ref q.2.1, q.2.2]
  | _, _, .nil => ⟨[], .nil, rfl, fun j q e => by simp at e⟩
  | _, _, .cons (a := p) (b := kv) h t => by
    obtain ⟨rs, r, hl, hp⟩ := pairsT_of I t
    obtain ⟨b, h1, h2⟩ := h
    obtain ⟨its, rv, ht, _⟩ := I.tuple (SqT.of h1)
    obtain ⟨u, y, ei, ru, ry⟩ := vals2 rv
    subst ei
    cases (show u = Value.ref b from ru)
    refine ⟨(kv.1, b, y) :: rs, .cons ⟨rfl, h2, ry⟩ r, by rw [List.length_cons, List.length_cons, hl], fun j q e => ?_⟩
    cases j with
    | zero =>
      have e' : (kv.1, b, y) = q := Option.some.inj e
      subst e'
      exact ⟨p, rfl, ht⟩
    | succ j =>
      obtain ⟨p', e1, e2⟩ := hp j q (by simpa using e)
      exact ⟨p', by simpa using e1, e2⟩
theorem call_dictT {X : Cx} (hcalm : X.calm = true) (hu : X.A.units + 2 < cLine) : CallR X (.type "dict") (fun xs H Q => ∃ (a : Addr) (ps : List Addr) (kvs : List (List Key × V)), xs = [.ref a] ∧ H a = some (.lst (ps.map V.ref)) ∧
    Paired (fun p kv => ∃ b, H p = some (.tup [.ref b, kv.2]) ∧ H b = some (.tup (kv.1.map kV))) ps kvs ∧ ∀ p, H p = none → Q (.ref p) (upd H p (.dT (kvs.foldl (fun acc p => putK acc p.1 p.2) [])))) := by
  intro pins s σ H xs us Q I r q
  obtain ⟨a, ps, kvs, ex, hq, hp, q⟩ := q
  subst ex
  obtain ⟨u, eu, rx⟩ := vals1 r
  subst eu
  cases rx
  obtain ⟨its, rv, pl, hz⟩ := I.list (SqL.of hq)
  have ei := refs_at rv
  subst ei
  rw [List.length_map] at hz
  obtain ⟨rs, rel, hl, hpr⟩ := pairsT_of I hp
  obtain ⟨o, n, ho, hc, hd, hdat⟩ := pl
  let Ts : Nat → Addr := fun j => ps.getD j 0
  let vs : List (Value × Value) := rs.map fun q => (.ref q.2.1, q.2.2)
  have hvl : vs.length = ps.length := by simp [vs, hl]
  have ok : PlainSeq "list" s.heap a (ps.map Value.ref).toArray ∧ PairItems s.heap (ps.map Value.ref).toArray Ts vs := by
    refine ⟨⟨o, n, ho, hc, hd, hdat⟩, by simp [hvl], fun j k v e => ?_⟩
    obtain ⟨q, hq1, hq2⟩ : ∃ q, rs[j]? = some q ∧ (Value.ref q.2.1, q.2.2) = (k, v) := by
      simp only [vs, List.getElem?_map, Option.map_eq_some_iff] at e
      exact e
    cases hq2
    obtain ⟨p, e1, e2⟩ := hpr j q hq1
    have eT : Ts j = p := by simp [Ts, List.getD_eq_getElem?_getD, e1]
    refine ⟨by simp [e1, eT], .inl ?_⟩
    rw [eT]
    exact e2
  have hrl : rs.length = kvs.length := (Paired.length rel).symm
  refine call_dict_pairsH (knd := tupleKind (mixKind X.prog X.w)) (ps := rs) (PairArg.list a (ps.map Value.ref).toArray Ts vs) (I.ok.hd hcalm) hu ok ⟨by simp [vs], fun i key v e => ?_⟩ (fun h' hk x hx => ?_) (by rw [hvl]; exact hz) fun h' tk dd hk => ?_
  · simp only [PairRel, vs, List.getElem?_map, Option.map_eq_some_iff] at e
    obtain ⟨q, hq1, hq2⟩ := e
    cases hq2
    exact ⟨q.1, q.2.1, hq1, rfl⟩
  · have all : ∀ {l : List (List Key × V)} {m : List (List Key × Addr × Value)}, KT H l m → ∀ x ∈ m, H x.2.1 = some (.tup (x.1.map kV)) := by
      intro l m q
      induction q with
      | nil => intro x hx; exact nomatch hx
      | @cons p q ps qs hq t ih =>
        intro x hx
        rcases List.mem_cons.mp hx with e | hx
        · subst e; rw [← hq.1]; exact hq.2.1
        · exact ih x hx
    obtain ⟨o', its', n', h1, h2, h3, h4⟩ := key_of I.hok (all rel x hx)
    exact ⟨o', its', n', hk _ _ (Nat.ne_of_lt (Heap.lt_size h1)) (by simp) h1, h2, h3, h4⟩
  · have hm : (s.heap.objs.size == sysModules) = false := beq_eq_false_iff_ne.mpr (Nat.ne_of_gt I.big)
    have hlen : (kvs.foldl (fun acc p => putK acc p.1 p.2) []).length ≤ sizeLine := by
      have := len_merge kvs []
      rw [List.length_nil] at this
      omega
    obtain ⟨q1, es, ep, g1, g2, g3, g4, _, g5⟩ := dd
    have hno : H s.heap.objs.size = none := I.hok.fresh (Nat.le_refl _)
    refine ⟨.ref s.heap.objs.size, upd H s.heap.objs.size (.dT (kvs.foldl (fun acc p => putK acc p.1 p.2) [])), I.laid (t' := tk) (fun b u e => hk b u (by simp) e) (Nat.le_refl _) (show ObjOk X.prog X.w _ _ _ (.dT _) from ⟨hlen, hm, storedAllH [] rs, (kt_merge rel .nil).keeps fun c ys ec => ?_, q1, es, ep, g1, g2, g3, g4, g5⟩), rfl, q _ hno⟩
    rw [upd_ne (ne_of_none ec hno)]
    exact ec
end L2
namespace Z
open PySem PySem.Spec PyProof.Rows L2
section
variable {X : Cx} {W : WX} {e k v : Expr} {m mk mv : SE} {pos : Pos}
theorem ge_dct1 (hu : X.A.units + 3 < cLine) (hk : GE X W k mk) (hv : GE X W v mv) : GE X W (.Dict [some k] [v] pos) (eDct1 mk mv) := (pe_dct1 (by omega) hk hv).imp fun σ H Q ⟨ι, ρ, S, s, r, p⟩ => by
  intro pA hp
  have e0 : Ext ι H (ι ++ [pA]) (upd H pA (.dT [])) := ext_new hp
  have s0 : Sim X.K (ι ++ [pA]) (S ++ [.st []]) (upd H pA (.dT [])) := s.new hp ⟨[], upd_same, rfl⟩
  have ha : (ι ++ [pA])[S.length]? = some pA := by rw [← s.len, List.getElem?_append_right (Nat.le_refl _)]; simp
  refine ⟨_, ρ, _, s0, r.ext e0, Po.bd (Po.mono e0 p) fun x S1 ι1 H1 y e1 s1 r1 p1 => ?_⟩
  refine ⟨ι1, ρ, S1, s1, (r.ext e0).ext e1, Po.bd p1 fun z S2 ι2 H2 w e2 s2 r2 p2 => ?_⟩
  split at p2
  · rename_i ks g1 g
    have r1 := Rep.ext e2 _ _ r1
    obtain ⟨b, kk, rfl, h1, hk⟩ := kv_ok r1 g1
    have ha2 := (e1.trans e2).at ha
    obtain ⟨en, he, hr⟩ := s2.get ha2 g
    rw [KsR] at hr
    subst hr
    refine ⟨b, kk, w, rfl, he, h1, ?_⟩
    have em : Ext ι2 H2 ι2 (upd H2 pA (.dT [(kk, w)])) := ext_mut he trivial
    exact Po.ret (Po.mono em p2) (s2.put ha2 ⟨_, upd_same, kk, w, [], rfl, hk, Rep.ext em _ _ r2, rfl⟩ ⟨_, he, trivial⟩) (by rw [Rep]; exact ⟨pA, rfl, ha2⟩)
  · exact p2.elim
theorem prOf_ok {K : PySem.W.Frag} {ι : List Addr} {H : Hp} : ∀ {xs : List D} {vs : List V} {kvs : List (List D × D)}, RepL K ι H xs vs → prOf xs = some kvs →
    ∃ (ps : List Addr) (en : List (List Key × V)), vs = ps.map V.ref ∧ Paired (fun p kv => ∃ b, H p = some (.tup [.ref b, kv.2]) ∧ H b = some (.tup (kv.1.map kV))) ps en ∧ KsR keysD K ι H kvs en
  | [], vs, kvs, r, h => by
    cases h
    exact ⟨[], [], r.nil, .nil, rfl⟩
  | x :: xs, vs, kvs, r, h => by
    obtain ⟨y, t, rfl, r1, r2⟩ := r.cons
    unfold prOf at h
    split at h
    · rename_i hh; cases hh
    · rename_i k' v' r' hh
      cases hh
      split at h
      · rename_i ks tl g1 g2
        cases h
        obtain ⟨ps, en, e1, e2, e3⟩ := prOf_ok r2 g2
        rw [Rep] at r1
        obtain ⟨a, ws, rfl, h1, h2⟩ := r1
        obtain ⟨y1, t1, rfl, q1, q2⟩ := h2.cons
        obtain ⟨y2, t2, rfl, q3, q4⟩ := q2.cons
        have := q4.nil
        subst this
        obtain ⟨b, kk, rfl, h3, hk⟩ := kv_ok q1 g1
        exact ⟨a :: ps, (kk, y2) :: en, by rw [e1]; rfl, .cons ⟨b, h1, h3⟩ e2, kk, y2, en, rfl, hk, q3, e3⟩
      · cases h
    · cases h
theorem fold_ok {K : PySem.W.Frag} {ι : List Addr} {H : Hp} : ∀ {kvs : List (List D × D)} {en : List (List Key × V)} {acc : List (List D × D)} {ac : List (List Key × V)}, KsR keysD K ι H kvs en → KsR keysD K ι H acc ac →
    KsR keysD K ι H (kvs.foldl (fun acc p => tput acc p.1 p.2) acc) (en.foldl (fun acc p => putK acc p.1 p.2) ac)
  | [], en, acc, ac, h, g => by rw [KsR] at h; subst h; exact g
  | p :: kvs, en, acc, ac, h, g => by
    rw [KsR] at h
    obtain ⟨kk, y, t, rfl, h1, h2, h3⟩ := h
    have := fold_ok h3 (tput_ok h1 h2 g)
    exact this
theorem no_dict : NoExF dictF := by
  intro ds S c S'
  unfold dictF
  split <;> (try split) <;> (try split) <;> (try split) <;> simp [new1]
theorem zc_dictT (hc : X.calm = true) (hu : X.A.units + 3 < cLine) : CallR X (.type "dict") (rB X dictF) := by
  intro pins s σ H xs us Q I r ⟨ι, S, ds, sm, rd, po⟩
  unfold dictF at po
  split at po
  · obtain ⟨v, rfl, h⟩ := one_of (ds := []) rd
    split at po
    · rename_i xs g
      split at po
      · rename_i kvs hk
        split at po
        · rename_i hl
          obtain ⟨p, vs, rfl, i1, e1, r1⟩ := lst_ok sm h g
          obtain ⟨ps, en, rfl, e2, e3⟩ := prOf_ok r1 hk
          refine call_dictT hc (by omega) pins s σ H _ us Q I r ⟨p, ps, en, rfl, e1, e2, fun t ht => ?_⟩
          have ex : Ext ι H (ι ++ [t]) (upd H t (.dT (en.foldl (fun acc p => putK acc p.1 p.2) []))) := ext_new ht
          exact Po.ret (Po.mono ex po) (sm.new ht ⟨_, upd_same, KsR.ext ex _ _ (fold_ok e3 rfl)⟩) (Rep.newL sm)
        · exact po.elim
      · exact po.elim
    · exact po.elim
  · exact po.elim
/-! ### walks over a dict -/
/-- what stays when a dict is unlocked -/
structure Wk (H H' : Hp) : Prop where
  tup : ∀ a xs, H a = some (.tup xs) → H' a = some (.tup xs)
  frz : ∀ a o xs, H a = some (.frz o (.lst xs)) → H' a = some (.frz o (.lst xs))
section
variable {K : PySem.W.Frag} {ι : List Addr} {H H' : Hp}
mutual
theorem Rep.wk (e : Wk H H') : ∀ (d : D) (v : V), Rep K ι H d v → Rep K ι H' d v
  | .non, _, h => h
  | .bl _, _, h => h
  | .int _, _, h => h
  | .str _, _, h => h
  | .tup xs, _, h => by
    rw [Rep] at h ⊢
    obtain ⟨a, vs, e1, h1, h2⟩ := h
    exact ⟨a, vs, e1, e.tup _ _ h1, RepL.wk e xs vs h2⟩
  | .ref n, _, h => h
  | .fl xs, _, h => by
    rw [Rep] at h ⊢
    obtain ⟨a, vs, e1, h1, h2⟩ := h
    refine ⟨a, vs, e1, ?_, RepL.wk e xs vs h2⟩
    rcases h1 with ⟨o, h1⟩ | h1
    · exact .inl ⟨o, e.frz _ _ _ h1⟩
    · exact .inr h1
theorem RepL.wk (e : Wk H H') : ∀ (ds : List D) (vs : List V), RepL K ι H ds vs → RepL K ι H' ds vs
  | [], _, h => h
  | x :: xs, _, h => by
    rw [RepL] at h ⊢
    obtain ⟨v, r, e1, h1, h2⟩ := h
    exact ⟨v, r, e1, Rep.wk e x v h1, RepL.wk e xs r h2⟩
end
theorem KsR.wk (e : Wk H H') : ∀ (kvs : List (List D × D)) (ks : List (List Key × V)), KsR keysD K ι H kvs ks → KsR keysD K ι H' kvs ks
  | [], ks, h => h
  | p :: r, ks, h => by
    rw [KsR] at h ⊢
    obtain ⟨k, v, t, e1, e2, e3, e4⟩ := h
    exact ⟨k, v, t, e1, e2, Rep.wk e _ _ e3, KsR.wk e r t e4⟩
theorem ObjR.wk {a : Addr} {o : MO} (h : ObjR K ι H a o) (e : Wk H H') (k : H' a = H a) : ObjR K ι H' a o := by
  cases o with
  | lst xs => obtain ⟨vs, e1, h1⟩ := h; exact ⟨vs, k.trans e1, RepL.wk e _ _ h1⟩
  | dct _ => obtain ⟨q, ks, e1, h1⟩ := h; exact ⟨q, ks, k.trans e1, KsR.wk e _ _ h1⟩
  | st _ => obtain ⟨ks, e1, h1⟩ := h; exact ⟨ks, k.trans e1, KsR.wk e _ _ h1⟩
  | ins _ _ => exact h.elim
  | exn _ => exact h.elim
end
theorem intL_rep {K : PySem.W.Frag} {ι : List Addr} {H : Hp} : ∀ {ks : List D} {kk : List Key}, ks.all i0 = true → keysD ks = some kk → RepL K ι H ks (kk.map kV)
  | [], kk, _, h => by cases h; rw [RepL]; rfl
  | x :: ks, kk, hi, h => by
    rw [List.all_cons, Bool.and_eq_true] at hi
    rw [keysD] at h
    split at h
    · rename_i a as h1 h2
      cases h
      cases x with
      | int i =>
        cases h1
        rw [RepL]
        exact ⟨_, _, rfl, by rw [Rep]; rfl, intL_rep hi.2 h2⟩
      | _ => cases hi.1
    · cases h
theorem ritm_keys {K : PySem.W.Frag} {ι : List Addr} {H : Hp} {n : Nat} {a : Addr} {o : Obj} {kvs : List (List D × D)} {en : List (List Key × V)} (ha : ι[n]? = some a) (he : H a = some (.frz o (.dT en))) (hr : KsR keysD K ι H kvs en) (hi : (kvs.all fun p => p.1.all i0) = true) :
    RItm K ι H ⟨kvs.map fun p => .tup p.1, fun S => S[n]? = some (.dct kvs)⟩ (Itkt a o en) := fun ι' H' S' e s c => by
  have he' := e.frz _ _ _ he
  refine ⟨fun i x hx => ?_, he', by simp [hr.length]⟩
  rw [List.getElem?_map] at hx
  obtain ⟨p, hp, rfl⟩ := Option.map_eq_some_iff.mp hx
  have hil : i < kvs.length := (List.getElem?_eq_some_iff.mp hp).1
  refine ⟨⟨he', by rw [hr.length]; exact hil⟩, fun v H'' y => ?_⟩
  obtain ⟨rfl, k, v', q, h1, rfl, h2⟩ := y
  refine ⟨.refl, s, ?_⟩
  have hk : keysD p.1 = some k := by
    have : ∀ {kvs : List (List D × D)} {en : List (List Key × V)} {i : Nat} {p : List D × D} {k : List Key} {v : V}, KsR keysD K ι H kvs en → kvs[i]? = some p → en[i]? = some (k, v) → keysD p.1 = some k := by
      intro kvs
      induction kvs with
      | nil => intro en i p k v _ h; simp at h
      | cons q r ih =>
        intro en i p k v h h1 h2
        rw [KsR] at h
        obtain ⟨k', v', t, rfl, g1, _, g3⟩ := h
        cases i with
        | zero => simp at h1 h2; obtain ⟨rfl, rfl⟩ := h2; subst h1; exact g1
        | succ i => exact ih g3 (by simpa using h1) (by simpa using h2)
    exact this hr hp h1
  rw [Rep]
  exact ⟨q, k.map kV, rfl, h2, intL_rep (List.all_eq_true.mp hi p (List.mem_of_getElem? hp)) hk⟩
theorem gi_keyD {tg : Expr} (h : GE X W e m) : GI X W tg e (iKeyD m) := (pi_keys h).imp fun σ H R ⟨ι, ρ, S, sm, r, p⟩ => by
  refine ⟨ι, ρ, S, sm, r, Po.bd p fun y S1 ι1 H1 x e1 s1 r1 p1 => ?_⟩
  split at p1
  · rename_i n
    split at p1
    · rename_i kvs g
      split at p1
      · rename_i hi
        rw [Rep] at r1
        obtain ⟨a, rfl, ha⟩ := r1
        obtain ⟨o, en, he, hr⟩ := s1.get ha g
        exact ⟨a, o, rfl, .inr ⟨en, he, Po.ritm p1 s1 (ritm_keys ha he hr hi)⟩⟩
      · exact p1.elim
    · exact p1.elim
  · exact p1.elim
theorem gs_lock {st : Stmt} {mm : SS} (i : Nat) (h : GS X W st mm) : GS X W st (sLock i mm) := (ps_lock h).imp fun D σ H ⟨ι, ρ, S, s, r, p⟩ => by
  unfold sLock at p
  split at p
  · rename_i n g
    split at p
    · rename_i kvs g2
      obtain ⟨v, hv1, hv2⟩ := r.2 _ _ g
      rw [Rep] at hv2
      obtain ⟨a, rfl, ha⟩ := hv2
      obtain ⟨en, he, hr⟩ := s.get ha g2
      refine ⟨a, .dT en, he, trivial, fun od => ?_⟩
      have e0 : Ext ι H ι (upd H a (.frz od (.dT en))) := ext_mut he trivial
      refine ⟨ι, ρ, S.set n (.dct kvs), s.put ha ⟨od, en, upd_same, KsR.ext e0 _ _ hr⟩ ⟨_, he, trivial⟩, r.ext e0, ?_⟩
      have hf : upd H a (.frz od (.dT en)) a = some (.frz od (.dT en)) := upd_same
      have back : ∀ {ι' : List Addr} {H' : Hp} {S1 : Store}, Ext ι (upd H a (.frz od (.dT en))) ι' H' → Sim X.K ι' S1 H' → S1[n]? = some (.dct kvs) → H' a = some (.frz od (.dT en)) ∧ Ext ι H ι' (upd H' a (.dT en)) ∧ Sim X.K ι' (S1.set n (.st kvs)) (upd H' a (.dT en)) ∧
          (∀ d v, Rep X.K ι' H' d v → Rep X.K ι' (upd H' a (.dT en)) d v) := by
        intro ι' H' S1 e1 s1 g3
        have hfa := e1.frz _ _ _ hf
        have wk : Wk H' (upd H' a (.dT en)) := by
          refine ⟨fun b xs hb => ?_, fun b q u hb => ?_⟩
          · rw [upd_ne (by rintro rfl; rw [hfa] at hb; cases hb)]; exact hb
          · rw [upd_ne (by rintro rfl; rw [hfa] at hb; cases hb)]; exact hb
        have eT : Ext ι H ι' (upd H' a (.dT en)) := by
          refine ⟨e1.pre, fun b xs hb => ?_, fun b q u hb => ?_⟩
          · have hne : b ≠ a := by rintro rfl; rw [he] at hb; cases hb
            rw [upd_ne hne]
            exact e1.tup _ _ (by rw [upd_ne hne]; exact hb)
          · have hne : b ≠ a := by rintro rfl; rw [he] at hb; cases hb
            rw [upd_ne hne]
            exact e1.frz _ _ _ (by rw [upd_ne hne]; exact hb)
        have ha1 := e1.at ha
        have hn1 := (List.getElem?_eq_some_iff.mp g3).1
        refine ⟨hfa, eT, ⟨by simp [s1.len], s1.nd, fun j o b h1 h2 => ?_⟩, fun d v => Rep.wk wk d v⟩
        by_cases hj : n = j
        · subst hj
          rw [List.getElem?_set_self hn1] at h1
          cases h1
          rw [ha1] at h2; cases h2
          obtain ⟨q, en', k1, k2⟩ := s1.get ha1 g3
          rw [hfa] at k1
          cases k1
          exact ⟨en, upd_same, KsR.wk wk _ _ k2⟩
        · rw [List.getElem?_set_ne hj] at h1
          refine (s1.obj j o b h1 h2).wk wk ?_
          rw [upd_ne]
          rintro rfl
          obtain ⟨l1, q1⟩ := List.getElem?_eq_some_iff.mp ha1
          obtain ⟨l2, q2⟩ := List.getElem?_eq_some_iff.mp h2
          exact hj ((List.getElem_inj s1.nd).mp (q1.trans q2.symm))
      match q : mm ρ (S.set n (.dct kvs)), p with
      | none, p => exact p
      | some (.nx ρ1 S1), p =>
        dsimp only at p
        split at p
        · rename_i g3
          intro ι' H' σ' e1 s1 r1
          obtain ⟨b1, b2, b3, b4⟩ := back e1 s1 g3
          exact ⟨b1, p ι' _ σ' b2 b3 ⟨r1.1, fun j d hj => let ⟨v, x1, x2⟩ := r1.2 j d hj; ⟨v, x1, b4 _ _ x2⟩⟩⟩
        · exact p.elim
      | some (.rt d S1), p =>
        dsimp only at p
        split at p
        · rename_i g3
          intro ι' H' v e1 s1 r1
          obtain ⟨b1, b2, b3, b4⟩ := back e1 s1 g3
          exact ⟨b1, p ι' _ v b2 b3 (b4 _ _ r1)⟩
        · exact p.elim
      | some (.bk _ _), p => exact p.elim
      | some (.ct _ _), p => exact p.elim
      | some (.ex _ _ _), p => exact p.elim
    · exact p.elim
  · exact p.elim
end
end Z
namespace Z
noncomputable def lb_pairs_met_1 : SS :=
  sIf (tVal (e2 kNi (eVar 7) (eVar 2))) (sq (sKPut (eVar 2) (eVar 7) (eC (.bl true))) (sExp (eMt .list appendF (eVar 3) [eVar 7]))) (sNx)
noncomputable def lb_pairs_met_2 : SS :=
  sq (sAsg (e2 ixD (eVar 0) (e2 ixD (e2 ixD (eVar 3) (eVar 4)) (eC (.int 0)))) (gName 5)) (sq (sAsg (e2 ixD (eVar 1) (e2 ixD (e2 ixD (eVar 3) (eVar 4)) (eC (.int 1)))) (gName 6)) (sq (sFor (iAny (eLst [eTup [e2 ixD (eVar 5) (eC (.int 1)), e2 ixD (eVar 6) (eC (.int 1))], eTup [e2 ixD (eVar 5) (eC (.int 2)), e2 ixD (eVar 6) (eC (.int 2))]])) (gName 7) (lb_pairs_met_1)) (sAsg (e2 addD (eVar 4) (eC (.int 1))) (gName 4))))
noncomputable def b_pairs_met : SS :=
  sq (sAsg (eDct1 (eTup [eC (.int 0), eC (.int 0)]) (eC (.bl true))) (gName 2)) (sq (sAsg (eLst [eTup [eC (.int 0), eC (.int 0)]]) (gName 3)) (sq (sAsg (eC (.int 0)) (gName 4)) (sq (sWh (tVal (e2 ltD (eVar 4) (eCall lenF [eVar 3]))) (lb_pairs_met_2)) (sRet (eVar 3)))))
noncomputable def R_pairs_met : Fn := runF 2 8 (b_pairs_met)
noncomputable def lb_least_places_1 : SS :=
  sIf (tVal (e2 kIn (eVar 7) (eVar 2))) (sq (sAsg (e2 addD (e2 mulD (eC (.int 2)) (e2 kGet (eVar 2) (eVar 7))) (eVar 8)) (gName 9)) (sIf (tOr (tVal (e2 kNi (eVar 4) (eVar 2))) (tVal (e2 ltD (eVar 9) (e2 kGet (eVar 2) (eVar 4))))) (sq (sKPut (eVar 2) (eVar 4) (eVar 9)) (sAsg (eC (.bl true)) (gName 3))) (sNx))) (sNx)
noncomputable def lb_least_places_2 : SS :=
  sq (sAsg (e2 kGet (eVar 0) (eVar 4)) (gTup [gName 5, gName 6])) (sFor (iAny (eLst [eTup [eVar 5, eC (.int 0)], eTup [eVar 6, eC (.int 1)]])) (gTup [gName 7, gName 8]) (lb_least_places_1))
noncomputable def lb_least_places_3 : SS :=
  sq (sAsg (eC (.bl false)) (gName 3)) (sLock 0 (sFor (iKeyD (eVar 0)) (gName 4) (lb_least_places_2)))
noncomputable def b_least_places : SS :=
  sq (sAsg (eCall dictF [eLc (iAny (eVar 1)) (gName 4) (tYes) (eTup [eVar 4, eC (.int 0)]) [4]]) (gName 2)) (sq (sAsg (eC (.bl true)) (gName 3)) (sq (sWh (tVal (eVar 3)) (lb_least_places_3)) (sRet (eVar 2))))
noncomputable def R_least_places : Fn := runF 2 10 (b_least_places)
noncomputable def b_law_cell : SS :=
  sq (sIf (tVal (e2 ltD (eVar 1) (eCall lenF [eVar 0]))) (sRet (e2 modD (e2 ixD (eVar 0) (eVar 1)) (e2 powD (eC (.int 10)) (eC (.int 18))))) (sNx)) (sq (sAsg (e2 addD (eC (.int 19)) (e2 mulD (e2 mulD (eC (.int 11)) (eVar 1)) (eVar 1))) (gName 2)) (sq (sIf (tVal (e2 gtD (eCall lenF [eVar 0]) (eC (.int 0)))) (sAsg (e2 addD (eVar 2) (e2 mulD (e2 modD (e2 ixD (eVar 0) (e2 modD (eVar 1) (eCall lenF [eVar 0]))) (eC (.int 1000003))) (e2 addD (eVar 1) (eC (.int 7))))) (gName 2)) (sNx)) (sq (sAsg (e2 modD (e2 mulD (eVar 2) (eC (.int 48271))) (eC (.int 2147483647))) (gName 2)) (sRet (e2 fdivD (e2 modD (e2 powD (eVar 2) (eC (.int 5))) (eC (.int 2147483647))) (eC (.int 3)))))))
noncomputable def R_law_cell : Fn := runF 2 3 (b_law_cell)
noncomputable def lb_law_sign_1 : SS :=
  sq (sAsg (e2 ixD (e2 ixD (eVar 0) (eVar 2)) (e2 addD (eC (.int 1)) (e2 modD (eVar 1) (eC (.int 2))))) (gName 2)) (sAsg (e2 fdivD (eVar 1) (eC (.int 2))) (gName 1))
noncomputable def b_law_sign : SS :=
  sq (sAsg (eC (.int 0)) (gName 2)) (sq (sWh (tVal (e2 gtD (eVar 1) (eC (.int 0)))) (lb_law_sign_1)) (sRet (e2 ixD (e2 ixD (eVar 0) (eVar 2)) (eC (.int 0)))))
noncomputable def R_law_sign : Fn := runF 2 3 (b_law_sign)
noncomputable def lb_law_pairing_1 : SS :=
  sq (sIf (tVal (e2 neD (e2 ixD (e2 ixD (eVar 0) (eVar 3)) (eC (.int 0))) (e2 ixD (e2 ixD (eVar 1) (eVar 4)) (eC (.int 0))))) (sRet (eC (.bl false))) (sNx)) (sIf (tOr (tVal (e2 ninD (eTup [e2 ixD (e2 ixD (eVar 0) (eVar 3)) (eC (.int 1)), e2 ixD (e2 ixD (eVar 1) (eVar 4)) (eC (.int 1))]) (eVar 2))) (tVal (e2 ninD (eTup [e2 ixD (e2 ixD (eVar 0) (eVar 3)) (eC (.int 2)), e2 ixD (e2 ixD (eVar 1) (eVar 4)) (eC (.int 2))]) (eVar 2)))) (sRet (eC (.bl false))) (sNx))
noncomputable def b_law_pairing : SS :=
  sq (sIf (tOr (tNot (tVal (e1 (isiD .list) (eVar 2)))) (tVal (e2 ninD (eTup [eC (.int 0), eC (.int 0)]) (eVar 2)))) (sRet (eC (.bl false))) (sNx)) (sq (sFor (iAny (eVar 2)) (gTup [gName 3, gName 4]) (lb_law_pairing_1)) (sRet (eC (.bl true))))
noncomputable def R_law_pairing : Fn := runF 3 5 (b_law_pairing)
noncomputable def lb_alike_1 : SS :=
  sKPut (eVar 3) (eTup [eVar 4, eVar 5]) (eTup [eTup [e2 ixD (e2 ixD (eVar 0) (eVar 4)) (eC (.int 1)), e2 ixD (e2 ixD (eVar 1) (eVar 5)) (eC (.int 1))], eTup [e2 ixD (e2 ixD (eVar 0) (eVar 4)) (eC (.int 2)), e2 ixD (e2 ixD (eVar 1) (eVar 5)) (eC (.int 2))]])
noncomputable def b_alike (F_pairs_met : Fn) (F_least_places : Fn) : SS :=
  sq (sAsg (eCall F_pairs_met [eVar 0, eVar 1]) (gName 2)) (sq (sAsg (eDctT) (gName 3)) (sq (sFor (iAny (eVar 2)) (gTup [gName 4, gName 5]) (lb_alike_1)) (sq (sAsg (eLc (iAny (eVar 2)) (gName 8) (tVal (e2 neD (e2 ixD (e2 ixD (eVar 0) (e2 ixD (eVar 8) (eC (.int 0)))) (eC (.int 0))) (e2 ixD (e2 ixD (eVar 1) (e2 ixD (eVar 8) (eC (.int 1)))) (eC (.int 0))))) (eVar 8) [8]) (gName 6)) (sq (sAsg (eCall F_least_places [eVar 3, eVar 6]) (gName 7)) (sq (sIf (tVal (e2 kIn (eTup [eC (.int 0), eC (.int 0)]) (eVar 7))) (sRet (eTup [eC (.str [117, 110, 108, 105, 107, 101]), e2 kGet (eVar 7) (eTup [eC (.int 0), eC (.int 0)])])) (sNx)) (sRet (eTup [eC (.str [97, 108, 105, 107, 101]), eVar 2])))))))
noncomputable def R_alike : Fn := runF 2 9 (b_alike R_pairs_met R_least_places)
noncomputable def lb_law_machine_1 (F_law_cell : Fn) : SS :=
  sq (sAsg (e2 fdivD (eCall F_law_cell [eVar 0, e2 addD (e2 addD (eVar 1) (eC (.int 1))) (e2 fdivD (eVar 7) (eC (.int 3)))]) (e2 addD (eC (.int 1)) (e2 mulD (eC (.int 17)) (e2 modD (eVar 7) (eC (.int 3)))))) (gName 8)) (sq (sAsg (eLc (iR1 (eVar 4)) (gName 10) (tVal (e2 eqD (e2 ixD (eVar 5) (eVar 10)) (e2 ixD (eVar 5) (eVar 7)))) (eVar 10) [10]) (gName 9)) (sExp (eMt .list appendF (eVar 6) [eTup [e2 ixD (eVar 5) (eVar 7), e2 ixD (eVar 9) (e2 modD (eVar 8) (eCall lenF [eVar 9])), e2 modD (e2 fdivD (eVar 8) (eC (.int 23))) (eVar 4)]])))
noncomputable def b_law_machine (F_law_cell : Fn) : SS :=
  sq (sAsg (eCall F_law_cell [eVar 0, eVar 1]) (gName 3)) (sq (sAsg (e2 addD (eC (.int 1)) (e2 modD (eVar 3) (eVar 2))) (gName 4)) (sq (sAsg (eLc (iR1 (eVar 4)) (gName 7) (tYes) (e2 modD (e2 fdivD (eVar 3) (e2 addD (eC (.int 3)) (e2 mulD (eC (.int 5)) (eVar 7)))) (e2 addD (eC (.int 2)) (e2 modD (e2 fdivD (eVar 3) (eC (.int 50))) (eC (.int 2))))) [7]) (gName 5)) (sq (sAsg (eLst []) (gName 6)) (sq (sFor (iR1 (eVar 4)) (gName 7) (lb_law_machine_1 F_law_cell)) (sRet (eCall tupleF [eVar 6]))))))
noncomputable def R_law_machine : Fn := runF 3 11 (b_law_machine R_law_cell)
noncomputable def lb_law_doubled_1 (F_law_cell : Fn) : SS :=
  sq (sAsg (e2 ixD (eVar 1) (e2 modD (eVar 4) (eVar 2))) (gTup [gName 5, gName 6, gName 7])) (sq (sAsg (e2 fdivD (eCall F_law_cell [eVar 0, eC (.int 30)]) (e2 addD (eC (.int 1)) (e2 mulD (eC (.int 7)) (eVar 4)))) (gName 8)) (sExp (eMt .list appendF (eVar 3) [eTup [eVar 5, e2 addD (eVar 6) (e2 mulD (eVar 2) (e2 modD (eVar 8) (eC (.int 2)))), e2 addD (eVar 7) (e2 mulD (eVar 2) (e2 modD (e2 fdivD (eVar 8) (eC (.int 2))) (eC (.int 2))))]])))
noncomputable def b_law_doubled (F_law_cell : Fn) : SS :=
  sq (sAsg (eCall lenF [eVar 1]) (gName 2)) (sq (sAsg (eLst []) (gName 3)) (sq (sFor (iR1 (e2 mulD (eC (.int 2)) (eVar 2))) (gName 4) (lb_law_doubled_1 F_law_cell)) (sRet (eCall tupleF [eVar 3]))))
noncomputable def R_law_doubled : Fn := runF 2 9 (b_law_doubled R_law_cell)
noncomputable def b_law_other (F_law_cell : Fn) (F_law_machine : Fn) (F_law_doubled : Fn) : SS :=
  sq (sAsg (eCall F_law_cell [eVar 0, eC (.int 20)]) (gName 2)) (sq (sIf (tVal (e2 eqD (e2 modD (eVar 2) (eC (.int 3))) (eC (.int 0)))) (sRet (eCall F_law_machine [eVar 0, eC (.int 6), eC (.int 10)])) (sNx)) (sq (sAsg (eCall F_law_doubled [eVar 0, eVar 1]) (gName 3)) (sq (sIf (tVal (e2 eqD (e2 modD (eVar 2) (eC (.int 3))) (eC (.int 1)))) (sRet (eVar 3)) (sNx)) (sq (sAsg (e2 modD (e2 fdivD (eVar 2) (eC (.int 3))) (eCall lenF [eVar 3])) (gName 4)) (sq (sAsg (e2 ixD (eVar 3) (eVar 4)) (gTup [gName 5, gName 6, gName 7])) (sRet (e2 addD (e2 addD (eSl (eVar 3) none (some (eVar 4))) (eTup [eTup [eVar 5, eVar 6, e2 modD (e2 fdivD (eVar 2) (eC (.int 90))) (eCall lenF [eVar 3])]])) (eSl (eVar 3) (some (e2 addD (eVar 4) (eC (.int 1)))) none))))))))
noncomputable def R_law_other : Fn := runF 2 8 (b_law_other R_law_cell R_law_machine R_law_doubled)
noncomputable def lb_law_far_parts_1 (F_law_cell : Fn) : SS :=
  sq (sAsg (e2 modD (e2 fdivD (eCall F_law_cell [eVar 0, eC (.int 22)]) (e2 addD (eC (.int 1)) (e2 mulD (eC (.int 3)) (eVar 4)))) (eC (.int 2))) (gName 5)) (sExp (eMt .list appendF (eVar 3) [e2 ixD (eLst [eTup [eC (.int 0), e2 addD (eVar 4) (eC (.int 1)), e2 addD (eVar 1) (eC (.int 2))], eTup [eC (.int 0), e2 addD (eVar 1) (eC (.int 2)), e2 addD (eVar 4) (eC (.int 1))]]) (eVar 5)]))
noncomputable def lb_law_far_parts_2 (F_law_cell : Fn) : SS :=
  sAsg (e2 addD (e2 mulD (eC (.int 2)) (eVar 2)) (e2 modD (e2 fdivD (eCall F_law_cell [eVar 0, eC (.int 22)]) (e2 addD (eC (.int 1)) (e2 mulD (eC (.int 3)) (e2 subD (e2 subD (eVar 1) (eC (.int 1))) (eVar 4))))) (eC (.int 2)))) (gName 2)
noncomputable def b_law_far_parts (F_law_cell : Fn) (F_alike : Fn) : SS :=
  sq (sAsg (e2 modD (eCall F_law_cell [eVar 0, eC (.int 21)]) (eC (.int 60))) (gName 1)) (sq (sAsg (eC (.int 1)) (gName 2)) (sq (sAsg (eLst []) (gName 3)) (sq (sFor (iR1 (eVar 1)) (gName 4) (lb_law_far_parts_1 F_law_cell)) (sq (sFor (iR1 (eVar 1)) (gName 4) (lb_law_far_parts_2 F_law_cell)) (sq (sAsg (eCall tupleF [e2 addD (eVar 3) (eLst [eTup [eC (.int 0), e2 addD (eVar 1) (eC (.int 2)), e2 addD (eVar 1) (eC (.int 1))], eTup [eC (.int 1), e2 addD (eVar 1) (eC (.int 1)), e2 addD (eVar 1) (eC (.int 2))], eTup [eC (.int 0), e2 addD (eVar 1) (eC (.int 2)), e2 addD (eVar 1) (eC (.int 2))]])]) (gName 6)) (sRet (eAnd (e2 eqD (eCall F_alike [eVar 6, eTup [eTup [eC (.int 0), eC (.int 0), eC (.int 0)]]]) (eTup [eC (.str [117, 110, 108, 105, 107, 101]), eVar 2])) (e2 eqD (eCall F_alike [eTup [eTup [eC (.int 0), eC (.int 0), eC (.int 0)]], eVar 6]) (eTup [eC (.str [117, 110, 108, 105, 107, 101]), eVar 2])))))))))
noncomputable def R_law_far_parts : Fn := runF 1 7 (b_law_far_parts R_law_cell R_alike)
noncomputable def b_law_v22 (F_law_cell : Fn) (F_law_far_parts : Fn) (F_law_machine : Fn) (F_law_other : Fn) (F_alike : Fn) (F_law_sign : Fn) (F_law_pairing : Fn) : SS :=
  sq (sIf (tAnd (tVal (e2 eqD (e2 modD (eCall F_law_cell [eVar 0, eC (.int 23)]) (eC (.int 3))) (eC (.int 0)))) (tNot (tVal (eCall F_law_far_parts [eVar 0])))) (sRet (eC (.bl false))) (sNx)) (sq (sAsg (eCall F_law_machine [eVar 0, eC (.int 0), eC (.int 10)]) (gName 1)) (sq (sAsg (eCall F_law_other [eVar 0, eVar 1]) (gName 2)) (sq (sAsg (eCall F_alike [eVar 1, eVar 2]) (gName 3)) (sq (sIf (tOr (tNot (tVal (e1 (isiD .tuple) (eVar 3)))) (tVal (e2 neD (eCall lenF [eVar 3]) (eC (.int 2))))) (sRet (eC (.bl false))) (sNx)) (sq (sAsg (eLc (iR1 (eC (.int 200))) (gName 5) (tVal (e2 neD (eCall F_law_sign [eVar 1, eVar 5]) (eCall F_law_sign [eVar 2, eVar 5]))) (eVar 5) [5]) (gName 4)) (sq (sIf (tVal (e2 eqD (e2 ixD (eVar 3) (eC (.int 0))) (eC (.str [97, 108, 105, 107, 101])))) (sRet (eAnd (e2 eqD (eVar 4) (eLst [])) (eCall F_law_pairing [eVar 1, eVar 2, e2 ixD (eVar 3) (eC (.int 1))]))) (sNx)) (sq (sIf (tOr (tVal (e2 neD (e2 ixD (eVar 3) (eC (.int 0))) (eC (.str [117, 110, 108, 105, 107, 101])))) (tOr (tNot (tVal (e1 (isiD .int) (e2 ixD (eVar 3) (eC (.int 1)))))) (tVal (e1 (isiD .bool) (e2 ixD (eVar 3) (eC (.int 1))))))) (sRet (eC (.bl false))) (sNx)) (sq (sIf (tVal (e2 eqD (eCall F_law_sign [eVar 1, e2 ixD (eVar 3) (eC (.int 1))]) (eCall F_law_sign [eVar 2, e2 ixD (eVar 3) (eC (.int 1))]))) (sRet (eC (.bl false))) (sNx)) (sRet (eIf (tVal (e2 neD (eVar 4) (eLst []))) (e2 eqD (e2 ixD (eVar 3) (eC (.int 1))) (e2 ixD (eVar 4) (eC (.int 0)))) (e2 geD (e2 ixD (eVar 3) (eC (.int 1))) (eC (.int 200)))))))))))))
noncomputable def R_law_v22 : Fn := runF 1 6 (b_law_v22 R_law_cell R_law_far_parts R_law_machine R_law_other R_alike R_law_sign R_law_pairing)
noncomputable def lb_sign_at_1 : SS :=
  sq (sAsg (e2 ixD (e2 ixD (eVar 0) (eVar 2)) (e2 addD (eC (.int 1)) (e2 modD (eVar 1) (eC (.int 2))))) (gName 2)) (sAsg (e2 fdivD (eVar 1) (eC (.int 2))) (gName 1))
noncomputable def b_sign_at : SS :=
  sq (sAsg (eC (.int 0)) (gName 2)) (sq (sWh (tVal (e2 gtD (eVar 1) (eC (.int 0)))) (lb_sign_at_1)) (sRet (e2 ixD (e2 ixD (eVar 0) (eVar 2)) (eC (.int 0)))))
noncomputable def R_sign_at : Fn := runF 2 3 (b_sign_at)
noncomputable def lb_shows_alike_1 : SS :=
  sq (sIf (tOr (tVal (e2 geD (eVar 3) (eCall lenF [eVar 0]))) (tOr (tVal (e2 geD (eVar 4) (eCall lenF [eVar 1]))) (tVal (e2 neD (e2 ixD (e2 ixD (eVar 0) (eVar 3)) (eC (.int 0))) (e2 ixD (e2 ixD (eVar 1) (eVar 4)) (eC (.int 0))))))) (sRet (eC (.bl false))) (sNx)) (sIf (tOr (tVal (e2 ninD (eTup [e2 ixD (e2 ixD (eVar 0) (eVar 3)) (eC (.int 1)), e2 ixD (e2 ixD (eVar 1) (eVar 4)) (eC (.int 1))]) (eVar 2))) (tVal (e2 ninD (eTup [e2 ixD (e2 ixD (eVar 0) (eVar 3)) (eC (.int 2)), e2 ixD (e2 ixD (eVar 1) (eVar 4)) (eC (.int 2))]) (eVar 2)))) (sRet (eC (.bl false))) (sNx))
noncomputable def b_shows_alike : SS :=
  sq (sIf (tVal (e2 ninD (eTup [eC (.int 0), eC (.int 0)]) (eVar 2))) (sRet (eC (.bl false))) (sNx)) (sq (sFor (iAny (eVar 2)) (gTup [gName 3, gName 4]) (lb_shows_alike_1)) (sRet (eC (.bl true))))
noncomputable def R_shows_alike : Fn := runF 3 5 (b_shows_alike)
noncomputable def lb_counted_1 : SS :=
  sIf (tVal (e2 eqD (e2 modD (eVar 2) (eC (.int 2))) (eC (.int 0)))) (sExp (eMt .list appendF (eVar 4) [eTup [e2 addD (e2 ixD (e2 ixD (eVar 3) (eVar 6)) (eC (.int 0))) (e2 ixD (e2 ixD (eVar 3) (eVar 7)) (eC (.int 0))), e2 addD (e2 ixD (e2 ixD (eVar 3) (eVar 6)) (eC (.int 1))) (e2 ixD (e2 ixD (eVar 3) (eVar 7)) (eC (.int 0)))]])) (sExp (eMt .list appendF (eVar 4) [eTup [e2 addD (e2 ixD (e2 ixD (eVar 3) (eVar 6)) (eC (.int 1))) (e2 ixD (e2 ixD (eVar 3) (eVar 7)) (eC (.int 0))), e2 addD (e2 ixD (e2 ixD (eVar 3) (eVar 6)) (eC (.int 1))) (e2 ixD (e2 ixD (eVar 3) (eVar 7)) (eC (.int 1)))]]))
noncomputable def b_counted (F_counted : Fn) : SS :=
  sq (sIf (tVal (e2 eqD (eVar 2) (eC (.int 0)))) (sRet (eLc (iAny (eVar 0)) (gTup [gName 5, gName 6, gName 7]) (tYes) (eTup [eC (.int 0), eCall intF [e2 eqD (eVar 5) (eVar 1)]]) [5, 6, 7])) (sNx)) (sq (sAsg (eCall F_counted [eVar 0, eVar 1, e2 fdivD (eVar 2) (eC (.int 2))]) (gName 3)) (sq (sAsg (eLst []) (gName 4)) (sq (sFor (iAny (eVar 0)) (gTup [gName 5, gName 6, gName 7]) (lb_counted_1)) (sRet (eVar 4)))))
noncomputable def R_counted : Nat → Fn
  | 0 => fun _ _ => none
  | d + 1 => runF 3 8 (b_counted (R_counted d))
noncomputable def b_how_often (F_counted : Fn) : SS :=
  sRet (e2 ixD (e2 ixD (eCall F_counted [eVar 0, eVar 1, eVar 2]) (eC (.int 0))) (eC (.int 0)))
noncomputable def R_how_often : Fn := runF 3 3 (b_how_often (R_counted 120))
noncomputable def lb_law_due_v7_1 : SS :=
  sIf (tVal (e2 ninD (eTup [e2 ixD (e2 ixD (eVar 0) (eVar 3)) (eVar 5), e2 ixD (e2 ixD (eVar 1) (eVar 4)) (eVar 5)]) (eVar 2))) (sRet (eC (.bl false))) (sNx)
noncomputable def lb_law_due_v7_2 : SS :=
  sq (sIf (tOr (tNot (tVal (eCh leD ltD (eC (.int 0)) (eVar 3) (eCall lenF [eVar 0])))) (tOr (tNot (tVal (eCh leD ltD (eC (.int 0)) (eVar 4) (eCall lenF [eVar 1])))) (tVal (e2 neD (e2 ixD (e2 ixD (eVar 0) (eVar 3)) (eC (.int 0))) (e2 ixD (e2 ixD (eVar 1) (eVar 4)) (eC (.int 0))))))) (sRet (eC (.bl false))) (sNx)) (sFor (iAny (eTup [eC (.int 1), eC (.int 2)])) (gName 5) (lb_law_due_v7_1))
noncomputable def b_law_due_v7 : SS :=
  sq (sIf (tVal (e2 ninD (eTup [eC (.int 0), eC (.int 0)]) (eVar 2))) (sRet (eC (.bl false))) (sNx)) (sq (sFor (iAny (eVar 2)) (gTup [gName 3, gName 4]) (lb_law_due_v7_2)) (sRet (eC (.bl true))))
noncomputable def R_law_due_v7 : Fn := runF 3 6 (b_law_due_v7)
end Z
namespace Z
/-! ### walks, lists -/
theorem forL_nil {chk : Store → Prop} {g : SG} {b : SS} {ρ : Env} {S : Store} (h : chk S) : forL chk g b [] ρ S = some (.nx ρ S) := by rw [forL, if_pos h]
theorem forL_cons {chk : Store → Prop} {g : SG} {b : SS} {x : D} {r : List D} {ρ ρ1 ρ2 : Env} {S S1 S2 : Store} (h : chk S) (hg : g x ρ S = some (ρ1, S1)) (hb : b ρ1 S1 = some (.nx ρ2 S2)) : forL chk g b (x :: r) ρ S = forL chk g b r ρ2 S2 := by
  rw [forL, if_pos h, hg]
  dsimp only
  rw [hb]
theorem forL_rt {chk : Store → Prop} {g : SG} {b : SS} {x : D} {r : List D} {ρ ρ1 : Env} {S S1 S2 : Store} {d : D} (h : chk S) (hg : g x ρ S = some (ρ1, S1)) (hb : b ρ1 S1 = some (.rt d S2)) : forL chk g b (x :: r) ρ S = some (.rt d S2) := by
  rw [forL, if_pos h, hg]
  dsimp only
  rw [hb]
theorem lcL_map {chk : Store → Prop} {g : SG} {t : ST} {e : SE} {S : Store} {ρ : Env} (f : D → D) : ∀ (xs acc : List D), acc.length + xs.length ≤ LINE →
    (∀ acc, chk (S ++ [.lst acc])) →
    (∀ x ∈ xs, ∀ acc, ∃ ρ1, g x ρ (S ++ [.lst acc]) = some (ρ1, S ++ [.lst acc]) ∧ t ρ1 (S ++ [.lst acc]) = some (.ok true (S ++ [.lst acc])) ∧ e ρ1 (S ++ [.lst acc]) = some (.ok (f x) (S ++ [.lst acc]))) →
    lcL chk g t e S.length xs ρ (S ++ [.lst acc]) = some (.ok (.ref S.length) (S ++ [.lst (acc ++ xs.map f)]))
  | [], acc, _, hc, _ => by rw [lcL, if_pos (hc acc)]; simp
  | x :: xs, acc, hl, hc, h => by
    obtain ⟨ρ1, h1, h2, h3⟩ := h x (by simp) acc
    rw [List.length_cons] at hl
    rw [lcL, if_pos (hc acc), h1]
    dsimp only
    rw [h2, bq_ok, if_pos rfl, h3, bq_ok]
    have hlt : acc.length < LINE := by omega
    simp only [List.getElem?_append_right (Nat.le_refl _), Nat.sub_self, List.getElem?_cons_zero, if_pos hlt]
    have e : (S ++ [MO.lst acc]).set S.length (.lst (acc ++ [f x])) = S ++ [.lst (acc ++ [f x])] := by simp
    rw [e, lcL_map f xs (acc ++ [f x]) (by simp; omega) hc fun y hy => h y (List.mem_cons_of_mem _ hy)]
    simp
theorem lcL_filter {chk : Store → Prop} {g : SG} {t : ST} {e : SE} {S : Store} {ρ : Env} (q : D → Bool) (f : D → D) : ∀ (xs acc : List D), acc.length + xs.length ≤ LINE →
    (∀ acc, chk (S ++ [.lst acc])) →
    (∀ x ∈ xs, ∀ acc, ∃ ρ1, g x ρ (S ++ [.lst acc]) = some (ρ1, S ++ [.lst acc]) ∧ t ρ1 (S ++ [.lst acc]) = some (.ok (q x) (S ++ [.lst acc])) ∧ (q x = true → e ρ1 (S ++ [.lst acc]) = some (.ok (f x) (S ++ [.lst acc])))) →
    lcL chk g t e S.length xs ρ (S ++ [.lst acc]) = some (.ok (.ref S.length) (S ++ [.lst (acc ++ (xs.filter q).map f)]))
  | [], acc, _, hc, _ => by rw [lcL, if_pos (hc acc)]; simp
  | x :: xs, acc, hl, hc, h => by
    obtain ⟨ρ1, h1, h2, h3⟩ := h x (by simp) acc
    rw [List.length_cons] at hl
    rw [lcL, if_pos (hc acc), h1]
    dsimp only
    rw [h2, bq_ok]
    by_cases hq : q x = true
    · rw [if_pos hq, h3 hq, bq_ok]
      have hlt : acc.length < LINE := by omega
      simp only [List.getElem?_append_right (Nat.le_refl _), Nat.sub_self, List.getElem?_cons_zero, if_pos hlt]
      have e : (S ++ [MO.lst acc]).set S.length (.lst (acc ++ [f x])) = S ++ [.lst (acc ++ [f x])] := by simp
      rw [e, lcL_filter q f xs (acc ++ [f x]) (by simp; omega) hc fun y hy => h y (List.mem_cons_of_mem _ hy)]
      simp [hq]
    · rw [if_neg hq, lcL_filter q f xs acc (by omega) hc fun y hy => h y (List.mem_cons_of_mem _ hy)]
      simp [hq]
@[simp] theorem x_lc (it : SI) (g : SG) (t : ST) (e : SE) (own : List Nat) (ρ : Env) (S : Store) : eLc it g t e own ρ S = bd (it ρ S) fun J S1 => lcL J.chk g t e S1.length J.xs (wipe ρ own) (S1 ++ [.lst []]) := rfl
@[simp] theorem isi_str (s : List Nat) (S : Store) (t : Ty) : isiD t (.str s) S = some (.ok (.bl (match t with | .str => true | _ => false)) S) := rfl
@[simp] theorem isi_non (S : Store) (t : Ty) : isiD t .non S = some (.ok (.bl false) S) := rfl
@[simp] theorem isi_bl (b : Bool) (S : Store) (t : Ty) : isiD t (.bl b) S = some (.ok (.bl (match t with | .int => true | .bool => true | _ => false)) S) := rfl
@[simp] theorem isi_int (i : Int) (S : Store) (t : Ty) : isiD t (.int i) S = some (.ok (.bl (match t with | .int => true | _ => false)) S) := rfl
@[simp] theorem isi_tup (xs : List D) (S : Store) (t : Ty) : isiD t (.tup xs) S = some (.ok (.bl (match t with | .tuple => true | _ => false)) S) := rfl
theorem isi_ref {n : Nat} {xs : List D} {S : Store} (h : S[n]? = some (.lst xs)) (t : Ty) : isiD t (.ref n) S = some (.ok (.bl (match t with | .list => true | _ => false)) S) := by cases t <;> simp [isiD, isiB, h]
@[simp] theorem in_str (k : Nat) (z : List Nat) (S : Store) : inD (.str [k]) (.str z) S = some (.ok (.bl (decide (k ∈ z))) S) := rfl
@[simp] theorem nin_str (k : Nat) (z : List Nat) (S : Store) : ninD (.str [k]) (.str z) S = some (.ok (.bl (!decide (k ∈ z))) S) := rfl
theorem bls_map {α : Type} (q : α → Bool) : ∀ xs : List α, blsOf (xs.map fun x => .bl (q x)) = some (xs.map q)
  | [] => rfl
  | x :: xs => by simp [blsOf, bls_map q xs]
theorem all_ref {n : Nat} {S : Store} {α : Type} {xs : List α} {q : α → Bool} (h : S[n]? = some (.lst (xs.map fun x => .bl (q x)))) : allF [.ref n] S = some (.ok (.bl (xs.all q)) S) := by
  simp [allF, h, bls_map, List.all_map]
theorem atI_mem {α : Type} {xs : List α} {v : Int} (h0 : 0 ≤ v) (h1 : v < xs.length) : ∃ x, atI xs v = some x ∧ x ∈ xs := by
  have hv : v.toNat < xs.length := by omega
  refine ⟨xs[v.toNat], ?_, List.getElem_mem hv⟩
  simp [atI, ixN, h0, h1, hv]
theorem cut_len {α : Type} (xs : List α) (lo hi : Option Int) : (cut xs lo hi).length ≤ xs.length := by
  unfold cut
  simp
  omega
/-- what each round keeps -/
theorem forL_inv {chk : Store → Prop} {g : SG} {b : SS} (I : Env → Store → Prop) (hc : ∀ ρ S, I ρ S → chk S) : ∀ (l : List D), (∀ x ∈ l, ∀ ρ S, I ρ S → ∃ ρ1 S1, g x ρ S = some (ρ1, S1) ∧ ∃ ρ2 S2, b ρ1 S1 = some (.nx ρ2 S2) ∧ I ρ2 S2) → ∀ ρ S, I ρ S → ∃ ρ' S', forL chk g b l ρ S = some (.nx ρ' S') ∧ I ρ' S'
  | [], _, ρ, S, i => ⟨ρ, S, forL_nil (hc ρ S i), i⟩
  | x :: l, h, ρ, S, i => by
    obtain ⟨ρ1, S1, h1, ρ2, S2, h2, h3⟩ := h x (by simp) ρ S i
    rw [forL_cons (hc ρ S i) h1 h2]
    exact forL_inv I hc l (fun y hy => h y (List.mem_cons_of_mem _ hy)) ρ2 S2 h3
theorem set_self {S : Store} {i : Nat} {o : MO} (h : S[i]? = some o) : S.set i o = S := by
  apply List.ext_getElem?
  intro j
  by_cases hj : i = j
  · subst hj; rw [List.getElem?_set_self (List.getElem?_eq_some_iff.mp h).1, h]
  · rw [List.getElem?_set_ne hj]

theorem forL_ct {chk : Store → Prop} {g : SG} {b : SS} {x : D} {r : List D} {ρ ρ1 ρ2 : Env} {S S1 S2 : Store} (h : chk S) (hg : g x ρ S = some (ρ1, S1)) (hb : b ρ1 S1 = some (.ct ρ2 S2)) : forL chk g b (x :: r) ρ S = forL chk g b r ρ2 S2 := by
  rw [forL, if_pos h, hg]
  dsimp only
  rw [hb]
/-- rounds by their number -/
theorem forL_idx {chk : Store → Prop} {g : SG} {b : SS} (I : Nat → Env → Store → Prop) (hc : ∀ i ρ S, I i ρ S → chk S) : ∀ (l : List D) (n : Nat), (∀ i x, l[i]? = some x → ∀ ρ S, I (n + i) ρ S → ∃ ρ1 S1, g x ρ S = some (ρ1, S1) ∧ ∃ ρ2 S2, (b ρ1 S1 = some (.nx ρ2 S2) ∨ b ρ1 S1 = some (.ct ρ2 S2)) ∧ I (n + i + 1) ρ2 S2) →
    ∀ ρ S, I n ρ S → ∃ ρ' S', forL chk g b l ρ S = some (.nx ρ' S') ∧ I (n + l.length) ρ' S'
  | [], n, _, ρ, S, i => ⟨ρ, S, forL_nil (hc n ρ S i), i⟩
  | x :: l, n, h, ρ, S, i => by
    obtain ⟨ρ1, S1, h1, ρ2, S2, h2, h3⟩ := h 0 x rfl ρ S i
    obtain ⟨ρ', S', h4, h5⟩ := forL_idx I hc l (n + 1) (fun j y hy ρ S i' => by
      have := h (j + 1) y (by simpa using hy) ρ S (by rw [show n + (j + 1) = n + 1 + j by omega]; exact i')
      rw [show n + (j + 1) + 1 = n + 1 + j + 1 by omega] at this
      exact this) ρ2 S2 h3
    refine ⟨ρ', S', ?_, by rw [List.length_cons, show n + (l.length + 1) = n + 1 + l.length by omega]; exact h5⟩
    rcases h2 with h2 | h2
    · rw [forL_cons (hc n ρ S i) h1 h2, h4]
    · rw [forL_ct (hc n ρ S i) h1 h2, h4]
/-- rounds of range(n) -/
theorem forL_range {g : SG} {b : SS} {n : Nat} (I : Nat → Env → Store → Prop) (h : ∀ k, k < n → ∀ ρ S, I k ρ S → ∃ ρ1 S1, g (.int (k : Nat)) ρ S = some (ρ1, S1) ∧ ∃ ρ2 S2, (b ρ1 S1 = some (.nx ρ2 S2) ∨ b ρ1 S1 = some (.ct ρ2 S2)) ∧ I (k + 1) ρ2 S2) (ρ : Env) (S : Store) (i : I 0 ρ S) :
    ∃ ρ' S', forL (fun _ => True) g b ((List.range n).map fun (k : Nat) => .int k) ρ S = some (.nx ρ' S') ∧ I n ρ' S' := by
  have := forL_idx (chk := fun _ => True) (g := g) (b := b) I (fun _ _ _ _ => trivial) ((List.range n).map fun (k : Nat) => .int k) 0 (fun i x hx ρ S j => by
    rw [List.getElem?_map] at hx
    obtain ⟨k, hk, rfl⟩ := Option.map_eq_some_iff.mp hx
    have hi : i < n := by simpa using (List.getElem?_eq_some_iff.mp hk).1
    rw [List.getElem?_range hi] at hk
    cases hk
    rw [Nat.zero_add] at j ⊢
    exact h i hi ρ S j) ρ S i
  simpa using this
theorem get_app {S : Store} {i : Nat} {o : MO} (h : S[i]? = some o) (T : Store) : (S ++ T)[i]? = some o := by rw [List.getElem?_append_left (List.getElem?_eq_some_iff.mp h).1]; exact h
theorem atI_nat {α : Type} {xs : List α} {k : Nat} {x : α} (h : xs[k]? = some x) : atI xs (k : Int) = some x := by
  have hk := (List.getElem?_eq_some_iff.mp h).1
  have := (List.getElem?_eq_some_iff.mp h).2
  simp [atI, ixN, hk, this]
theorem atI_int {α : Type} {xs : List α} {k : Int} {x : α} (h0 : 0 ≤ k) (h : xs[k.toNat]? = some x) : atI xs k = some x := by
  have := atI_nat h
  rwa [Int.toNat_of_nonneg h0] at this
theorem sWh_rt {t : ST} {b : SS} {ρ : Env} {S S1 S2 : Store} {d : D} (h : t ρ S = some (.ok true S1)) (hb : b ρ S1 = some (.rt d S2)) : sWh t b ρ S = some (.rt d S2) := by
  rw [sWh, h]
  dsimp only
  rw [hb]
theorem sWh_go {t : ST} {b : SS} {ρ ρ2 : Env} {S S1 S2 : Store} (h : t ρ S = some (.ok true S1)) (hb : b ρ S1 = some (.nx ρ2 S2)) : sWh t b ρ S = sWh t b ρ2 S2 := by
  conv => lhs; rw [sWh]
  rw [h]
  dsimp only
  rw [hb]
theorem sWh_stop {t : ST} {b : SS} {ρ : Env} {S S1 : Store} (h : t ρ S = some (.ok false S1)) : sWh t b ρ S = some (.nx ρ S1) := by
  rw [sWh, h]
theorem pick_str {names : List (List Nat)} (h : 0 < names.length) (x : Int) : ∃ s, s ∈ names ∧ atI (names.map D.str) (x % (names.length : Int)) = some (.str s) := by
  have v0 := Int.emod_nonneg x (b := (names.length : Int)) (by omega)
  have v1 := Int.emod_lt_of_pos x (b := (names.length : Int)) (by omega)
  obtain ⟨y, h1, h2⟩ := atI_mem (xs := names.map D.str) v0 (by simpa using v1)
  obtain ⟨s, h3, rfl⟩ := List.mem_map.mp h2
  exact ⟨s, h3, h1⟩
theorem mod_nat (x : Int) {m : Int} (h : 0 < m) : ∃ k : Nat, x % m = (k : Int) ∧ (k : Int) < m := ⟨(x % m).toNat, by rw [Int.toNat_of_nonneg (Int.emod_nonneg x (by omega))], by have := Int.emod_lt_of_pos x h; have := Int.emod_nonneg x (b := m) (by omega); omega⟩
theorem cut_map {α β : Type} (f : α → β) (xs : List α) (lo hi : Option Int) : cut (xs.map f) lo hi = (cut xs lo hi).map f := by
  unfold cut; simp [List.map_drop, List.map_take]
theorem cut_take {α : Type} (xs : List α) (v : Nat) : cut xs none (some (v : Int)) = xs.take v := by
  unfold cut sIx
  have : ¬ (v : Int) < 0 := by omega
  simp only [this, if_false, List.drop_zero, Nat.sub_zero, Int.toNat_natCast]
  rw [Nat.min_comm, ← List.take_take]
  exact List.take_of_length_le (by simp; omega)
end Z
namespace Z
/-! ### cells -/
theorem s_law_cell {ns : List Int} (hl : ns.length ≤ 63) {k : Int} (h0 : 0 ≤ k) (h1 : k < 1000) (S : Store) : ∃ c : Int, R_law_cell [.fl (ns.map .int), .int k] S = some (.ok (.int c) S) ∧ 0 ≤ c ∧ c < 1000000000000000000 := by
  unfold R_law_cell
  rw [run_eq (n := 2) _ _ rfl]
  unfold b_law_cell
  have e18 : (10:Int) ^ (18:Int).toNat = 1000000000000000000 := by decide
  have hk : small k := (small_iff k).mpr (by omega)
  by_cases hc : k < ns.length
  · have hv : k.toNat < ns.length := by omega
    refine ⟨ns[k.toNat] % 1000000000000000000, ?_, Int.emod_nonneg _ (by decide), Int.emod_lt_of_pos _ (by decide)⟩
    simp [hc, atI, ixN, h0, hv, small_iff (10 : Int)]
  · have fin : ∀ near : Int, small (near * 48271 % 2147483647) ∧ 0 ≤ (near * 48271 % 2147483647) ^ 5 % 2147483647 / 3 ∧ (near * 48271 % 2147483647) ^ 5 % 2147483647 / 3 < 1000000000000000000 := fun near => by
      have a := Int.emod_nonneg (near * 48271) (b := 2147483647) (by decide)
      have b := Int.emod_lt_of_pos (near * 48271) (b := 2147483647) (by decide)
      have c := Int.emod_nonneg ((near * 48271 % 2147483647) ^ 5) (b := 2147483647) (by decide)
      have d := Int.emod_lt_of_pos ((near * 48271 % 2147483647) ^ 5) (b := 2147483647) (by decide)
      exact ⟨(small_iff _).mpr (by omega), by omega, by omega⟩
    cases ns with
    | nil =>
      obtain ⟨f1, f2, f3⟩ := fin (19 + 11 * k * k)
      refine ⟨_, ?_, f2, f3⟩
      simp at hc
      have hc' : ¬ k < 0 := by omega
      simp [hc', hk, small_iff (11 : Int), small_iff (48271 : Int), f1]
    | cons x r =>
      have hm0 := Int.emod_nonneg k (b := ((x :: r).length : Int)) (by simp only [List.length_cons]; omega)
      have hm1 := Int.emod_lt_of_pos k (b := ((x :: r).length : Int)) (by simp only [List.length_cons]; omega)
      obtain ⟨y, q1, q2⟩ := atI_mem (xs := (x :: r).map D.int) hm0 (by simpa using hm1)
      obtain ⟨z, q3, rfl⟩ := List.mem_map.mp q2
      obtain ⟨f1, f2, f3⟩ := fin (19 + 11 * k * k + z % 1000003 * (k + 7))
      refine ⟨_, ?_, f2, f3⟩
      simp at hc q1
      have hc' : ¬ k < (r.length : Int) + 1 := by omega
      have hpos : (0 : Int) < (r.length : Int) + 1 := by omega
      have hk7 : small (k + 7) := (small_iff _).mpr (by omega)
      simp [hc', hpos, hk, hk7, small_iff (11 : Int), small_iff (48271 : Int), f1, q1]
end Z
namespace Z
/-! ### machines -/
structure Q where
  s : Nat
  e : Nat
  o : Nat
def Q.d (q : Q) : D := .tup [.int q.s, .int q.e, .int q.o]
abbrev machD (m : List Q) : D := .tup (m.map Q.d)
structure Mach (m : List Q) : Prop where
  pos : 0 < m.length
  he : ∀ q ∈ m, q.e < m.length
  ho : ∀ q ∈ m, q.o < m.length
  hs : ∀ q ∈ m, ∀ p, m[q.e]? = some p → p.s = q.s
  h9 : ∀ q ∈ m, q.s ≤ 9
theorem s_law_machine {ns : List Int} (hl : ns.length ≤ 63) {st most : Int} (h0 : 0 ≤ st) (h1 : st < 900) (h2 : 0 < most) (h3 : most < 100) (S : Store) :
    ∃ m G, R_law_machine [.fl (ns.map .int), .int st, .int most] S = some (.ok (machD m) (S ++ G)) ∧ Mach m ∧ (m.length : Int) ≤ most ∧ ∀ q ∈ m, q.s < 3 := by
  obtain ⟨cell, hcell, c0, c1⟩ := s_law_cell hl h0 (by omega) S
  have m0 := Int.emod_nonneg cell (b := most) (by omega)
  have m1 := Int.emod_lt_of_pos cell h2
  obtain ⟨many, hmany⟩ : ∃ many : Nat, 1 + cell % most = many := ⟨(1 + cell % most).toNat, by omega⟩
  have hm1 : 1 ≤ many := by omega
  have hm2 : many ≤ 100 := by omega
  have hsl : (many : Int) < 18446744073709551616 := by omega
  let sg : Nat → Int := fun k => cell / (3 + 5 * k) % (2 + cell / 50 % 2)
  have hm5 := Int.emod_nonneg (cell / 50) (b := 2) (by decide)
  have hm6 := Int.emod_lt_of_pos (cell / 50) (b := 2) (by decide)
  have sg0 : ∀ k, 0 ≤ sg k ∧ sg k < 3 := fun k => ⟨Int.emod_nonneg _ (by omega), by have := Int.emod_lt_of_pos (cell / (3 + 5 * k)) (b := 2 + cell / 50 % 2) (by omega); show cell / (3 + 5 * k) % (2 + cell / 50 % 2) < 3; omega⟩
  let S1 : Store := S ++ [.lst ((List.range many).map fun k => .int (sg k))]
  have hlc1 := lcL_map (chk := fun _ => True) (g := gName 7) (t := tYes) (e := (e2 modD (e2 fdivD (eVar 3) (e2 addD (eC (.int 3)) (e2 mulD (eC (.int 5)) (eVar 7)))) (e2 addD (eC (.int 2)) (e2 modD (e2 fdivD (eVar 3) (eC (.int 50))) (eC (.int 2)))))) (S := S)
    (ρ := [some (.fl (ns.map .int)), some (.int st), some (.int most), some (.int cell), some (.int many), none, none, none, none, none, none]) (fun d => match d with | .int k => .int (cell / (3 + 5 * k) % (2 + cell / 50 % 2)) | _ => .non) ((List.range many).map fun (k : Nat) => .int k) [] (by rw [LINE_eq]; simp; omega) (fun _ => trivial) (fun x hx acc => by
      obtain ⟨k, hk, rfl⟩ := List.mem_map.mp hx
      have hk := List.mem_range.mp hk
      refine ⟨_, rfl, rfl, ?_⟩
      have p1 : (0 : Int) < 3 + 5 * (k : Int) := by omega
      have p2 : (0 : Int) < 2 + cell / 50 % 2 := by omega
      have p3 : (3 + 5 * (k : Int)).natAbs.log2 < 9000 := lg_lt (by omega)
      simp [small_iff (5 : Int), p1, p2, p3])
  let rows : List D := (List.range many).map fun k => .int (sg k)
  let N0 : List (Option D) := [some (.fl (ns.map .int)), some (.int st), some (.int most), some (.int cell), some (.int many), some (.ref S.length), some (.ref (S.length + 1))]
  let I : Nat → Env → Store → Prop := fun k ρ S' => ∃ (fs : List Q) (G : Store) (o7 o8 o9 o10 : Option D), ρ = N0 ++ [o7, o8, o9, o10] ∧ S' = S ++ (.lst rows :: .lst (fs.map Q.d) :: G) ∧ fs.length = k ∧ (∀ (i : Nat) (q : Q), fs[i]? = some q → (q.s : Int) = sg i ∧ q.e < many ∧ q.o < many ∧ sg q.e = sg i)
  have key := forL_range (g := gName 7) (b := lb_law_machine_1 R_law_cell) (n := many) I ?step (N0 ++ [none, none, none, none]) (S ++ [.lst rows, .lst []]) ⟨[], [], none, none, none, none, rfl, rfl, rfl, fun i q h => by simp at h⟩
  case step =>
    rintro k hk ρ S' ⟨fs, G, o7, o8, o9, o10, rfl, rfl, hfl, hfs⟩
    refine ⟨_, _, rfl, ?_⟩
    let S2 : Store := S ++ (.lst rows :: .lst (fs.map Q.d) :: G)
    have g1 : ∀ T, (S ++ (MO.lst rows :: MO.lst (fs.map Q.d) :: G ++ T))[S.length]? = some (.lst rows) := fun T => by simp
    have g2 : ∀ T, (S ++ (MO.lst rows :: MO.lst (fs.map Q.d) :: G ++ T))[S.length + 1]? = some (.lst (fs.map Q.d)) := fun T => by simp
    obtain ⟨near, hn, n0, n1⟩ := s_law_cell hl (k := st + 1 + (k : Int) / 3) (by omega) (by omega) S2
    have row : ∀ j : Nat, j < many → atI rows (j : Int) = some (.int (sg j)) := fun j hj => atI_nat (by simp [rows, hj])
    let same : List Nat := (List.range many).filter fun j => decide (sg j = sg k)
    have hksame : k ∈ same := List.mem_filter.mpr ⟨List.mem_range.mpr hk, by simp⟩
    have hsl : 0 < same.length := List.length_pos_of_mem hksame
    have hsl2 : same.length ≤ many := by have := List.length_filter_le (fun j => decide (sg j = sg k)) (List.range many); simpa using this
    have hlc := lcL_filter (chk := fun _ => True) (g := gName 10) (t := tVal (e2 eqD (e2 ixD (eVar 5) (eVar 10)) (e2 ixD (eVar 5) (eVar 7)))) (e := eVar 10) (S := S2) (ρ := N0 ++ [some (.int k), some (.int (near / (1 + 17 * ((k : Int) % 3)))), o9, none])
      (fun d => match d with | .int j => decide (sg j.toNat = sg k) | _ => false) id ((List.range many).map fun (j : Nat) => .int j) [] (by rw [LINE_eq]; simp; omega) (fun _ => trivial) (fun x hx acc => by
        obtain ⟨j, hj, rfl⟩ := List.mem_map.mp hx
        have hj := List.mem_range.mp hj
        refine ⟨_, rfl, ?_, fun _ => rfl⟩
        have := g1 [.lst acc]
        simp at this
        simp [N0, S2, this, row j hj, row k hk])
    have esame : (((List.range many).map fun (j : Nat) => D.int j).filter fun d => match d with | .int j => decide (sg j.toNat = sg k) | _ => false) = same.map fun (j : Nat) => D.int j := by
      simp [same, List.filter_map, Function.comp_def]
    rw [esame] at hlc
    let nr : Int := near / (1 + 17 * ((k : Int) % 3))
    have v0 := Int.emod_nonneg nr (b := (same.length : Int)) (by omega)
    have v1 := Int.emod_lt_of_pos nr (b := (same.length : Int)) (by omega)
    obtain ⟨x, hx1, hx2⟩ := atI_mem (xs := same.map fun (j : Nat) => D.int j) v0 (by simpa using v1)
    obtain ⟨e, he, rfl⟩ := List.mem_map.mp hx2
    obtain ⟨he1, he2⟩ := List.mem_filter.mp he
    have he1 := List.mem_range.mp he1
    have he2 : sg e = sg k := by simpa using he2
    have w0 := Int.emod_nonneg (nr / 23) (b := (many : Int)) (by omega)
    have w1 := Int.emod_lt_of_pos (nr / 23) (b := (many : Int)) (by omega)
    let q : Q := ⟨(sg k).toNat, e, (nr / 23 % many).toNat⟩
    have hqs : (q.s : Int) = sg k := Int.toNat_of_nonneg (sg0 k).1
    have hqo : (q.o : Int) = nr / 23 % many := Int.toNat_of_nonneg w0
    have hqd : Q.d q = .tup [.int (sg k), .int e, .int (nr / 23 % many)] := by unfold Q.d; rw [hqs, hqo]
    have t1 : (0 : Int) < 1 + 17 * ((k : Int) % 3) := by omega
    have t2 : (1 + 17 * ((k : Int) % 3)).natAbs.log2 < 9000 := lg_lt (by omega)
    have g1' := g1 [.lst (same.map fun (j : Nat) => D.int j)]
    have g2' := g2 [.lst (same.map fun (j : Nat) => D.int j)]
    simp at g1' g2'
    refine ⟨N0 ++ [some (.int k), some (.int nr), some (.ref S2.length), o10], S ++ (.lst rows :: .lst ((fs ++ [q]).map Q.d) :: (G ++ [.lst (same.map fun (j : Nat) => D.int j)])), .inl ?_, fs ++ [q], _, _, _, _, _, rfl, rfl, by simp [hfl], fun i p hp => ?_⟩
    · have hn' : R_law_cell [.fl (ns.map .int), .int (st + 1 + (k : Int) / 3)] (S ++ MO.lst rows :: MO.lst (fs.map Q.d) :: G) = some (.ok (.int near) (S ++ MO.lst rows :: MO.lst (fs.map Q.d) :: G)) := hn
      have hlc' := hlc
      simp [N0, S2, nr] at hlc'
      have g3 : (S ++ MO.lst rows :: MO.lst (fs.map Q.d) :: (G ++ [MO.lst (same.map fun (j : Nat) => D.int j)]))[S.length + (G.length + 1 + 1)]? = some (.lst (same.map fun (j : Nat) => D.int j)) := by simp
      have hfl2 : fs.length < LINE := by rw [LINE_eq]; omega
      simp [lb_law_machine_1, N0, S2, hn', t1, t2, wipe, show many ≤ 1000000000 by omega, hlc', g1', g2', row k hk, g3, hx1, hsl, show 0 < many by omega, nr, hfl2, hqd]
    · by_cases hi : i < fs.length
      · rw [List.getElem?_append_left hi] at hp
        exact hfs i p hp
      · have hi' : i = fs.length := by
          have := (List.getElem?_eq_some_iff.mp hp).1
          simp at this; omega
        subst hi'
        simp at hp
        subst hp
        rw [hfl]
        exact ⟨hqs, he1, by show (nr / 23 % many).toNat < many; omega, he2⟩
  obtain ⟨ρ', S', hfor, fs, G, o7, o8, o9, o10, rfl, rfl, hfl, hfs⟩ := key
  have all : ∀ q ∈ fs, ∃ i, fs[i]? = some q := fun q hq => List.getElem?_of_mem hq
  refine ⟨fs, .lst rows :: .lst (fs.map Q.d) :: G, ?_, ⟨by omega, fun q hq => ?_, fun q hq => ?_, fun q hq p hp => ?_, fun q hq => ?_⟩, by omega, fun q hq => ?_⟩
  · unfold R_law_machine
    rw [run_eq (n := 3) _ _ rfl]
    unfold b_law_machine
    have erow : (List.range many).map ((fun d => match d with | D.int k => D.int (cell / (3 + 5 * k) % (2 + cell / 50 % 2)) | _ => .non) ∘ fun (k : Nat) => D.int k) = rows := by simp [rows, sg, Function.comp_def]
    rw [List.map_map, erow, List.nil_append] at hlc1
    have hfor' := hfor
    simp [N0] at hfor'
    simp [hcell, h2, hmany, wipe, show many ≤ 1000000000 by omega, hlc1, hfor']
  · obtain ⟨i, hi⟩ := all q hq; rw [hfl]; exact (hfs i q hi).2.1
  · obtain ⟨i, hi⟩ := all q hq; rw [hfl]; exact (hfs i q hi).2.2.1
  · obtain ⟨i, hi⟩ := all q hq
    have a := (hfs i q hi)
    have b := (hfs q.e p hp).1
    have c := a.2.2.2
    have d := a.1
    omega
  · obtain ⟨i, hi⟩ := all q hq
    have a := (hfs i q hi).1
    have b := sg0 i
    omega
  · obtain ⟨i, hi⟩ := all q hq
    have a := (hfs i q hi).1
    have b := sg0 i
    omega

/-! ### signs by halves -/
def stq (m : List Q) (s : Nat) : Q := m.getD s ⟨0, 0, 0⟩
def go (m : List Q) (s n : Nat) : Nat := if h : n = 0 then s else go m (if n % 2 = 0 then (stq m s).e else (stq m s).o) (n / 2)
termination_by n
decreasing_by omega
def sgn (m : List Q) (s n : Nat) : Nat := (stq m (go m s n)).s
theorem go0 (m : List Q) (s : Nat) : go m s 0 = s := by rw [go]; simp
theorem go1 (m : List Q) (s : Nat) {n : Nat} (h : n ≠ 0) : go m s n = go m (if n % 2 = 0 then (stq m s).e else (stq m s).o) (n / 2) := by
  conv => lhs; rw [go]
  rw [dif_neg h]
theorem Mach.at {m : List Q} {s : Nat} (h : s < m.length) : m[s]? = some (stq m s) := by simp [stq, h]
theorem Mach.mem {m : List Q} {s : Nat} (h : s < m.length) : stq m s ∈ m := List.mem_of_getElem? (Mach.at h)
theorem Mach.nxt {m : List Q} (M : Mach m) {s : Nat} (h : s < m.length) (n : Nat) : (if n % 2 = 0 then (stq m s).e else (stq m s).o) < m.length := by
  split
  · exact M.he _ (Mach.mem h)
  · exact M.ho _ (Mach.mem h)
theorem at_state {m : List Q} {s : Nat} (h : s < m.length) : atI (m.map Q.d) (s : Int) = some (stq m s).d := atI_nat (by simp [Mach.at h])
theorem ix_state {m : List Q} {s : Nat} (h : s < m.length) (S : Store) : ixD (machD m) (.int (s : Int)) S = some (.ok (stq m s).d S) := by
  have : atI (m.map Q.d) (s : Int) = some (stq m s).d := atI_nat (by simp [Mach.at h])
  simp [this]
theorem ix_sign (q : Q) (S : Store) : ixD q.d (.int 0) S = some (.ok (.int q.s) S) := by simp [Q.d, atI, ixN]
theorem ix_half (q : Q) (n : Nat) (S : Store) : ixD q.d (.int (1 + (n : Int) % 2)) S = some (.ok (.int ((if n % 2 = 0 then q.e else q.o : Nat) : Int)) S) := by
  rcases Nat.mod_two_eq_zero_or_one n with h | h
  · have e : (1 + (n : Int) % 2) = ((1 : Nat) : Int) := by omega
    rw [e]; simp [Q.d, h, atI, ixN]
  · have e : (1 + (n : Int) % 2) = ((2 : Nat) : Int) := by omega
    rw [e]; simp [Q.d, h, atI, ixN]
theorem s_sign_at {m : List Q} (M : Mach m) (n : Nat) (S : Store) : R_sign_at [machD m, .int n] S = some (.ok (.int (sgn m 0 n)) S) := by
  have loop : ∀ (n s : Nat), s < m.length → sWh (tVal (e2 gtD (eVar 1) (eC (.int 0)))) lb_sign_at_1 [some (machD m), some (.int n), some (.int s)] S = some (.nx [some (machD m), some (.int 0), some (.int (go m s n))] S) ∧ go m s n < m.length := by
    intro n
    induction n using Nat.strongRecOn with
    | ind n ih =>
      intro s hs
      by_cases h0 : n = 0
      · subst h0
        rw [go0]
        exact ⟨sWh_stop (by simp), hs⟩
      · obtain ⟨h1, h2⟩ := ih (n / 2) (by omega) _ (M.nxt hs n)
        rw [← go1 m s h0] at h1 h2
        refine ⟨?_, h2⟩
        rw [sWh_go (S1 := S) (ρ2 := [some (machD m), some (.int ((n / 2 : Nat) : Int)), some (.int ((if n % 2 = 0 then (stq m s).e else (stq m s).o : Nat) : Int))]) (S2 := S) (by simp; omega) (by
          have a := ix_state hs S
          have b := ix_half (stq m s) n S
          simp only [lb_sign_at_1, x_sq, x_asg, x_2, x_var, x_c, List.getElem?_cons_zero, List.getElem?_cons_succ, bd_ok, a, o_mod, o_add, if_true, show (0:Int) < 2 by decide, b]
          simp)]
        exact h1
  obtain ⟨h1, h2⟩ := loop n 0 M.pos
  unfold R_sign_at
  rw [run_eq (n := 2) _ _ rfl]
  unfold b_sign_at
  have a := ix_state h2 S
  simp at h1 a
  simp [h1, a, ix_sign, sgn]
end Z
namespace Z
/-! ### how often a sign stands -/
/-- among the first n places of the row from state s on -/
def cnt (m : List Q) (x s : Nat) : Nat → Nat
  | 0 => 0
  | n + 1 => cnt m x s n + if sgn m s n = x then 1 else 0
theorem sgn_even {m : List Q} (M : Mach m) {s : Nat} (h : s < m.length) (k : Nat) : sgn m s (2 * k) = sgn m (stq m s).e k := by
  by_cases h0 : k = 0
  · subst h0
    simp [sgn, go0]
    exact (M.hs _ (Mach.mem h) _ (Mach.at (M.he _ (Mach.mem h)))).symm
  · unfold sgn
    rw [go1 m s (by omega), if_pos (by omega), show 2 * k / 2 = k by omega]
theorem sgn_odd {m : List Q} {s : Nat} (k : Nat) : sgn m s (2 * k + 1) = sgn m (stq m s).o k := by
  unfold sgn
  rw [go1 m s (by omega), if_neg (by omega), show (2 * k + 1) / 2 = k by omega]
theorem cnt_even {m : List Q} (M : Mach m) {x s : Nat} (h : s < m.length) : ∀ q, cnt m x s (2 * q) = cnt m x (stq m s).e q + cnt m x (stq m s).o q
  | 0 => rfl
  | q + 1 => by
    rw [show 2 * (q + 1) = 2 * q + 1 + 1 by omega, cnt, cnt, cnt_even M h q, sgn_even M h, sgn_odd, cnt, cnt]
    omega
theorem cnt_odd {m : List Q} (M : Mach m) {x s : Nat} (h : s < m.length) (q : Nat) : cnt m x s (2 * q + 1) = cnt m x (stq m s).e (q + 1) + cnt m x (stq m s).o q := by
  rw [cnt, cnt_even M h q, sgn_even M h, cnt]
  omega
theorem cnt_le (m : List Q) (x s : Nat) : ∀ n, cnt m x s n ≤ n
  | 0 => Nat.le_refl _
  | n + 1 => by have := cnt_le m x s n; rw [cnt]; split <;> omega
theorem cnt_mono (m : List Q) (x s : Nat) {a : Nat} : ∀ {b : Nat}, a ≤ b → cnt m x s a ≤ cnt m x s b
  | 0, h => by rw [Nat.le_zero.mp h]; exact Nat.le_refl _
  | b + 1, h => by
    by_cases e : a = b + 1
    · rw [e]; exact Nat.le_refl _
    · have := cnt_mono m x s (show a ≤ b by omega); rw [cnt]; omega
def pr (m : List Q) (x n s : Nat) : D := .tup [.int (cnt m x s n), .int (cnt m x s (n + 1))]
def prs (m : List Q) (x n : Nat) : List D := (List.range m.length).map (pr m x n)
theorem idx_loop {m : List Q} {f : Q → D} {g : Nat → D} (h : ∀ s, s < m.length → f (stq m s) = g s) : m.map f = (List.range m.length).map g := by
  apply List.ext_getElem?
  intro i
  by_cases hi : i < m.length
  · rw [List.getElem?_map, List.getElem?_map, List.getElem?_range hi, Mach.at hi]
    simp [h i hi]
  · rw [List.getElem?_eq_none (by simpa using hi), List.getElem?_eq_none (by simpa using hi)]
theorem s_counted {m : List Q} (M : Mach m) (hm : m.length ≤ 1000) (x : Nat) : ∀ (d n : Nat) (S : Store), n < 2 ^ d → ∃ (l : Nat) (G : Store), R_counted (d + 1) [machD m, .int x, .int n] S = some (.ok (.ref l) (S ++ G)) ∧ (S ++ G)[l]? = some (.lst (prs m x n)) := by
  have hml : m.length ≤ LINE := by rw [LINE_eq]; omega
  intro d
  have zero : ∀ (d : Nat) (S : Store), ∃ (l : Nat) (G : Store), R_counted (d + 1) [machD m, .int x, .int 0] S = some (.ok (.ref l) (S ++ G)) ∧ (S ++ G)[l]? = some (.lst (prs m x 0)) := by
    intro d S
    have hlc := lcL_map (chk := fun _ => True) (g := gTup [gName 5, gName 6, gName 7]) (t := tYes) (e := eTup [eC (.int 0), eCall intF [e2 eqD (eVar 5) (eVar 1)]]) (S := S) (ρ := [some (machD m), some (.int x), some (.int 0), none, none, none, none, none]) (fun d => match d with | .tup (.int s :: _) => .tup [.int 0, .int (if s = x then 1 else 0)] | _ => .non) (m.map Q.d) [] (by simpa using hml) (fun _ => trivial) (fun y hy acc => by
      obtain ⟨q, hq, rfl⟩ := List.mem_map.mp hy
      refine ⟨_, rfl, rfl, ?_⟩
      simp [Q.d])
    rw [List.nil_append, List.map_map] at hlc
    have e : (m.map ((fun d => match d with | D.tup (.int s :: _) => D.tup [.int 0, .int (if s = (x : Int) then 1 else 0)] | _ => .non) ∘ Q.d)) = prs m x 0 := by
      refine idx_loop fun s hs => ?_
      simp [Q.d, pr, cnt, sgn, go0]
      by_cases h : (stq m s).s = x
      · simp [h]
      · have : ¬ ((stq m s).s : Int) = x := by omega
        simp [h, this]
    rw [e] at hlc
    refine ⟨S.length, [.lst (prs m x 0)], ?_, by simp⟩
    unfold R_counted
    rw [run_eq (n := 3) _ _ rfl]
    unfold b_counted
    simp [wipe, hlc]
  induction d with
  | zero =>
    intro n S hn
    have : n = 0 := by simpa using hn
    subst this
    exact zero 0 S
  | succ d ih =>
    intro n S hn
    by_cases h0 : n = 0
    · subst h0; exact zero (d + 1) S
    obtain ⟨l, G, e, hl⟩ := ih (n / 2) S (by rw [Nat.pow_succ] at hn; omega)
    let A := S ++ G
    have at2 : ∀ s, s < m.length → atI (prs m x (n / 2)) (s : Int) = some (pr m x (n / 2) s) := fun s hs => atI_nat (by simp [prs, hs])
    have key := forL_idx (chk := fun _ => True) (g := gTup [gName 5, gName 6, gName 7]) (b := lb_counted_1) (fun k ρ S' => ∃ o5 o6 o7, ρ = [some (machD m), some (.int x), some (.int n), some (.ref l), some (.ref A.length), o5, o6, o7] ∧ S' = A ++ [.lst ((prs m x n).take k)]) (fun _ _ _ _ => trivial) (m.map Q.d) 0 (by
      rintro i y hy ρ S' ⟨o5, o6, o7, rfl, rfl⟩
      rw [List.getElem?_map] at hy
      obtain ⟨q, hq, rfl⟩ := Option.map_eq_some_iff.mp hy
      have hi : i < m.length := (List.getElem?_eq_some_iff.mp hq).1
      have hqe : q = stq m i := by rw [Mach.at hi] at hq; cases hq; rfl
      subst hqe
      have he := M.he _ (Mach.mem hi)
      have ho := M.ho _ (Mach.mem hi)
      have g1 := get_app hl [.lst ((prs m x n).take i)]
      have g2 : (A ++ [MO.lst ((prs m x n).take i)])[A.length]? = some (.lst ((prs m x n).take i)) := by simp
      have a1 := at2 _ he
      have a2 := at2 _ ho
      have htk : (prs m x n).take (0 + i + 1) = (prs m x n).take i ++ [pr m x n i] := by
        rw [Nat.zero_add, List.take_add_one]
        have : (prs m x n)[i]? = some (pr m x n i) := by simp [prs, hi]
        rw [this]; rfl
      have hlen : min i (prs m x n).length < LINE := by rw [LINE_eq]; omega
      have b1 : ∀ a b : D, atI [a, b] 1 = some b := fun a b => by simp [atI, ixN]
      refine ⟨_, _, rfl, [some (machD m), some (.int x), some (.int n), some (.ref l), some (.ref A.length), some (.int (stq m i).s), some (.int (stq m i).e), some (.int (stq m i).o)], A ++ [.lst ((prs m x n).take (0 + i + 1))], .inl ?_, _, _, _, rfl, rfl⟩
      rw [htk]
      rw [Nat.zero_add]
      simp only [pr] at a1 a2
      rcases Nat.mod_two_eq_zero_or_one n with h | h
      · have hz : (n : Int) % 2 = 0 := by omega
        have e1 : (cnt m x i n : Int) = cnt m x (stq m i).e (n / 2) + cnt m x (stq m i).o (n / 2) := by
          have := cnt_even M (x := x) hi (n / 2); rw [show 2 * (n / 2) = n by omega] at this; omega
        have e3 : (cnt m x i (n + 1) : Int) = cnt m x (stq m i).e (n / 2 + 1) + cnt m x (stq m i).o (n / 2) := by
          have := cnt_odd M (x := x) hi (n / 2); rw [show 2 * (n / 2) = n by omega] at this; omega
        simp only [A] at g1 g2
        simp at g1 g2
        simp [lb_counted_1, A, Q.d, hz, g1, g2, a1, a2, at0, b1, hlen, pr, e1, e3, Nat.add_assoc]
      · have hz : ¬ (n : Int) % 2 = 0 := by omega
        have e1 : (cnt m x i n : Int) = cnt m x (stq m i).e (n / 2 + 1) + cnt m x (stq m i).o (n / 2) := by
          have := cnt_odd M (x := x) hi (n / 2); rw [show 2 * (n / 2) + 1 = n by omega] at this; omega
        have e3 : (cnt m x i (n + 1) : Int) = cnt m x (stq m i).e (n / 2 + 1) + cnt m x (stq m i).o (n / 2 + 1) := by
          have := cnt_even M (x := x) hi (n / 2 + 1); rw [show 2 * (n / 2 + 1) = n + 1 by omega] at this; omega
        simp only [A] at g1 g2
        simp at g1 g2
        simp [lb_counted_1, A, Q.d, hz, g1, g2, a1, a2, at0, b1, hlen, pr, e1, e3, Nat.add_assoc]) [some (machD m), some (.int x), some (.int n), some (.ref l), some (.ref A.length), none, none, none] (A ++ [.lst []]) ⟨_, _, _, rfl, by simp⟩
    obtain ⟨ρ', S', hfor, o5, o6, o7, rfl, rfl⟩ := key
    have hfull : (prs m x n).take (0 + (m.map Q.d).length) = prs m x n := List.take_of_length_le (by simp [prs])
    rw [hfull] at hfor
    refine ⟨A.length, G ++ [.lst (prs m x n)], ?_, by simp [A]⟩
    have e2' : ((n / 2 : Nat) : Int) = (n : Int) / 2 := by omega
    rw [e2'] at e
    have h0' : ¬ (n : Int) = 0 := by omega
    simp only [A] at hfor ⊢
    simp at hfor
    unfold R_counted
    rw [run_eq (n := 3) _ _ rfl]
    unfold b_counted
    simp [h0, h0', e, hfor, A]
theorem s_how_often {m : List Q} (M : Mach m) (hm : m.length ≤ 1000) (x n : Nat) (hn : n < 2 ^ 119) (S : Store) : ∃ G, R_how_often [machD m, .int x, .int n] S = some (.ok (.int (cnt m x 0 n)) (S ++ G)) := by
  obtain ⟨l, G, e, hl⟩ := s_counted M hm x 119 n S hn
  refine ⟨G, ?_⟩
  have a : atI (prs m x n) 0 = some (pr m x n 0) := atI_nat (k := 0) (by simp [prs, M.pos])
  unfold R_how_often
  rw [run_eq (n := 3) _ _ rfl]
  unfold b_how_often
  simp [e, hl, a, pr, at0]
theorem s_law_sign {m : List Q} (M : Mach m) (n : Nat) (S : Store) : R_law_sign [machD m, .int n] S = some (.ok (.int (sgn m 0 n)) S) := by
  have loop : ∀ (n s : Nat), s < m.length → sWh (tVal (e2 gtD (eVar 1) (eC (.int 0)))) lb_law_sign_1 [some (machD m), some (.int n), some (.int s)] S = some (.nx [some (machD m), some (.int 0), some (.int (go m s n))] S) ∧ go m s n < m.length := by
    intro n
    induction n using Nat.strongRecOn with
    | ind n ih =>
      intro s hs
      by_cases h0 : n = 0
      · subst h0
        rw [go0]
        exact ⟨sWh_stop (by simp), hs⟩
      · obtain ⟨h1, h2⟩ := ih (n / 2) (by omega) _ (M.nxt hs n)
        rw [← go1 m s h0] at h1 h2
        refine ⟨?_, h2⟩
        rw [sWh_go (S1 := S) (ρ2 := [some (machD m), some (.int ((n / 2 : Nat) : Int)), some (.int ((if n % 2 = 0 then (stq m s).e else (stq m s).o : Nat) : Int))]) (S2 := S) (by simp; omega) (by
          have a := ix_state hs S
          have b := ix_half (stq m s) n S
          simp only [lb_law_sign_1, x_sq, x_asg, x_2, x_var, x_c, List.getElem?_cons_zero, List.getElem?_cons_succ, bd_ok, a, o_mod, o_add, if_true, show (0:Int) < 2 by decide, b]
          simp)]
        exact h1
  obtain ⟨h1, h2⟩ := loop n 0 M.pos
  unfold R_law_sign
  rw [run_eq (n := 2) _ _ rfl]
  unfold b_law_sign
  have a := ix_state h2 S
  simp at h1 a
  simp [h1, a, ix_sign, sgn]
end Z
namespace Z
/-! ### pairs of states -/
abbrev PP := Nat × Nat
def kq (p : PP) : List D := [.int p.1, .int p.2]
def pD (p : PP) : D := .tup (kq p)
theorem kEq_q (p q : PP) : kEqL (kq p) (kq q) = decide (p = q) := by
  obtain ⟨a, b⟩ := p
  obtain ⟨c, d⟩ := q
  rw [Bool.eq_iff_iff]
  simp [kq, kEqL, kEq0]
  omega
/-- a dict's entries -/
def enq {α : Type} (f : α → D) (l : List (PP × α)) : List (List D × D) := l.map fun e => (kq e.1, f e.2)
def lk {α : Type} (l : List (PP × α)) (p : PP) : Option α := (l.find? fun e => decide (e.1 = p)).map (·.2)
def ud {α : Type} (l : List (PP × α)) (p : PP) (a : α) : List (PP × α) := if (l.any fun e => decide (e.1 = p)) = true then l.map (fun e => if e.1 = p then (p, a) else e) else l ++ [(p, a)]
theorem lk_nil {α : Type} (p : PP) : lk ([] : List (PP × α)) p = none := rfl
theorem lk_cons {α : Type} (e : PP × α) (l : List (PP × α)) (p : PP) : lk (e :: l) p = if e.1 = p then some e.2 else lk l p := by
  by_cases h : e.1 = p
  · simp [lk, List.find?_cons, h]
  · simp [lk, List.find?_cons, h]
theorem tget_q {α : Type} (f : α → D) (p : PP) : ∀ l : List (PP × α), tget (enq f l) (kq p) = (lk l p).map f
  | [] => rfl
  | e :: l => by
    have ih := tget_q f p l
    rw [lk_cons]
    unfold tget enq at ih ⊢
    rw [List.map_cons, List.find?_cons, kEq_q]
    by_cases h : e.1 = p
    · simp [h]
    · simp only [h, decide_false, if_false]; exact ih
theorem tput_q {α : Type} (f : α → D) (p : PP) (a : α) (l : List (PP × α)) : tput (enq f l) (kq p) (f a) = enq f (ud l p a) := by
  have e : ((enq f l).any fun x => kEqL x.1 (kq p)) = l.any fun e => decide (e.1 = p) := by
    unfold enq
    rw [List.any_map]
    congr 1
    funext e
    exact kEq_q e.1 p
  unfold tput ud
  rw [e]
  split
  · unfold enq
    rw [List.map_map, List.map_map]
    refine List.map_congr_left fun e he => ?_
    simp only [Function.comp_def, kEq_q]
    by_cases h : e.1 = p
    · simp [h]
    · simp [h]
  · simp [enq]
theorem lk_any {α : Type} (p : PP) : ∀ l : List (PP × α), (l.any fun e => decide (e.1 = p)) = (lk l p).isSome
  | [] => rfl
  | e :: l => by
    rw [List.any_cons, lk_any p l, lk_cons]
    by_cases h : e.1 = p
    · simp [h]
    · simp [h]
theorem lk_app {α : Type} (p q : PP) (a : α) : ∀ l : List (PP × α), lk (l ++ [(q, a)]) p = if (lk l p).isSome = true then lk l p else if q = p then some a else none
  | [] => by simp [lk_cons, lk_nil]
  | e :: l => by
    rw [List.cons_append, lk_cons, lk_cons, lk_app p q a l]
    by_cases h : e.1 = p
    · simp [h]
    · simp [h]
theorem lk_map {α : Type} (p q : PP) (a : α) : ∀ l : List (PP × α), lk (l.map fun e => if e.1 = q then (q, a) else e) p = if p = q then (lk l p).map fun _ => a else lk l p
  | [] => by simp [lk_nil]
  | e :: l => by
    rw [List.map_cons, lk_cons, lk_map p q a l, lk_cons]
    by_cases h : e.1 = q
    · by_cases g : q = p
      · subst g; simp [h]
      · have g' : ¬ p = q := fun x => g x.symm
        have g2 : ¬ e.1 = p := fun x => g (h.symm.trans x)
        simp [h, g, g', g2]
    · by_cases g : e.1 = p
      · have g' : ¬ p = q := fun x => h (g.trans x)
        simp [h, g, g']
      · simp [h, g]
theorem lk_ud {α : Type} (l : List (PP × α)) (p q : PP) (a : α) : lk (ud l q a) p = if p = q then some a else lk l p := by
  unfold ud
  rw [lk_any]
  by_cases h : (lk l q).isSome = true
  · rw [if_pos h, lk_map]
    by_cases g : p = q
    · subst g
      obtain ⟨x, hx⟩ := Option.isSome_iff_exists.mp h
      simp [hx]
    · simp [g]
  · rw [if_neg h, lk_app]
    by_cases g : p = q
    · subst g; simp [h]
    · have g' : ¬ q = p := fun x => g x.symm
      simp only [g, g', if_false]
      cases hh : lk l p <;> simp
theorem ud_len {α : Type} (l : List (PP × α)) (q : PP) (a : α) : (ud l q a).length ≤ l.length + 1 := by
  unfold ud; split <;> simp
theorem kq_all (p : PP) : (kq p).all k0 = true := rfl
theorem kq_int (p : PP) : (kq p).all i0 = true := rfl
/-- a dict whose values go by the key -/
theorem lk_fn {α : Type} (g : PP → α) (p : PP) : ∀ l : List PP, lk (l.map fun q => (q, g q)) p = if p ∈ l then some (g p) else none
  | [] => rfl
  | q :: l => by
    rw [List.map_cons, lk_cons, lk_fn g p l]
    by_cases h : q = p
    · subst h; simp
    · have h' : ¬ p = q := fun x => h x.symm
      simp [h, h']
theorem ud_new {α : Type} (l : List (PP × α)) (p : PP) (a : α) (h : lk l p = none) : ud l p a = l ++ [(p, a)] := by
  unfold ud
  rw [lk_any, h]
  simp
/-! ### all pairs met -/
section
variable (m1 m2 : List Q)
def nx1 (p : PP) : PP := ((stq m1 p.1).e, (stq m2 p.2).e)
def nx2 (p : PP) : PP := ((stq m1 p.1).o, (stq m2 p.2).o)
inductive Rch : PP → Prop where
  | base : Rch (0, 0)
  | one {p : PP} : Rch p → Rch (nx1 m1 m2 p)
  | two {p : PP} : Rch p → Rch (nx2 m1 m2 p)
def addP (row : List PP) (p : PP) : List PP := if p ∈ row then row else row ++ [p]
structure RowI (row : List PP) (k : Nat) : Prop where
  nd : row.Nodup
  bd : ∀ p ∈ row, p.1 < m1.length ∧ p.2 < m2.length
  zero : (0, 0) ∈ row
  cl : ∀ (i : Nat) (q : PP), i < k → row[i]? = some q → nx1 m1 m2 q ∈ row ∧ nx2 m1 m2 q ∈ row
  rch : ∀ p ∈ row, Rch m1 m2 p
end
theorem mem_add {row : List PP} {p q : PP} : q ∈ addP row p ↔ q ∈ row ∨ q = p := by
  unfold addP
  by_cases h : p ∈ row
  · rw [if_pos h]; exact ⟨.inl, fun x => x.elim id fun e => e ▸ h⟩
  · rw [if_neg h]; simp
theorem add_nd {row : List PP} {p : PP} (h : row.Nodup) : (addP row p).Nodup := by
  unfold addP
  by_cases c : p ∈ row
  · rw [if_pos c]; exact h
  · rw [if_neg c]; exact List.nodup_append.mpr ⟨h, by simp, fun a ha b hb => by simp at hb; subst hb; rintro rfl; exact c ha⟩
theorem add_get {row : List PP} {p q : PP} {i : Nat} (h : row[i]? = some q) : (addP row p)[i]? = some q := by
  unfold addP
  split
  · exact h
  · rw [List.getElem?_append_left (List.getElem?_eq_some_iff.mp h).1]; exact h
theorem add_get' {row : List PP} {p q : PP} {i : Nat} (hi : i < row.length) (h : (addP row p)[i]? = some q) : row[i]? = some q := by
  unfold addP at h
  split at h
  · exact h
  · rw [List.getElem?_append_left hi] at h; exact h
theorem add_len {row : List PP} {p : PP} : row.length ≤ (addP row p).length := by
  unfold addP; split <;> simp
section
variable {m1 m2 : List Q} (M1 : Mach m1) (M2 : Mach m2)
include M1 M2
theorem RowI.start : RowI m1 m2 [(0, 0)] 0 := ⟨by simp, fun p hp => by simp at hp; subst hp; exact ⟨M1.pos, M2.pos⟩, by simp, fun i q h => by omega, fun p hp => by simp at hp; subst hp; exact .base⟩
theorem nx1_bd {p : PP} (h : p.1 < m1.length ∧ p.2 < m2.length) : (nx1 m1 m2 p).1 < m1.length ∧ (nx1 m1 m2 p).2 < m2.length := ⟨M1.he _ (Mach.mem h.1), M2.he _ (Mach.mem h.2)⟩
theorem nx2_bd {p : PP} (h : p.1 < m1.length ∧ p.2 < m2.length) : (nx2 m1 m2 p).1 < m1.length ∧ (nx2 m1 m2 p).2 < m2.length := ⟨M1.ho _ (Mach.mem h.1), M2.ho _ (Mach.mem h.2)⟩
theorem RowI.step {row : List PP} {k : Nat} {q : PP} (R : RowI m1 m2 row k) (hq : row[k]? = some q) : RowI m1 m2 (addP (addP row (nx1 m1 m2 q)) (nx2 m1 m2 q)) (k + 1) := by
  have hqm := List.mem_of_getElem? hq
  refine ⟨add_nd (add_nd R.nd), fun p hp => ?_, mem_add.mpr (.inl (mem_add.mpr (.inl R.zero))), fun i p hi hp => ?_, fun p hp => ?_⟩
  · rcases mem_add.mp hp with hp | rfl
    · rcases mem_add.mp hp with hp | rfl
      · exact R.bd p hp
      · exact nx1_bd M1 M2 (R.bd q hqm)
    · exact nx2_bd M1 M2 (R.bd q hqm)
  · have hk := (List.getElem?_eq_some_iff.mp hq).1
    have hl := add_len (row := row) (p := nx1 m1 m2 q)
    have hp := add_get' (by omega) (add_get' (by omega) hp)
    by_cases c : i = k
    · subst c
      rw [hq] at hp
      cases hp
      exact ⟨mem_add.mpr (.inl (mem_add.mpr (.inr rfl))), mem_add.mpr (.inr rfl)⟩
    · obtain ⟨a, b⟩ := R.cl i p (by omega) hp
      exact ⟨mem_add.mpr (.inl (mem_add.mpr (.inl a))), mem_add.mpr (.inl (mem_add.mpr (.inl b)))⟩
  · rcases mem_add.mp hp with hp | rfl
    · rcases mem_add.mp hp with hp | rfl
      · exact R.rch p hp
      · exact .one (R.rch q hqm)
    · exact .two (R.rch q hqm)
end
theorem nodup_leP : ∀ (P L : List PP), P.Nodup → (∀ q ∈ P, q ∈ L) → P.length ≤ L.length
  | [], L, _, _ => Nat.zero_le _
  | q :: P, L, h, hs => by
    obtain ⟨h1, h2⟩ := List.nodup_cons.mp h
    have hq := hs q (by simp)
    have := nodup_leP P (L.erase q) h2 fun y hy => by
      have hy' := hs y (List.mem_cons_of_mem _ hy)
      exact (List.mem_erase_of_ne (by rintro rfl; exact h1 hy)).mpr hy'
    rw [List.length_erase_of_mem hq] at this
    have := List.length_pos_of_mem hq
    simp; omega
def grid (a b : Nat) : List PP := (List.range a).flatMap fun x => (List.range b).map fun y => (x, y)
theorem grid_len (a b : Nat) : (grid a b).length = a * b := by
  induction a with
  | zero => simp [grid]
  | succ a ih =>
    unfold grid at ih ⊢
    rw [List.range_succ, List.flatMap_append, List.length_append, ih]
    simp [Nat.succ_mul]
theorem grid_mem {a b : Nat} {p : PP} (h : p.1 < a ∧ p.2 < b) : p ∈ grid a b := by
  unfold grid
  rw [List.mem_flatMap]
  exact ⟨p.1, List.mem_range.mpr h.1, List.mem_map.mpr ⟨p.2, List.mem_range.mpr h.2, rfl⟩⟩
theorem RowI.len {m1 m2 : List Q} {row : List PP} {k : Nat} (R : RowI m1 m2 row k) : row.length ≤ m1.length * m2.length := by
  rw [← grid_len]
  exact nodup_leP row _ R.nd fun q hq => grid_mem (R.bd q hq)
/-- the row of all pairs met -/
abbrev Met (m1 m2 : List Q) (row : List PP) : Prop := RowI m1 m2 row row.length
theorem Met.closed {m1 m2 : List Q} {row : List PP} (R : Met m1 m2 row) {p : PP} (h : p ∈ row) : nx1 m1 m2 p ∈ row ∧ nx2 m1 m2 p ∈ row := by
  obtain ⟨i, hi⟩ := List.getElem?_of_mem h
  exact R.cl i p (List.getElem?_eq_some_iff.mp hi).1 hi
theorem Met.all {m1 m2 : List Q} {row : List PP} (R : Met m1 m2 row) {p : PP} (h : Rch m1 m2 p) : p ∈ row := by
  induction h with
  | base => exact R.zero
  | one _ ih => exact (R.closed ih).1
  | two _ ih => exact (R.closed ih).2
end Z
namespace Z
theorem gtx {S T : Store} {j : Nat} : (S ++ T)[S.length + j]? = T[j]? := by rw [List.getElem?_append_right (by omega)]; congr 1; omega
theorem gtx0 {S T : Store} : (S ++ T)[S.length]? = T[0]? := by rw [List.getElem?_append_right (by omega)]; congr 1; omega
theorem kvL_p (p : PP) : kvL (pD p) = some (kq p) := rfl
theorem stAt_st {S : Store} {n : Nat} {kvs : List (List D × D)} (h : S[n]? = some (.st kvs)) : stAt S (.ref n) = some kvs := by rw [o_stAt, h]
theorem stAt_dct {S : Store} {n : Nat} {kvs : List (List D × D)} (h : S[n]? = some (.dct kvs)) : stAt S (.ref n) = some kvs := by rw [o_stAt, h]
theorem q_e (q : Q) (S : Store) : ixD q.d (.int 1) S = some (.ok (.int q.e) S) := by simp [Q.d, atI, ixN]
theorem q_o (q : Q) (S : Store) : ixD q.d (.int 2) S = some (.ok (.int q.o) S) := by simp [Q.d, atI, ixN]
theorem q_s (q : Q) (S : Store) : ixD q.d (.int 0) S = some (.ok (.int q.s) S) := by simp [Q.d, atI, ixN]
theorem p_0 (p : PP) (S : Store) : ixD (pD p) (.int 0) S = some (.ok (.int p.1) S) := by simp [pD, kq, atI, ixN]
theorem p_1 (p : PP) (S : Store) : ixD (pD p) (.int 1) S = some (.ok (.int p.2) S) := by simp [pD, kq, atI, ixN]
/-- a store that only grew -/
theorem grown {S S' : Store} (hl : S.length ≤ S'.length) (h : ∀ i, i < S.length → S'[i]? = S[i]?) : ∃ G, S' = S ++ G := by
  refine ⟨S'.drop S.length, ?_⟩
  apply List.ext_getElem?
  intro i
  by_cases hi : i < S.length
  · rw [List.getElem?_append_left hi, h i hi]
  · rw [List.getElem?_append_right (by omega), List.getElem?_drop]
    congr 1; omega
def kvU (row : List PP) : List (List D × D) := enq (fun _ : Unit => .bl true) (row.map fun q => (q, ()))
theorem kvU_get (row : List PP) (p : PP) : tget (kvU row) (kq p) = if p ∈ row then some (.bl true) else none := by
  unfold kvU
  rw [tget_q, lk_fn (fun _ => ())]
  by_cases h : p ∈ row <;> simp [h]
theorem kvU_put {row : List PP} {p : PP} (h : ¬ p ∈ row) : tput (kvU row) (kq p) (.bl true) = kvU (row ++ [p]) := by
  unfold kvU
  have := tput_q (fun _ : Unit => D.bl true) p () (row.map fun q => (q, ()))
  rw [this, ud_new _ _ _ (by rw [lk_fn (fun _ => ()), if_neg h])]
  simp
theorem kvU_len (row : List PP) : (kvU row).length = row.length := by simp [kvU, enq]
theorem pm_add {d r : Nat} {row : List PP} {p : PP} {S : Store} (hd : S[d]? = some (.st (kvU row))) (hr : S[r]? = some (.lst (row.map pD))) (hdr : d ≠ r) (hl : row.length < 1000000) {a b c e f : Option D} :
    ∃ S2, lb_pairs_met_1 [a, b, some (.ref d), some (.ref r), c, e, f, some (pD p)] S = some (.nx [a, b, some (.ref d), some (.ref r), c, e, f, some (pD p)] S2) ∧ S2[d]? = some (.st (kvU (addP row p))) ∧ S2[r]? = some (.lst ((addP row p).map pD)) ∧ (∀ i, i ≠ d → i ≠ r → S2[i]? = S[i]?) ∧ S2.length = S.length := by
  have h1 := stAt_st hd
  have h2 := kvU_get row p
  by_cases h : p ∈ row
  · refine ⟨S, ?_, by rw [addP, if_pos h]; exact hd, by rw [addP, if_pos h]; exact hr, fun _ _ _ => rfl, rfl⟩
    rw [if_pos h] at h2
    simp [lb_pairs_met_1, -o_stAt, -o_kvL, h1, kvL_p, h2]
  · rw [if_neg h] at h2
    have hdl := (List.getElem?_eq_some_iff.mp hd).1
    have hrl := (List.getElem?_eq_some_iff.mp hr).1
    have h3 := kvU_put h
    have hr2 : (S.set d (.st (kvU (row ++ [p]))))[r]? = some (.lst (row.map pD)) := by rw [List.getElem?_set_ne hdr]; exact hr
    refine ⟨(S.set d (.st (kvU (row ++ [p])))).set r (.lst ((row ++ [p]).map pD)), ?_, by rw [addP, if_neg h, List.getElem?_set_ne (Ne.symm hdr), List.getElem?_set_self hdl], by rw [addP, if_neg h, List.getElem?_set_self (by simpa using hrl)], fun i g1 g2 => by rw [List.getElem?_set_ne (Ne.symm g2), List.getElem?_set_ne (Ne.symm g1)], by simp⟩
    have hlen : row.length < LINE := by rw [LINE_eq]; omega
    simp [lb_pairs_met_1, -o_stAt, -o_kvL, -getElem?_pos, List.getElem?_cons_zero, List.getElem?_cons_succ, h1, kvL_p, h2, hd, h3, kvU_len, hl, hr2, hlen]
section
variable {m1 m2 : List Q} (M1 : Mach m1) (M2 : Mach m2)
include M1 M2
theorem pm_body {d r at' : Nat} {row : List PP} {q : PP} {S : Store} (R : RowI m1 m2 row at') (hq : row[at']? = some q) (hd : S[d]? = some (.st (kvU row))) (hr : S[r]? = some (.lst (row.map pD))) (hdr : d ≠ r) (hl : row.length + 1 < 1000000) {e f g : Option D} :
    ∃ S2 e2 f2 g2, lb_pairs_met_2 [some (machD m1), some (machD m2), some (.ref d), some (.ref r), some (.int at'), e, f, g] S = some (.nx [some (machD m1), some (machD m2), some (.ref d), some (.ref r), some (.int (at' + 1 : Nat)), e2, f2, g2] S2) ∧
      S2[d]? = some (.st (kvU (addP (addP row (nx1 m1 m2 q)) (nx2 m1 m2 q)))) ∧ S2[r]? = some (.lst ((addP (addP row (nx1 m1 m2 q)) (nx2 m1 m2 q)).map pD)) ∧ S.length ≤ S2.length ∧ (∀ i, i < S.length → i ≠ d → i ≠ r → S2[i]? = S[i]?) := by
  have hqm := R.bd q (List.mem_of_getElem? hq)
  have a1 := at_state hqm.1
  have a2 := at_state hqm.2
  have hat : atI (row.map pD) (at' : Int) = some (pD q) := atI_nat (by simp [hq])
  have hdl := (List.getElem?_eq_some_iff.mp hd).1
  have hrl := (List.getElem?_eq_some_iff.mp hr).1
  let A : Store := S ++ [.lst [pD (nx1 m1 m2 q), pD (nx2 m1 m2 q)]]
  let ρ : Option D → Env := fun x => [some (machD m1), some (machD m2), some (.ref d), some (.ref r), some (.int at'), some (stq m1 q.1).d, some (stq m2 q.2).d, x]
  obtain ⟨S1, x1, d1, r1, o1, l1⟩ := pm_add (p := nx1 m1 m2 q) (a := some (machD m1)) (b := some (machD m2)) (c := some (.int at')) (e := some (stq m1 q.1).d) (f := some (stq m2 q.2).d) (get_app hd [.lst [pD (nx1 m1 m2 q), pD (nx2 m1 m2 q)]]) (get_app hr _) hdr (by omega)
  have hl1 : (addP row (nx1 m1 m2 q)).length ≤ row.length + 1 := by unfold addP; split <;> simp
  obtain ⟨S2, x2, d2, r2, o2, l2⟩ := pm_add (p := nx2 m1 m2 q) (a := some (machD m1)) (b := some (machD m2)) (c := some (.int at')) (e := some (stq m1 q.1).d) (f := some (stq m2 q.2).d) d1 r1 hdr (by omega)
  have hA : ∀ S' : Store, (∀ i, i ≠ d → i ≠ r → S'[i]? = A[i]?) → S'[S.length]? = some (.lst [pD (nx1 m1 m2 q), pD (nx2 m1 m2 q)]) := fun S' h => by rw [h _ (by omega) (by omega)]; simp [A]
  have hfor : forL (fun S' => S'[S.length]? = some (.lst [pD (nx1 m1 m2 q), pD (nx2 m1 m2 q)])) (gName 7) lb_pairs_met_1 [pD (nx1 m1 m2 q), pD (nx2 m1 m2 q)] (ρ g) A = some (.nx (ρ (some (pD (nx2 m1 m2 q)))) S2) := by
    rw [forL_cons (ρ1 := ρ (some (pD (nx1 m1 m2 q)))) (S1 := A) (hA A fun _ _ _ => rfl) rfl x1]
    rw [forL_cons (ρ1 := ρ (some (pD (nx2 m1 m2 q)))) (S1 := S1) (hA S1 o1) rfl x2]
    exact forL_nil (hA S2 fun i g1 g2 => by rw [o2 i g1 g2]; exact o1 i g1 g2)
  refine ⟨S2, some (stq m1 q.1).d, some (stq m2 q.2).d, some (pD (nx2 m1 m2 q)), ?_, d2, r2, by rw [l2, l1]; simp, fun i g0 g1 g2 => by rw [o2 i g1 g2, o1 i g1 g2]; exact List.getElem?_append_left g0⟩
  have eA : (D.tup [.int (stq m1 q.1).e, .int (stq m2 q.2).e]) = pD (nx1 m1 m2 q) := rfl
  have eB : (D.tup [.int (stq m1 q.1).o, .int (stq m2 q.2).o]) = pD (nx2 m1 m2 q) := rfl
  simp only [ρ, A] at hfor
  simp [lb_pairs_met_2, -getElem?_pos, List.getElem?_cons_zero, List.getElem?_cons_succ, hr, hat, p_0, p_1, a1, a2, q_e, q_o, eA, eB, gtx0, hfor]
theorem s_pairs_met (h1 : m1.length ≤ 900) (h2 : m2.length ≤ 900) (S : Store) :
    ∃ (r : Nat) (G : Store) (row : List PP), R_pairs_met [machD m1, machD m2] S = some (.ok (.ref r) (S ++ G)) ∧ (S ++ G)[r]? = some (.lst (row.map pD)) ∧ Met m1 m2 row := by
  have hb : m1.length * m2.length ≤ 810000 := Nat.mul_le_mul h1 h2
  have loop : ∀ (n at' : Nat) (row : List PP) (S' : Store) (e f g : Option D), m1.length * m2.length - at' ≤ n → RowI m1 m2 row at' → at' ≤ row.length → S'[S.length]? = some (.st (kvU row)) → S'[S.length + 1]? = some (.lst (row.map pD)) → S.length ≤ S'.length → (∀ i, i < S.length → S'[i]? = S[i]?) →
      ∃ S2 y5 y6 y7 row2, sWh (tVal (e2 ltD (eVar 4) (eCall lenF [eVar 3]))) lb_pairs_met_2 [some (machD m1), some (machD m2), some (.ref S.length), some (.ref (S.length + 1)), some (.int at'), e, f, g] S' = some (.nx [some (machD m1), some (machD m2), some (.ref S.length), some (.ref (S.length + 1)), some (.int row2.length), y5, y6, y7] S2) ∧
        S2[S.length + 1]? = some (.lst (row2.map pD)) ∧ Met m1 m2 row2 ∧ S.length ≤ S2.length ∧ (∀ i, i < S.length → S2[i]? = S[i]?) := by
    intro n
    induction n with
    | zero =>
      intro at' row S' e f g hn R hat hd hr hl ho
      have hlen := R.len
      have : at' = row.length := by omega
      subst this
      refine ⟨S', e, f, g, row, sWh_stop ?_, hr, R, hl, ho⟩
      simp [hr, -getElem?_pos, List.getElem?_cons_zero, List.getElem?_cons_succ]
    | succ n ih =>
      intro at' row S' e f g hn R hat hd hr hl ho
      have hlen := R.len
      by_cases c : at' = row.length
      · subst c
        refine ⟨S', e, f, g, row, sWh_stop ?_, hr, R, hl, ho⟩
        simp [hr, -getElem?_pos, List.getElem?_cons_zero, List.getElem?_cons_succ]
      · have hlt : at' < row.length := by omega
        have hq : row[at']? = some row[at'] := by simp [hlt]
        obtain ⟨S2, y5, y6, y7, x, d2, r2, l2, o2⟩ := pm_body M1 M2 R hq hd hr (by omega) (by omega) (e := e) (f := f) (g := g)
        have R2 := R.step M1 M2 hq
        have hl2 := add_len (row := row) (p := nx1 m1 m2 row[at'])
        have hl3 := add_len (row := addP row (nx1 m1 m2 row[at'])) (p := nx2 m1 m2 row[at'])
        obtain ⟨S3, e3, f3, g3, row3, y, r3, R3, l3, o3⟩ := ih (at' + 1) _ S2 y5 y6 y7 (by omega) R2 (by omega) d2 r2 (by omega) (fun i hi => by rw [o2 i (by omega) (by omega) (by omega)]; exact ho i hi)
        refine ⟨S3, e3, f3, g3, row3, ?_, r3, R3, l3, o3⟩
        rw [← y]
        refine sWh_go (S1 := S') ?_ x
        simp [hr, -getElem?_pos, List.getElem?_cons_zero, List.getElem?_cons_succ]
        omega
  let A : Store := S ++ [.st (kvU [(0, 0)]), .lst [pD (0, 0)]]
  obtain ⟨S2, y5, y6, y7, row, x, r2, R2, l2, o2⟩ := loop _ 0 [(0, 0)] A none none none (Nat.le_refl _) (RowI.start M1 M2) (by simp) (by simp [A]) (by simp [A]) (by simp [A]) (fun i hi => List.getElem?_append_left hi)
  obtain ⟨G, rfl⟩ := grown l2 o2
  refine ⟨S.length + 1, G, row, ?_, r2, R2⟩
  unfold R_pairs_met
  rw [run_eq (n := 2) _ _ rfl]
  unfold b_pairs_met
  have e0 : [(kq (0, 0), D.bl true)] = kvU [(0, 0)] := rfl
  have e1 : D.tup [D.int 0, D.int 0] = pD (0, 0) := rfl
  simp [A] at x
  simp [-getElem?_pos, List.getElem?_cons_zero, List.getElem?_cons_succ, gtx, gtx0, -o_kvL, kvL_p, e0, e1, x, Nat.add_assoc]
end
end Z
namespace Z
/-! ### least places, in plain -/
abbrev PF := PP → Option Nat
def setF' (F : PF) (s : PP) (n : Nat) : PF := fun q => if q = s then some n else F q
def mis (F : PF) (row : List PP) : Nat := (row.filter fun q => (F q).isNone).length
def sm (F : PF) : List PP → Nat
  | [] => 0
  | q :: r => (F q).getD 0 + sm F r
def Ltm (row : List PP) (F' F : PF) : Prop := mis F' row < mis F row ∨ (mis F' row = mis F row ∧ sm F' row < sm F row)
theorem Ltm.trans {row : List PP} {F'' F' F : PF} (a : Ltm row F'' F') (b : Ltm row F' F) : Ltm row F'' F := by
  unfold Ltm at *; omega
theorem mis_le (F : PF) (s : PP) (n : Nat) : ∀ row : List PP, mis (setF' F s n) row ≤ mis F row
  | [] => Nat.le_refl _
  | q :: r => by
    have ih := mis_le F s n r
    unfold mis at ih ⊢
    rw [List.filter_cons, List.filter_cons]
    by_cases h : q = s
    · have : (setF' F s n q).isNone = false := by simp [setF', h]
      rw [this]
      by_cases g : (F q).isNone = true
      · simp [g]; omega
      · simp [g]; omega
    · have : setF' F s n q = F q := by simp [setF', h]
      rw [this]
      by_cases g : (F q).isNone = true
      · simp [g]; omega
      · simp [g]; omega
theorem mis_lt (F : PF) (s : PP) (n : Nat) (h0 : F s = none) : ∀ row : List PP, s ∈ row → mis (setF' F s n) row < mis F row
  | q :: r, hs => by
    have ih := mis_le F s n r
    unfold mis at ih ⊢
    rw [List.filter_cons, List.filter_cons]
    by_cases h : q = s
    · subst h
      simp [setF', h0]
      have e : (fun q' => (setF' F q n q').isNone) = fun q' => (if q' = q then some n else F q').isNone := rfl
      rw [e] at ih
      omega
    · have hs' : s ∈ r := by rcases List.mem_cons.mp hs with e | e; exact absurd e.symm h; exact e
      have ih2 := mis_lt F s n h0 r hs'
      unfold mis at ih2
      have : setF' F s n q = F q := by simp [setF', h]
      rw [this]
      by_cases g : (F q).isNone = true
      · simp [g]; omega
      · simp [g]; omega
theorem mis_eq (F : PF) (s : PP) (n u : Nat) (h0 : F s = some u) (row : List PP) : mis (setF' F s n) row = mis F row := by
  unfold mis
  congr 1
  apply List.filter_congr
  intro q _
  by_cases h : q = s
  · subst h; simp [setF', h0]
  · simp [setF', h]
theorem sm_le (F : PF) (s : PP) (n u : Nat) (h0 : F s = some u) (hn : n < u) : ∀ row : List PP, sm (setF' F s n) row ≤ sm F row
  | [] => Nat.le_refl _
  | q :: r => by
    have ih := sm_le F s n u h0 hn r
    unfold sm
    by_cases h : q = s
    · subst h; simp [setF', h0] at ih ⊢; omega
    · have : setF' F s n q = F q := by simp [setF', h]
      rw [this]; omega
theorem sm_lt (F : PF) (s : PP) (n u : Nat) (h0 : F s = some u) (hn : n < u) : ∀ row : List PP, s ∈ row → sm (setF' F s n) row < sm F row
  | q :: r, hs => by
    have ih := sm_le F s n u h0 hn r
    unfold sm
    by_cases h : q = s
    · subst h
      have : (setF' F q n q).getD 0 = n := by simp [setF']
      rw [this, h0]
      show n + _ < u + _
      omega
    · have hs' : s ∈ r := by rcases List.mem_cons.mp hs with e | e; exact absurd e.symm h; exact e
      have ih2 := sm_lt F s n u h0 hn r hs'
      have : setF' F s n q = F q := by simp [setF', h]
      rw [this]; omega
theorem ltm_set {F : PF} {s : PP} {n : Nat} {row : List PP} (hs : s ∈ row) (h : ∀ u, F s = some u → n < u) : Ltm row (setF' F s n) F := by
  cases e : F s with
  | none => exact .inl (mis_lt F s n e row hs)
  | some u => exact .inr ⟨mis_eq F s n u e row, sm_lt F s n u e (h u e) row hs⟩
section
variable (m1 m2 : List Q)
def Diff (p : PP) (n : Nat) : Prop := sgn m1 p.1 n ≠ sgn m2 p.2 n
/-- what stands: differing places, the marked pairs at 0 -/
structure PlI (row : List PP) (F : PF) : Prop where
  val : ∀ p n, F p = some n → p ∈ row ∧ Diff m1 m2 p n
  mrk : ∀ p, p ∈ row → Diff m1 m2 p 0 → F p = some 0
/-- nothing is to be done at s -/
def Fx (F : PF) (s : PP) : Prop := (∀ v, F (nx1 m1 m2 s) = some v → ∃ u, F s = some u ∧ u ≤ 2 * v) ∧ (∀ v, F (nx2 m1 m2 s) = some v → ∃ u, F s = some u ∧ u ≤ 2 * v + 1)
end
section
variable {m1 m2 : List Q} (M1 : Mach m1) (M2 : Mach m2)
include M1 M2
theorem diff_1 {p : PP} (h : p.1 < m1.length ∧ p.2 < m2.length) (k : Nat) : Diff m1 m2 p (2 * k) ↔ Diff m1 m2 (nx1 m1 m2 p) k := by
  unfold Diff
  rw [sgn_even M1 h.1, sgn_even M2 h.2]
  exact Iff.rfl
theorem diff_2 {p : PP} (h : p.1 < m1.length ∧ p.2 < m2.length) (k : Nat) : Diff m1 m2 p (2 * k + 1) ↔ Diff m1 m2 (nx2 m1 m2 p) k := by
  unfold Diff
  rw [sgn_odd, sgn_odd]
  exact Iff.rfl
theorem PlI.set {row : List PP} {F : PF} {s : PP} {n : Nat} (P : PlI m1 m2 row F) (hs : s ∈ row) (hd : Diff m1 m2 s n) (h : ∀ u, F s = some u → n < u) : PlI m1 m2 row (setF' F s n) := by
  refine ⟨fun p k hp => ?_, fun p hp h0 => ?_⟩
  · unfold setF' at hp
    split at hp
    · rename_i e; subst e; cases hp; exact ⟨hs, hd⟩
    · exact P.val p k hp
  · unfold setF'
    split
    · rename_i e
      subst e
      have := h 0 (P.mrk p hp h0)
      omega
    · exact P.mrk p hp h0
/-- the least place -/
theorem least_of {row : List PP} {F : PF} (R : Met m1 m2 row) (P : PlI m1 m2 row F) (X : ∀ s ∈ row, Fx m1 m2 F s) : ∀ (n : Nat) (p : PP), p ∈ row → Diff m1 m2 p n → ∃ u, F p = some u ∧ u ≤ n := by
  intro n
  induction n using Nat.strongRecOn with
  | ind n ih =>
    intro p hp hd
    by_cases h0 : n = 0
    · subst h0; exact ⟨0, P.mrk p hp hd, Nat.le_refl _⟩
    · obtain ⟨c1, c2⟩ := R.closed hp
      rcases Nat.mod_two_eq_zero_or_one n with c | c
      · have e : n = 2 * (n / 2) := by omega
        rw [e, diff_1 M1 M2 (R.bd p hp)] at hd
        obtain ⟨v, h1, h2⟩ := ih (n / 2) (by omega) _ c1 hd
        obtain ⟨u, h3, h4⟩ := (X p hp).1 v h1
        exact ⟨u, h3, by omega⟩
      · have e : n = 2 * (n / 2) + 1 := by omega
        rw [e, diff_2 M1 M2 (R.bd p hp)] at hd
        obtain ⟨v, h1, h2⟩ := ih (n / 2) (by omega) _ c2 hd
        obtain ⟨u, h3, h4⟩ := (X p hp).2 v h1
        exact ⟨u, h3, by omega⟩
/-- what parts is seen from the start -/
theorem seen_of {row : List PP} {F : PF} (R : Met m1 m2 row) (X : ∀ s ∈ row, Fx m1 m2 F s) {p : PP} (h : Rch m1 m2 p) : F p ≠ none → F (0, 0) ≠ none := by
  induction h with
  | base => exact id
  | @one q hq ih =>
    intro hp
    obtain ⟨v, hv⟩ := Option.ne_none_iff_exists'.mp hp
    obtain ⟨u, hu, _⟩ := (X q (R.all hq)).1 v hv
    exact ih (by rw [hu]; simp)
  | @two q hq ih =>
    intro hp
    obtain ⟨v, hv⟩ := Option.ne_none_iff_exists'.mp hp
    obtain ⟨u, hu, _⟩ := (X q (R.all hq)).2 v hv
    exact ih (by rw [hu]; simp)
end
/-! ### the dict of places -/
def enN (l : List (PP × Nat)) : List (List D × D) := enq (fun n : Nat => .int n) l
structure PlD (row : List PP) (l : List (PP × Nat)) : Prop where
  nd : (l.map (·.1)).Nodup
  sub : ∀ q ∈ l.map (·.1), q ∈ row
theorem ud_keys {α : Type} (l : List (PP × α)) (q : PP) (a : α) : (ud l q a).map (·.1) = if (lk l q).isSome = true then l.map (·.1) else l.map (·.1) ++ [q] := by
  unfold ud
  rw [lk_any]
  split
  · rw [List.map_map]
    refine List.map_congr_left fun e _ => ?_
    simp only [Function.comp_def]
    split
    · rename_i h; exact h.symm
    · rfl
  · simp
theorem lk_mem {α : Type} {p : PP} : ∀ {l : List (PP × α)}, (lk l p).isSome = true ↔ p ∈ l.map (·.1)
  | [] => by simp [lk_nil]
  | e :: l => by
    rw [lk_cons, List.map_cons, List.mem_cons, ← lk_mem]
    by_cases h : e.1 = p
    · simp [h]
    · have : ¬ p = e.1 := fun x => h x.symm
      simp [h, this]
theorem PlD.ud {row : List PP} {l : List (PP × Nat)} (P : PlD row l) {q : PP} (hq : q ∈ row) (n : Nat) : PlD row (ud l q n) := by
  refine ⟨?_, fun p hp => ?_⟩
  · rw [ud_keys]
    split
    · exact P.nd
    · rename_i h
      exact List.nodup_append.mpr ⟨P.nd, by simp, fun a ha b hb => by simp at hb; subst hb; rintro rfl; exact h (lk_mem.mpr ha)⟩
  · rw [ud_keys] at hp
    split at hp
    · exact P.sub p hp
    · rcases List.mem_append.mp hp with hp | hp
      · exact P.sub p hp
      · simp at hp; subst hp; exact hq
theorem PlD.len {row : List PP} {l : List (PP × Nat)} (P : PlD row l) : l.length ≤ row.length := by
  have := nodup_leP _ _ P.nd P.sub
  simpa using this
theorem enN_get (l : List (PP × Nat)) (p : PP) : tget (enN l) (kq p) = (lk l p).map fun n : Nat => .int n := tget_q _ p l
theorem enN_put (l : List (PP × Nat)) (p : PP) (n : Nat) : tput (enN l) (kq p) (.int n) = enN (ud l p n) := tput_q (fun n : Nat => .int n) p n l
theorem enN_len (l : List (PP × Nat)) : (enN l).length = l.length := by simp [enN, enq]
theorem lk_udF (l : List (PP × Nat)) (s : PP) (n : Nat) : lk (ud l s n) = setF' (lk l) s n := by
  funext q
  rw [lk_ud]
  rfl
/-! ### one look at a pair and a bit -/
theorem lp_bit {c : Nat} {l : List (PP × Nat)} {s t : PP} {b : Nat} {ch : Bool} {S : Store} (hc : S[c]? = some (.st (enN l))) (hl : l.length < 1000000) {x0 x1 x5 x6 x9 : Option D} :
    ∃ S2 l2 ch2 y9, lb_least_places_1 [x0, x1, some (.ref c), some (.bl ch), some (pD s), x5, x6, some (pD t), some (.int b), x9] S = some (.nx [x0, x1, some (.ref c), some (.bl ch2), some (pD s), x5, x6, some (pD t), some (.int b), y9] S2) ∧ S2 = S.set c (.st (enN l2)) ∧
      ((l2 = l ∧ ch2 = ch ∧ (∀ v, lk l t = some v → ∃ u, lk l s = some u ∧ u ≤ 2 * v + b)) ∨ (∃ v, lk l t = some v ∧ l2 = ud l s (2 * v + b) ∧ ch2 = true ∧ ∀ u, lk l s = some u → 2 * v + b < u)) := by
  have h1 := stAt_st hc
  have hcl := (List.getElem?_eq_some_iff.mp hc).1
  have g1 := enN_get l t
  have g2 := enN_get l s
  have hself : S.set c (.st (enN l)) = S := set_self hc
  cases et : lk l t with
  | none =>
    rw [et] at g1
    simp at g1
    refine ⟨S, l, ch, x9, ?_, hself.symm, .inl ⟨rfl, rfl, fun v h => by simp at h⟩⟩
    simp [lb_least_places_1, -o_stAt, -o_kvL, h1, kvL_p, g1]
  | some v =>
    rw [et] at g1
    simp at g1
    have hn : (2 * (v : Int) + b) = ((2 * v + b : Nat) : Int) := by omega
    have h2s : small (2 : Int) := small_lit (by decide) (by decide)
    have hlen := enN_len l
    have hp := enN_put l s (2 * v + b)
    cases es : lk l s with
    | none =>
      rw [es] at g2
      simp at g2
      refine ⟨S.set c (.st (enN (ud l s (2 * v + b)))), _, true, some (.int (2 * v + b : Nat)), ?_, rfl, .inr ⟨v, rfl, rfl, rfl, fun u h => by simp at h⟩⟩
      rw [← hn] at hp
      simp [lb_least_places_1, -o_stAt, -o_kvL, h1, kvL_p, g1, g2, h2s, hc, hlen, hl, hp, -getElem?_pos, List.getElem?_cons_zero, List.getElem?_cons_succ]
    | some u =>
      rw [es] at g2
      simp at g2
      by_cases hlt : 2 * v + b < u
      · have hlt' : 2 * (v : Int) + b < u := by omega
        refine ⟨S.set c (.st (enN (ud l s (2 * v + b)))), _, true, some (.int (2 * v + b : Nat)), ?_, rfl, .inr ⟨v, rfl, rfl, rfl, fun u' h => by cases h; exact hlt⟩⟩
        rw [← hn] at hp
        simp [lb_least_places_1, -o_stAt, -o_kvL, h1, kvL_p, g1, g2, h2s, hc, hlen, hl, hp, hlt', -getElem?_pos, List.getElem?_cons_zero, List.getElem?_cons_succ]
      · have hlt' : ¬ 2 * (v : Int) + b < u := by omega
        refine ⟨S, l, ch, some (.int (2 * v + b : Nat)), ?_, hself.symm, .inl ⟨rfl, rfl, fun v' h => by cases h; exact ⟨u, rfl, by omega⟩⟩⟩
        simp [lb_least_places_1, -o_stAt, -o_kvL, h1, kvL_p, g1, g2, h2s, hc, hlen, hl, hlt', -getElem?_pos, List.getElem?_cons_zero, List.getElem?_cons_succ]
end Z
namespace Z
/-! ### rounds of least_places -/
section
variable (m1 m2 : List Q)
def nxV (q : PP) : D := .tup [pD (nx1 m1 m2 q), pD (nx2 m1 m2 q)]
def nxD (row : List PP) : List (List D × D) := enq (nxV m1 m2) (row.map fun q => (q, q))
end
theorem nxD_get {m1 m2 : List Q} {row : List PP} {s : PP} (h : s ∈ row) : tget (nxD m1 m2 row) (kq s) = some (nxV m1 m2 s) := by
  unfold nxD
  rw [tget_q, lk_fn (fun q => q), if_pos h]
  rfl
theorem nxD_keys (m1 m2 : List Q) (row : List PP) : ((nxD m1 m2 row).map fun p => D.tup p.1) = row.map pD := by
  simp [nxD, enq, pD, Function.comp_def]
theorem nxD_int (m1 m2 : List Q) (row : List PP) : ((nxD m1 m2 row).all fun p => p.1.all i0) = true := by
  simp [nxD, enq, kq, i0]
theorem nxD_len (m1 m2 : List Q) (row : List PP) : (nxD m1 m2 row).length = row.length := by simp [nxD, enq]
section
variable {m1 m2 : List Q} (M1 : Mach m1) (M2 : Mach m2)
include M1 M2
theorem lp_state {a c : Nat} {row : List PP} {l : List (PP × Nat)} {s : PP} {ch : Bool} {S : Store} (R : Met m1 m2 row) (hrow : row.length < 900000) (ha : S[a]? = some (.dct (nxD m1 m2 row))) (hc : S[c]? = some (.st (enN l))) (hac : a ≠ c) (P : PlI m1 m2 row (lk l)) (K : PlD row l) (hs : s ∈ row) {x1 x5 x6 x7 x8 x9 : Option D} :
    ∃ S2 l2 ch2 y5 y6 y7 y8 y9, lb_least_places_2 [some (.ref a), x1, some (.ref c), some (.bl ch), some (pD s), x5, x6, x7, x8, x9] S = some (.nx [some (.ref a), x1, some (.ref c), some (.bl ch2), some (pD s), y5, y6, y7, y8, y9] S2) ∧ S2[c]? = some (.st (enN l2)) ∧
      S.length ≤ S2.length ∧ (∀ i, i < S.length → i ≠ c → S2[i]? = S[i]?) ∧ PlI m1 m2 row (lk l2) ∧ PlD row l2 ∧ ((ch2 = ch ∧ l2 = l ∧ Fx m1 m2 (lk l) s) ∨ (ch2 = true ∧ Ltm row (lk l2) (lk l))) := by
  let t1 := nx1 m1 m2 s
  let t2 := nx2 m1 m2 s
  let L : List D := [.tup [pD t1, .int (0 : Nat)], .tup [pD t2, .int (1 : Nat)]]
  let A : Store := S ++ [.lst L]
  have hsb := R.bd s hs
  have hcl := (List.getElem?_eq_some_iff.mp hc).1
  have hA : A[c]? = some (.st (enN l)) := get_app hc _
  obtain ⟨S1, l1, ch1, y9, e1, eS1, c1⟩ := lp_bit (s := s) (t := t1) (b := 0) (ch := ch) hA (by have := K.len; omega) (x0 := some (.ref a)) (x1 := x1) (x5 := some (pD t1)) (x6 := some (pD t2)) (x9 := x9)
  have P1 : PlI m1 m2 row (lk l1) ∧ PlD row l1 := by
    rcases c1 with ⟨rfl, _, _⟩ | ⟨v, hv, rfl, _, hu⟩
    · exact ⟨P, K⟩
    · refine ⟨?_, K.ud hs _⟩
      rw [lk_udF]
      exact P.set M1 M2 hs ((diff_1 M1 M2 hsb v).mpr (P.val _ _ hv).2) hu
  have hlA : A.length = S.length + 1 := by simp [A]
  have hS1 : S1[c]? = some (.st (enN l1)) := by rw [eS1, List.getElem?_set_self (by omega)]
  obtain ⟨S2, l2, ch2, z9, e2', eS2, c2⟩ := lp_bit (s := s) (t := t2) (b := 1) (ch := ch1) hS1 (by have := P1.2.len; omega) (x0 := some (.ref a)) (x1 := x1) (x5 := some (pD t1)) (x6 := some (pD t2)) (x9 := y9)
  have P2 : PlI m1 m2 row (lk l2) ∧ PlD row l2 := by
    rcases c2 with ⟨rfl, _, _⟩ | ⟨v, hv, rfl, _, hu⟩
    · exact P1
    · refine ⟨?_, P1.2.ud hs _⟩
      rw [lk_udF]
      exact P1.1.set M1 M2 hs ((diff_2 M1 M2 hsb v).mpr (P1.1.val _ _ hv).2) hu
  have g0 : A[S.length]? = some (.lst L) := by simp [A]
  have g1 : S1[S.length]? = some (.lst L) := by rw [eS1, List.getElem?_set_ne (by omega)]; exact g0
  have g2 : S2[S.length]? = some (.lst L) := by rw [eS2, List.getElem?_set_ne (by omega)]; exact g1
  have hfor : forL (fun S' => S'[S.length]? = some (.lst L)) (gTup [gName 7, gName 8]) lb_least_places_1 L [some (.ref a), x1, some (.ref c), some (.bl ch), some (pD s), some (pD t1), some (pD t2), x7, x8, x9] A = some (.nx [some (.ref a), x1, some (.ref c), some (.bl ch2), some (pD s), some (pD t1), some (pD t2), some (pD t2), some (.int (1 : Nat)), z9] S2) := by
    rw [forL_cons (ρ1 := [some (.ref a), x1, some (.ref c), some (.bl ch), some (pD s), some (pD t1), some (pD t2), some (pD t1), some (.int (0 : Nat)), x9]) (S1 := A) g0 (by rfl) e1]
    rw [forL_cons (ρ1 := [some (.ref a), x1, some (.ref c), some (.bl ch1), some (pD s), some (pD t1), some (pD t2), some (pD t2), some (.int (1 : Nat)), y9]) (S1 := S1) g1 (by rfl) e2']
    exact forL_nil g2
  have hl1 : S1.length = A.length := by rw [eS1]; simp
  have hl2 : S2.length = A.length := by rw [eS2]; simp [hl1]
  refine ⟨S2, l2, ch2, some (pD t1), some (pD t2), some (pD t2), some (.int (1 : Nat)), z9, ?_, by rw [eS2, List.getElem?_set_self (by omega)], by omega, fun i hi hne => ?_, P2.1, P2.2, ?_⟩
  · have hnx : stAt S (.ref a) = some (nxD m1 m2 row) := stAt_dct ha
    have hget := nxD_get (m1 := m1) (m2 := m2) hs
    simp only [L, A] at hfor
    simp at hfor
    simp [lb_least_places_2, -o_stAt, -o_kvL, hnx, kvL_p, hget, nxV, -getElem?_pos, List.getElem?_cons_zero, List.getElem?_cons_succ, gtx0]
    exact hfor
  · rw [eS2, List.getElem?_set_ne (Ne.symm hne), eS1, List.getElem?_set_ne (Ne.symm hne)]
    exact List.getElem?_append_left hi
  · rcases c1 with ⟨rfl, rfl, f1⟩ | ⟨v, hv, rfl, rfl, hu⟩
    · rcases c2 with ⟨rfl, rfl, f2⟩ | ⟨v, hv, rfl, rfl, hu⟩
      · exact .inl ⟨rfl, rfl, f1, f2⟩
      · exact .inr ⟨rfl, by rw [lk_udF]; exact ltm_set hs hu⟩
    · refine .inr ?_
      have q1 : Ltm row (lk (ud l s (2 * v + 0))) (lk l) := by rw [lk_udF]; exact ltm_set hs hu
      rcases c2 with ⟨rfl, rfl, f2⟩ | ⟨v', hv', rfl, rfl, hu'⟩
      · exact ⟨rfl, q1⟩
      · refine ⟨rfl, Ltm.trans ?_ q1⟩
        rw [lk_udF (ud l s (2 * v + 0))]
        exact ltm_set hs hu'
/-- one round -/
theorem lp_round {a c : Nat} {row : List PP} {l : List (PP × Nat)} {S : Store} (R : Met m1 m2 row) (hrow : row.length < 900000) (ha : S[a]? = some (.st (nxD m1 m2 row))) (hc : S[c]? = some (.st (enN l))) (hac : a ≠ c) (P : PlI m1 m2 row (lk l)) (K : PlD row l) {x1 x3 x4 x5 x6 x7 x8 x9 : Option D} :
    ∃ S2 l2 ch2 y4 y5 y6 y7 y8 y9, lb_least_places_3 [some (.ref a), x1, some (.ref c), x3, x4, x5, x6, x7, x8, x9] S = some (.nx [some (.ref a), x1, some (.ref c), some (.bl ch2), y4, y5, y6, y7, y8, y9] S2) ∧ S2[c]? = some (.st (enN l2)) ∧
      S.length ≤ S2.length ∧ (∀ i, i < S.length → i ≠ c → S2[i]? = S[i]?) ∧ PlI m1 m2 row (lk l2) ∧ PlD row l2 ∧ ((ch2 = false ∧ l2 = l ∧ ∀ s ∈ row, Fx m1 m2 (lk l) s) ∨ (ch2 = true ∧ Ltm row (lk l2) (lk l))) := by
  have hal := (List.getElem?_eq_some_iff.mp ha).1
  have hcl := (List.getElem?_eq_some_iff.mp hc).1
  let S0 : Store := S.set a (.dct (nxD m1 m2 row))
  have h0l : S0.length = S.length := by simp [S0]
  have ha0 : S0[a]? = some (.dct (nxD m1 m2 row)) := by simp only [S0]; rw [List.getElem?_set_self hal]
  have hc0 : S0[c]? = some (.st (enN l)) := by simp only [S0]; rw [List.getElem?_set_ne hac]; exact hc
  have key := forL_idx (chk := fun S' => S'[a]? = some (.dct (nxD m1 m2 row))) (g := gName 4) (b := lb_least_places_2) (fun i ρ S' => ∃ l2 ch2 y4 y5 y6 y7 y8 y9, ρ = [some (.ref a), x1, some (.ref c), some (.bl ch2), y4, y5, y6, y7, y8, y9] ∧ S'[c]? = some (.st (enN l2)) ∧ S0.length ≤ S'.length ∧ (∀ i, i < S0.length → i ≠ c → S'[i]? = S0[i]?) ∧ PlI m1 m2 row (lk l2) ∧ PlD row l2 ∧ ((ch2 = false ∧ l2 = l ∧ ∀ j q, j < i → row[j]? = some q → Fx m1 m2 (lk l) q) ∨ (ch2 = true ∧ Ltm row (lk l2) (lk l))))
    (fun i ρ S' ⟨l2, ch2, y4, y5, y6, y7, y8, y9, _, _, _, ho, _⟩ => by rw [ho a (by omega) hac]; exact ha0) (row.map pD) 0 (by
      rintro i x hx ρ S' ⟨l2, ch2, y4, y5, y6, y7, y8, y9, rfl, g1, g2, g3, P2, K2, hcase⟩
      rw [List.getElem?_map] at hx
      obtain ⟨s, hs, rfl⟩ := Option.map_eq_some_iff.mp hx
      have hsm := List.mem_of_getElem? hs
      have ha' : S'[a]? = some (.dct (nxD m1 m2 row)) := by rw [g3 a (by omega) hac]; exact ha0
      obtain ⟨S2, l3, ch3, z5, z6, z7, z8, z9, e, q1, q2, q3, P3, K3, hcase3⟩ := lp_state M1 M2 R hrow ha' g1 hac P2 K2 hsm (ch := ch2) (x1 := x1) (x5 := y5) (x6 := y6) (x7 := y7) (x8 := y8) (x9 := y9)
      refine ⟨_, _, rfl, _, S2, .inl e, l3, ch3, _, z5, z6, z7, z8, z9, rfl, q1, by omega, fun j h1 h2 => by rw [q3 j (by omega) h2]; exact g3 j h1 h2, P3, K3, ?_⟩
      rcases hcase3 with ⟨rfl, rfl, f⟩ | ⟨rfl, f⟩
      · rcases hcase with ⟨rfl, rfl, hj⟩ | ⟨rfl, f2⟩
        · refine .inl ⟨rfl, rfl, fun j q hj1 hj2 => ?_⟩
          by_cases hji : j < 0 + i
          · exact hj j q hji hj2
          · have : j = i := by omega
            subst this
            rw [hs] at hj2
            cases hj2
            exact f
        · exact .inr ⟨rfl, f2⟩
      · rcases hcase with ⟨rfl, rfl, hj⟩ | ⟨rfl, f2⟩
        · exact .inr ⟨rfl, f⟩
        · exact .inr ⟨rfl, f.trans f2⟩)
    [some (.ref a), x1, some (.ref c), some (.bl false), x4, x5, x6, x7, x8, x9] S0 ⟨l, false, _, _, _, _, _, _, rfl, hc0, Nat.le_refl _, fun _ _ _ => rfl, P, K, .inl ⟨rfl, rfl, fun j q h => by omega⟩⟩
  obtain ⟨ρ', S', hfor, l2, ch2, y4, y5, y6, y7, y8, y9, rfl, g1, g2, g3, P2, K2, hcase⟩ := key
  have ha' : S'[a]? = some (.dct (nxD m1 m2 row)) := by rw [g3 a (by omega) hac]; exact ha0
  refine ⟨S'.set a (.st (nxD m1 m2 row)), l2, ch2, y4, y5, y6, y7, y8, y9, ?_, by rw [List.getElem?_set_ne hac]; exact g1, by simp; omega, fun i h1 h2 => ?_, P2, K2, ?_⟩
  · unfold lb_least_places_3
    rw [x_sq]
    simp only [x_asg, x_c, bo_ok, gName]
    simp only [S0] at hfor
    simp [sLock, ha, -getElem?_pos, List.getElem?_cons_zero, List.getElem?_cons_succ, hal, nxD_int, nxD_keys, hfor, ha']
  · by_cases hi : i = a
    · subst hi
      rw [List.getElem?_set_self (by omega), ha]
    · rw [List.getElem?_set_ne (fun e => hi e.symm), g3 i (by omega) h2]
      simp only [S0]
      rw [List.getElem?_set_ne (fun e => hi e.symm)]
  · rcases hcase with ⟨rfl, rfl, f⟩ | h
    · refine .inl ⟨rfl, rfl, fun s hs => ?_⟩
      obtain ⟨j, hj⟩ := List.getElem?_of_mem hs
      exact f j s (by simpa using (List.getElem?_eq_some_iff.mp hj).1) hj
    · exact .inr h
end
end Z
namespace Z
theorem ltm_wf (row : List PP) : WellFounded (Ltm row) := by
  refine Subrelation.wf (r := InvImage (Prod.Lex (· < ·) (· < ·)) fun F : PF => (mis F row, sm F row)) ?_ (InvImage.wf _ (Prod.lex Nat.lt_wfRel Nat.lt_wfRel).wf)
  intro F' F h
  rcases h with h | ⟨h1, h2⟩
  · exact Prod.Lex.left _ _ h
  · show Prod.Lex _ _ (mis F' row, sm F' row) (mis F row, sm F row)
    rw [h1]
    exact Prod.Lex.right _ h2
def mkd (m1 m2 : List Q) (row : List PP) : List PP := row.filter fun p => decide ((stq m1 p.1).s ≠ (stq m2 p.2).s)
theorem diff_0 {m1 m2 : List Q} (p : PP) : Diff m1 m2 p 0 ↔ (stq m1 p.1).s ≠ (stq m2 p.2).s := by
  unfold Diff sgn
  rw [go0, go0]
theorem prOf_zero : ∀ l : List PP, prOf (l.map fun q => .tup [pD q, .int 0]) = some (enN (l.map fun q => (q, 0)))
  | [] => rfl
  | q :: l => by
    rw [List.map_cons, prOf, kvL_p, prOf_zero l]
    rfl
theorem fold_zero : ∀ (l : List PP) (done : List (PP × Nat)), l.Nodup → (∀ q ∈ l, lk done q = none) → (enN (l.map fun q => (q, 0))).foldl (fun acc p => tput acc p.1 p.2) (enN done) = enN (done ++ l.map fun q => (q, 0))
  | [], done, _, _ => by simp [enN, enq]
  | q :: l, done, hn, hd => by
    obtain ⟨h1, h2⟩ := List.nodup_cons.mp hn
    have e : tput (enN done) (kq q) (.int (0 : Nat)) = enN (done ++ [(q, 0)]) := by
      rw [enN_put, ud_new _ _ _ (hd q (by simp))]
    have ih := fold_zero l (done ++ [(q, 0)]) h2 fun p hp => by
      have hne : q ≠ p := by rintro rfl; exact h1 hp
      rw [lk_app, hd p (List.mem_cons_of_mem _ hp)]
      simp [hne]
    rw [List.append_assoc] at ih
    rw [List.map_cons, show enN ((q, 0) :: l.map fun q => (q, 0)) = (kq q, D.int (0 : Nat)) :: enN (l.map fun q => (q, 0)) from rfl, List.foldl_cons]
    dsimp only
    rw [e, ih]
    rfl
section
variable {m1 m2 : List Q} (M1 : Mach m1) (M2 : Mach m2)
include M1 M2
theorem lp_while {a c : Nat} {row : List PP} (R : Met m1 m2 row) (hrow : row.length < 900000) (hac : a ≠ c) {x1 : Option D} : ∀ (F : PF) (l : List (PP × Nat)) (S : Store) (x4 x5 x6 x7 x8 x9 : Option D), lk l = F → S[a]? = some (.st (nxD m1 m2 row)) → S[c]? = some (.st (enN l)) → PlI m1 m2 row (lk l) → PlD row l →
    ∃ S2 l2 y4 y5 y6 y7 y8 y9, sWh (tVal (eVar 3)) lb_least_places_3 [some (.ref a), x1, some (.ref c), some (.bl true), x4, x5, x6, x7, x8, x9] S = some (.nx [some (.ref a), x1, some (.ref c), some (.bl false), y4, y5, y6, y7, y8, y9] S2) ∧ S2[c]? = some (.st (enN l2)) ∧
      S.length ≤ S2.length ∧ (∀ i, i < S.length → i ≠ c → S2[i]? = S[i]?) ∧ PlI m1 m2 row (lk l2) ∧ ∀ s ∈ row, Fx m1 m2 (lk l2) s := by
  intro F
  induction F using (ltm_wf row).induction with
  | h F ih =>
    intro l S x4 x5 x6 x7 x8 x9 hF ha hc P K
    obtain ⟨S2, l2, ch2, y4, y5, y6, y7, y8, y9, e, g1, g2, g3, P2, K2, hcase⟩ := lp_round M1 M2 R hrow ha hc hac P K (x1 := x1) (x3 := some (.bl true)) (x4 := x4) (x5 := x5) (x6 := x6) (x7 := x7) (x8 := x8) (x9 := x9)
    have hal := (List.getElem?_eq_some_iff.mp ha).1
    have step := sWh_go (t := tVal (eVar 3)) (b := lb_least_places_3) (ρ := [some (.ref a), x1, some (.ref c), some (.bl true), x4, x5, x6, x7, x8, x9]) (S := S) (S1 := S) (by simp) e
    rw [step]
    rcases hcase with ⟨rfl, rfl, f⟩ | ⟨rfl, f⟩
    · exact ⟨S2, l2, y4, y5, y6, y7, y8, y9, sWh_stop (by simp), g1, g2, g3, P2, f⟩
    · subst hF
      obtain ⟨S3, l3, z4, z5, z6, z7, z8, z9, e3, q1, q2, q3, P3, f3⟩ := ih (lk l2) f l2 S2 y4 y5 y6 y7 y8 y9 rfl (by rw [g3 a hal hac]; exact ha) g1 P2 K2
      exact ⟨S3, l3, z4, z5, z6, z7, z8, z9, e3, q1, by omega, fun i h1 h2 => by rw [q3 i (by omega) h2]; exact g3 i h1 h2, P3, f3⟩
theorem s_least_places {a b : Nat} {row : List PP} {S : Store} (R : Met m1 m2 row) (hrow : row.length < 900000) (ha : S[a]? = some (.st (nxD m1 m2 row))) (hb : S[b]? = some (.lst ((mkd m1 m2 row).map pD))) :
    ∃ c G l, R_least_places [.ref a, .ref b] S = some (.ok (.ref c) (S ++ G)) ∧ (S ++ G)[c]? = some (.st (enN l)) ∧ PlI m1 m2 row (lk l) ∧ ∀ s ∈ row, Fx m1 m2 (lk l) s := by
  let mk := mkd m1 m2 row
  have hmk : ∀ p ∈ mk, p ∈ row ∧ Diff m1 m2 p 0 := fun p hp => by
    obtain ⟨h1, h2⟩ := List.mem_filter.mp hp
    exact ⟨h1, (diff_0 p).mpr (by simpa using h2)⟩
  have hnd : mk.Nodup := R.nd.sublist List.filter_sublist
  have hml : mk.length ≤ row.length := List.length_filter_le _ _
  have hal := (List.getElem?_eq_some_iff.mp ha).1
  have hbl := (List.getElem?_eq_some_iff.mp hb).1
  let xs : List D := mk.map fun q => .tup [pD q, .int 0]
  let A : Store := S ++ [.lst xs]
  let l0 : List (PP × Nat) := mk.map fun q => (q, 0)
  let B : Store := S ++ [.lst xs, .st (enN l0)]
  have hlk : ∀ p, lk l0 p = if p ∈ mk then some 0 else none := fun p => lk_fn (fun _ => 0) p mk
  have hlc := lcL_map (chk := fun S' => S'[b]? = some (.lst (mk.map pD))) (g := gName 4) (t := tYes) (e := eTup [eVar 4, eC (.int 0)]) (S := S) (ρ := [some (.ref a), some (.ref b), none, none, none, none, none, none, none, none]) (fun d => .tup [d, .int 0]) (mk.map pD) [] (by rw [LINE_eq]; simp; omega) (fun acc => get_app hb _) (fun x hx acc => ⟨_, rfl, rfl, by simp⟩)
  have exs : ((mk.map pD).map fun d => D.tup [d, .int 0]) = xs := by simp [xs, Function.comp_def]
  rw [exs, List.nil_append] at hlc
  have P0 : PlI m1 m2 row (lk l0) := by
    refine ⟨fun p n h => ?_, fun p hp hd => ?_⟩
    · rw [hlk] at h
      split at h
      · rename_i hm; cases h; exact hmk p hm
      · cases h
    · have hpm : p ∈ mk := by
        show p ∈ mkd m1 m2 row
        unfold mkd
        exact List.mem_filter.mpr ⟨hp, by simpa using (diff_0 p).mp hd⟩
      rw [hlk, if_pos hpm]
  have K0 : PlD row l0 := by
    have e : l0.map (·.1) = mk := by simp [l0, Function.comp_def]
    exact ⟨by rw [e]; exact hnd, fun q hq => by rw [e] at hq; exact (hmk q hq).1⟩
  obtain ⟨S2, l2, y4, y5, y6, y7, y8, y9, e, g1, g2, g3, P2, f⟩ := lp_while M1 M2 R hrow (a := a) (c := S.length + 1) (by omega) (x1 := some (.ref b)) _ l0 B none none none none none none rfl (get_app ha _) (by simp [B]) P0 K0
  have hBl : B.length = S.length + 2 := by simp [B]
  obtain ⟨G, rfl⟩ := grown (S := S) (S' := S2) (by omega) fun i hi => by rw [g3 i (by omega) (by omega)]; exact List.getElem?_append_left hi
  refine ⟨S.length + 1, G, l2, ?_, g1, P2, f⟩
  unfold R_least_places
  rw [run_eq (n := 2) _ _ rfl]
  unfold b_least_places
  have hpr := prOf_zero mk
  have hfold := fold_zero mk [] hnd fun q _ => rfl
  rw [List.nil_append] at hfold
  have hen : enN ([] : List (PP × Nat)) = [] := rfl
  rw [hen] at hfold
  have hlen : (enN (mk.map fun q => (q, 0))).length < 1000000 := by rw [enN_len]; simp; omega
  have hpr' : prOf xs = some (enN l0) := hpr
  have hfold' : (enN l0).foldl (fun acc p => tput acc p.1 p.2) [] = enN l0 := hfold
  have hlen' : (enN l0).length < 1000000 := hlen
  have hb' : S[b]? = some (.lst (mk.map pD)) := hb
  simp only [B] at e
  clear_value xs l0
  simp [wipe, hb', hlc, -getElem?_pos, List.getElem?_cons_zero, List.getElem?_cons_succ, gtx0, hpr', hfold', hlen', e, Nat.add_assoc]
/-- alike tells the least place at which the rows part, or all pairs met -/
theorem s_alike (h1 : m1.length ≤ 900) (h2 : m2.length ≤ 900) (S : Store) :
    (∃ (G : Store) (n : Nat), R_alike [machD m1, machD m2] S = some (.ok (.tup [.str [117, 110, 108, 105, 107, 101], .int n]) (S ++ G)) ∧ sgn m1 0 n ≠ sgn m2 0 n ∧ ∀ k, k < n → sgn m1 0 k = sgn m2 0 k) ∨
    (∃ (G : Store) (r : Nat) (row : List PP), R_alike [machD m1, machD m2] S = some (.ok (.tup [.str [97, 108, 105, 107, 101], .ref r]) (S ++ G)) ∧ (S ++ G)[r]? = some (.lst (row.map pD)) ∧ Met m1 m2 row ∧ (∀ k, sgn m1 0 k = sgn m2 0 k) ∧ ∀ p ∈ row, (stq m1 p.1).s = (stq m2 p.2).s) := by
  obtain ⟨r, G, row, e1, hr, R⟩ := s_pairs_met M1 M2 h1 h2 S
  have hb : m1.length * m2.length ≤ 810000 := Nat.mul_le_mul h1 h2
  have hrow : row.length < 900000 := by have := R.len; omega
  obtain ⟨S1, hS1⟩ : ∃ S1, S1 = S ++ G := ⟨_, rfl⟩
  rw [← hS1] at e1 hr
  have hrl : r < S1.length := (List.getElem?_eq_some_iff.mp hr).1
  let a : Nat := S1.length
  let A : Store := S1 ++ [.st []]
  -- the dict of what is next
  have key := forL_idx (chk := fun S' => S'[r]? = some (.lst (row.map pD))) (g := gTup [gName 4, gName 5]) (b := lb_alike_1) (fun i ρ S' => ∃ y4 y5, ρ = [some (machD m1), some (machD m2), some (.ref r), some (.ref a), y4, y5, none, none, none] ∧ S' = S1 ++ [.st (nxD m1 m2 (row.take i))])
    (fun i ρ S' ⟨_, _, _, h⟩ => by rw [h]; exact get_app hr _) (row.map pD) 0 (by
      rintro i x hx ρ S' ⟨y4, y5, rfl, rfl⟩
      rw [List.getElem?_map] at hx
      obtain ⟨p, hp, rfl⟩ := Option.map_eq_some_iff.mp hx
      have hpm := R.bd p (List.mem_of_getElem? hp)
      have a1 := at_state hpm.1
      have a2 := at_state hpm.2
      rw [Nat.zero_add]
      refine ⟨[some (machD m1), some (machD m2), some (.ref r), some (.ref a), some (.int p.1), some (.int p.2), none, none, none], _, rfl, [some (machD m1), some (machD m2), some (.ref r), some (.ref a), some (.int p.1), some (.int p.2), none, none, none], S1 ++ [.st (nxD m1 m2 (row.take (i + 1)))], .inl ?_, some (.int p.1), some (.int p.2), rfl, rfl⟩
      have hnot : ¬ p ∈ row.take i := fun hm => by
        obtain ⟨j, hj⟩ := List.getElem?_of_mem hm
        have hji : j < i := by have := (List.getElem?_eq_some_iff.mp hj).1; rw [List.length_take] at this; omega
        rw [List.getElem?_take_of_lt hji] at hj
        have hil := (List.getElem?_eq_some_iff.mp hp).1
        have hjl := (List.getElem?_eq_some_iff.mp hj).1
        have q1 := (List.getElem?_eq_some_iff.mp hp).2
        have q2 := (List.getElem?_eq_some_iff.mp hj).2
        have := (List.getElem_inj R.nd).mp (q2.trans q1.symm)
        omega
      have hput : tput (nxD m1 m2 (row.take i)) [.int p.1, .int p.2] (nxV m1 m2 p) = nxD m1 m2 (row.take (i + 1)) := by
        show tput (nxD m1 m2 (row.take i)) (kq p) (nxV m1 m2 p) = _
        unfold nxD
        rw [tput_q (nxV m1 m2) p p, ud_new _ _ _ (by rw [lk_fn (fun q => q), if_neg hnot]), List.take_add_one, hp]
        simp
      have hv : D.tup [.tup [.int (stq m1 p.1).e, .int (stq m2 p.2).e], .tup [.int (stq m1 p.1).o, .int (stq m2 p.2).o]] = nxV m1 m2 p := rfl
      have hkl : (nxD m1 m2 (row.take i)).length < 1000000 := by rw [nxD_len, List.length_take]; omega
      have hkv : kvL (.tup [.int p.1, .int p.2]) = some [.int p.1, .int p.2] := rfl
      simp [lb_alike_1, -o_stAt, -o_kvL, a1, a2, q_e, q_o, hv, hkv, a, gtx0, hkl, hput, -getElem?_pos, List.getElem?_cons_zero, List.getElem?_cons_succ])
    [some (machD m1), some (machD m2), some (.ref r), some (.ref a), none, none, none, none, none] A ⟨_, _, rfl, rfl⟩
  obtain ⟨ρ', S', hfor, y4, y5, rfl, rfl⟩ := key
  rw [Nat.zero_add, List.length_map, List.take_length] at hfor
  let B : Store := S1 ++ [.st (nxD m1 m2 row)]
  -- the marked pairs
  have hlc := lcL_filter (chk := fun S' => S'[r]? = some (.lst (row.map pD))) (g := gName 8) (t := tVal (e2 neD (e2 ixD (e2 ixD (eVar 0) (e2 ixD (eVar 8) (eC (.int 0)))) (eC (.int 0))) (e2 ixD (e2 ixD (eVar 1) (e2 ixD (eVar 8) (eC (.int 1)))) (eC (.int 0))))) (e := eVar 8) (S := B)
    (ρ := [some (machD m1), some (machD m2), some (.ref r), some (.ref a), y4, y5, none, none, none]) (fun d => match d with | .tup [.int x, .int y] => decide ((stq m1 x.toNat).s ≠ (stq m2 y.toNat).s) | _ => false) id (row.map pD) [] (by rw [LINE_eq]; simp; omega) (fun acc => get_app (get_app hr _) _) (fun x hx acc => by
      obtain ⟨p, hp, rfl⟩ := List.mem_map.mp hx
      have hpm := R.bd p hp
      have a1 := at_state hpm.1
      have a2 := at_state hpm.2
      refine ⟨_, rfl, ?_, fun _ => rfl⟩
      simp [p_0, p_1, a1, a2, q_s]
      simp [pD, kq]
      omega)
  have emk : ((row.map pD).filter fun d => match d with | .tup [.int x, .int y] => decide ((stq m1 x.toNat).s ≠ (stq m2 y.toNat).s) | _ => false) = (mkd m1 m2 row).map pD := by
    unfold mkd
    rw [List.filter_map]
    rfl
  rw [emk, List.nil_append, List.map_id] at hlc
  let C : Store := B ++ [.lst ((mkd m1 m2 row).map pD)]
  have hBa : B[a]? = some (.st (nxD m1 m2 row)) := by simp [B, a]
  obtain ⟨c, G2, l, e2', hc, P, F⟩ := s_least_places M1 M2 (a := a) (b := B.length) (S := C) R hrow (get_app hBa _) (by simp [C])
  have hzero := R.zero
  have hst := stAt_st hc
  have hget := enN_get l (0, 0)
  have hk0 : kvL (.tup [.int 0, .int 0]) = some (kq (0, 0)) := rfl
  have hfin : C ++ G2 = S ++ (G ++ ([.st (nxD m1 m2 row)] ++ ([.lst ((mkd m1 m2 row).map pD)] ++ G2))) := by simp [C, B, hS1]
  have hC : C ++ G2 = S1 ++ (.st (nxD m1 m2 row) :: .lst ((mkd m1 m2 row).map pD) :: G2) := by simp [C, B]
  have run : ∀ (d : D), (match lk l (0, 0) with | some n => d = .tup [.str [117, 110, 108, 105, 107, 101], .int (n : Nat)] | none => d = .tup [.str [97, 108, 105, 107, 101], .ref r]) → R_alike [machD m1, machD m2] S = some (.ok d (C ++ G2)) := by
    intro d hd
    unfold R_alike
    rw [run_eq (n := 2) _ _ rfl]
    unfold b_alike
    have hBr : B[r]? = some (.lst (row.map pD)) := get_app hr _
    have hAr : A[r]? = some (.lst (row.map pD)) := get_app hr _
    rw [hC] at e2' hst ⊢
    simp only [A, a] at hfor hAr
    simp only [B, a] at hlc hBr
    simp only [C, B, a] at e2' hst
    simp at hfor hlc e2'
    cases hl : lk l (0, 0) with
    | none =>
      rw [hl] at hd hget
      simp at hget
      simp only at hd
      subst hd
      simp [-o_stAt, -o_kvL, -getElem?_pos, List.getElem?_cons_zero, List.getElem?_cons_succ, e1, hAr, hfor, wipe, hlc, e2', hst, hk0, hget, hBr]
    | some n =>
      rw [hl] at hd hget
      simp at hget
      simp only at hd
      subst hd
      simp [-o_stAt, -o_kvL, -getElem?_pos, List.getElem?_cons_zero, List.getElem?_cons_succ, e1, hAr, hfor, wipe, hlc, e2', hst, hk0, hget, hBr]
  cases hl : lk l (0, 0) with
  | none =>
    right
    have alle : ∀ k, sgn m1 0 k = sgn m2 0 k := fun k => by
      refine Decidable.byContradiction fun hne => ?_
      obtain ⟨u, hu, _⟩ := least_of M1 M2 R P F k (0, 0) hzero hne
      rw [hl] at hu
      cases hu
    refine ⟨(G ++ ([.st (nxD m1 m2 row)] ++ ([.lst ((mkd m1 m2 row).map pD)] ++ G2))), r, row, ?_, ?_, R, alle, fun p hp => ?_⟩
    · rw [run _ (by rw [hl]), hfin]
    · rw [← List.append_assoc, ← hS1]; exact get_app hr _
    · refine Decidable.byContradiction fun hne => ?_
      have := P.mrk p hp ((diff_0 p).mpr hne)
      exact seen_of M1 M2 R F (R.rch p hp) (by rw [this]; simp) hl
  | some n =>
    left
    refine ⟨(G ++ ([.st (nxD m1 m2 row)] ++ ([.lst ((mkd m1 m2 row).map pD)] ++ G2))), n, ?_, (P.val _ _ hl).2, fun k hk => ?_⟩
    · rw [run _ (by rw [hl]), hfin]
    · refine Decidable.byContradiction fun hne => ?_
      obtain ⟨u, hu, hu2⟩ := least_of M1 M2 R P F k (0, 0) hzero hne
      rw [hl] at hu
      cases hu
      omega
end
end Z
namespace Z
/-! ### pairs in lists -/
def pP (p : PP) : PD := .tup [.int p.1, .int p.2]
theorem dat_p (S : Store) (p : PP) : dat S (pD p) = some (pP p) := by simp [dat, pD, kq, D.pd, pdL, pP]
theorem dat_ps {S : Store} {n : Nat} {row : List PP} (h : S[n]? = some (.lst (row.map pD))) : dat S (.ref n) = some (.lst (row.map pP)) := by
  have pl : ∀ (g : Nat → Option PD) (xs : List PP), pdL g (xs.map pD) = some (xs.map pP) := fun g xs => by
    induction xs with
    | nil => rfl
    | cons x xs ih => rw [List.map_cons, pdL, ih]; simp [pD, kq, D.pd, pdL, pP]
  unfold dat
  rw [D.pd, rdR, h]
  dsimp only
  rw [pl]; rfl
theorem dep_ps : ∀ row : List PP, depL (row.map pP) ≤ 2
  | [] => by simp [depL]
  | p :: r => by
    have := dep_ps r
    simp [depL, PD.dep, pP] at this ⊢
    omega
theorem pP_eqv (p q : PP) : (pP p).eqv (pP q) = decide (p = q) := by
  obtain ⟨a, b⟩ := p
  obtain ⟨c, d⟩ := q
  rw [Bool.eq_iff_iff]
  simp [pP, PD.eqv, eqvL]
  omega
theorem in_pairs {S : Store} {n : Nat} {row : List PP} (p : PP) (h : S[n]? = some (.lst (row.map pD))) : inB (pD p) (.ref n) S = some (decide (p ∈ row)) := by
  have e1 := dat_p S p
  have e2 := dat_ps h
  have d1 : (pP p).dep ≤ 64 := by simp [pP, PD.dep, depL]
  have d2 : (PD.lst (row.map pP)).dep ≤ 64 := by have := dep_ps row; rw [PD.dep]; omega
  unfold inB
  dsimp only
  rw [e1, e2]
  dsimp only
  rw [if_pos ⟨d1, d2⟩, List.any_map]
  congr 1
  rw [Bool.eq_iff_iff]
  simp only [List.any_eq_true, Function.comp_def, pP_eqv, decide_eq_true_eq]
  exact ⟨fun ⟨q, h1, h2⟩ => h2 ▸ h1, fun h => ⟨p, h, rfl⟩⟩
theorem ni_p {S : Store} {n : Nat} {row : List PP} (p : PP) (h : S[n]? = some (.lst (row.map pD))) : ninD (pD p) (.ref n) S = some (.ok (.bl (!decide (p ∈ row))) S) := by
  unfold ninD; rw [in_pairs p h]
theorem eqvL_ps : ∀ row : List PP, eqvL (row.map pP) (row.map pP) = true
  | [] => by simp [eqvL]
  | p :: r => by
    rw [List.map_cons, eqvL, pP_eqv, eqvL_ps r]
    simp
theorem ne_ps {S : Store} {a b : Nat} {row : List PP} (h1 : S[a]? = some (.lst (row.map pD))) (h2 : S[b]? = some (.lst (row.map pD))) : neD (.ref a) (.ref b) S = some (.ok (.bl false) S) := by
  have d2 : (PD.lst (row.map pP)).dep ≤ 64 := by have := dep_ps row; rw [PD.dep]; omega
  unfold neD
  rw [dat_ps h1, dat_ps h2]
  dsimp only
  rw [if_pos ⟨d2, d2⟩, PD.eqv, eqvL_ps]
  rfl
/-! ### a machine, its states doubled -/
theorem s_law_doubled {ns : List Int} (hl : ns.length ≤ 63) {m : List Q} (M : Mach m) (hm : m.length ≤ 100) (S : Store) :
    ∃ m' G, R_law_doubled [.fl (ns.map .int), machD m] S = some (.ok (machD m') (S ++ G)) ∧ Mach m' ∧ m'.length = 2 * m.length := by
  let many : Nat := m.length
  have key := forL_range (g := gName 4) (b := lb_law_doubled_1 R_law_cell) (n := 2 * many) (fun k ρ S' => ∃ (fs : List Q) (o4 o5 o6 o7 o8 : Option D), ρ = [some (.fl (ns.map .int)), some (machD m), some (.int many), some (.ref S.length), o4, o5, o6, o7, o8] ∧ S' = S ++ [.lst (fs.map Q.d)] ∧ fs.length = k ∧
      ∀ (i : Nat) (q : Q), fs[i]? = some q → q.s = (stq m (i % many)).s ∧ q.e < 2 * many ∧ q.o < 2 * many ∧ q.e % many = (stq m (i % many)).e) (by
    rintro k hk ρ S' ⟨fs, o4, o5, o6, o7, o8, rfl, rfl, hfl, hq⟩
    have hpos := M.pos
    have hkm : k % many < m.length := Nat.mod_lt _ hpos
    obtain ⟨c, hc, c0, c1⟩ := s_law_cell hl (k := 30) (by decide) (by decide) (S ++ [.lst (fs.map Q.d)])
    let nr : Int := c / (1 + 7 * (k : Int))
    obtain ⟨b1, hb1, hb1'⟩ := mod_nat nr (m := 2) (by decide)
    obtain ⟨b2, hb2, hb2'⟩ := mod_nat (nr / 2) (m := 2) (by decide)
    let q0 := stq m (k % many)
    have he := M.he _ (Mach.mem hkm)
    have ho := M.ho _ (Mach.mem hkm)
    have a := at_state hkm
    let nq : Q := ⟨q0.s, q0.e + many * b1, q0.o + many * b2⟩
    have hmod : ((k : Int) % (many : Int)) = ((k % many : Nat) : Int) := by omega
    have hb1l : many * b1 ≤ many * 1 := Nat.mul_le_mul_left _ (by omega)
    have hb2l : many * b2 ≤ many * 1 := Nat.mul_le_mul_left _ (by omega)
    have hmI : ((m.length : Nat) : Int) = (many : Int) := rfl
    have p1 : (0 : Int) < 1 + 7 * (k : Int) := by omega
    have p2 : (1 + 7 * (k : Int)).natAbs.log2 < 9000 := lg_lt (by omega)
    have s7 : small (7 : Int) := small_lit (by decide) (by decide)
    have sm1 : small (many : Int) := small_nat (by omega)
    have hfl2 : fs.length < LINE := by rw [LINE_eq]; omega
    have hqd : D.tup [.int q0.s, .int (q0.e + (many : Int) * b1), .int (q0.o + (many : Int) * b2)] = nq.d := by
      simp only [nq, Q.d]
      congr 3
    have hpos' : (0 : Int) < many := by omega
    refine ⟨_, _, rfl, [some (.fl (ns.map .int)), some (machD m), some (.int many), some (.ref S.length), some (.int k), some (.int q0.s), some (.int q0.e), some (.int q0.o), some (.int nr)], S ++ [.lst ((fs ++ [nq]).map Q.d)], .inl ?_, fs ++ [nq], _, _, _, _, _, rfl, rfl, by simp [hfl], fun i q hi => ?_⟩
    · have a' : atI (m.map Q.d) ((k % many : Nat) : Int) = some (.tup [.int q0.s, .int q0.e, .int q0.o]) := a
      have hb1u : c / (1 + 7 * (k : Int)) % 2 = b1 := hb1
      have hb2u : c / (1 + 7 * (k : Int)) / 2 % 2 = b2 := hb2
      have hposN : 0 < many := M.pos
      have hm' : ((k : Int) % (many : Int)) = ((k % many : Nat) : Int) := hmod
      clear_value nq q0
      generalize hkk : k % many = kk at *
      simp only [nr]
      simp [lb_law_doubled_1, -getElem?_pos, List.getElem?_cons_zero, List.getElem?_cons_succ, hposN, hm', a', hc, s7, p1, p2, sm1, gtx0, hfl2, hb1u, hb2u, hqd]
    · by_cases hil : i < fs.length
      · rw [List.getElem?_append_left hil] at hi
        exact hq i q hi
      · have hil2 := (List.getElem?_eq_some_iff.mp hi).1
        rw [List.length_append, List.length_singleton] at hil2
        have : i = k := by omega
        subst this
        rw [List.getElem?_append_right (by omega), hfl, Nat.sub_self, List.getElem?_cons_zero] at hi
        have hnq : nq = q := Option.some.inj hi
        subst hnq
        refine ⟨rfl, ?_, ?_, ?_⟩
        · show q0.e + many * b1 < 2 * many
          have : q0.e < many := he
          omega
        · show q0.o + many * b2 < 2 * many
          have : q0.o < many := ho
          omega
        · show (q0.e + many * b1) % many = q0.e
          rw [Nat.add_mul_mod_self_left, Nat.mod_eq_of_lt he]) [some (.fl (ns.map .int)), some (machD m), some (.int many), some (.ref S.length), none, none, none, none, none] (S ++ [.lst []]) ⟨[], none, none, none, none, none, rfl, rfl, rfl, fun i q h => by simp at h⟩
  obtain ⟨ρ', S', h, fs, o4, o5, o6, o7, o8, rfl, rfl, hfl, hq⟩ := key
  have all : ∀ q ∈ fs, ∃ i, fs[i]? = some q := fun q hq => List.getElem?_of_mem hq
  have hpos := M.pos
  have mod_lt : ∀ i, i % many < m.length := fun i => Nat.mod_lt _ hpos
  refine ⟨fs, [.lst (fs.map Q.d)], ?_, ⟨by omega, fun q h => ?_, fun q h => ?_, fun q h r hr => ?_, fun q h => ?_⟩, hfl⟩
  · unfold R_law_doubled
    rw [run_eq (n := 2) _ _ rfl]
    unfold b_law_doubled
    have e2 : (2 : Int) * (m.length : Int) = ((2 * many : Nat) : Int) := by simp only [many]; omega
    have r2 : 2 * m.length ≤ 1000000000 := by omega
    have r62' : r62 ((2 * many : Nat) : Int) := r62_of (by omega) (by omega)
    have tn : ((2 * many : Nat) : Int).toNat = 2 * many := by omega
    have s2 : small (2 : Int) := small_lit (by decide) (by decide)
    generalize 2 * many = mm at h e2 r62' tn
    simp only [many] at h
    simp [s2, e2, r62', tn, h, -getElem?_pos, List.getElem?_cons_zero, List.getElem?_cons_succ, gtx0]
  · obtain ⟨i, hi⟩ := all q h; rw [hfl]; exact (hq i q hi).2.1
  · obtain ⟨i, hi⟩ := all q h; rw [hfl]; exact (hq i q hi).2.2.1
  · obtain ⟨i, hi⟩ := all q h
    obtain ⟨a1, a2, a3, a4⟩ := hq i q hi
    obtain ⟨b1, _⟩ := hq q.e r hr
    rw [b1, a1, a4]
    exact M.hs _ (Mach.mem (mod_lt i)) _ (Mach.at (M.he _ (Mach.mem (mod_lt i))))
  · obtain ⟨i, hi⟩ := all q h
    rw [(hq i q hi).1]
    exact M.h9 _ (Mach.mem (mod_lt i))
/-! ### looks at pairings -/
/-- a pair that is as it ought to be in a row -/
def goodP (m1 m2 : List Q) (row : List PP) (p : PP) : Prop := p.1 < m1.length ∧ p.2 < m2.length ∧ (stq m1 p.1).s = (stq m2 p.2).s ∧ nx1 m1 m2 p ∈ row ∧ nx2 m1 m2 p ∈ row
instance (m1 m2 : List Q) (row : List PP) (p : PP) : Decidable (goodP m1 m2 row p) := by unfold goodP; infer_instance
def shA (m1 m2 : List Q) (row : List PP) : Bool := decide ((0, 0) ∈ row ∧ ∀ p ∈ row, goodP m1 m2 row p)
/-- a loop that ends at the first bad one -/
theorem loop_good {chk : Store → Prop} {g : SG} {b : SS} {S : Store} (hc : chk S) (E : Option D → Option D → Option D → Env) (good : PP → Prop) [DecidablePred good] (h : ∀ (p : PP) x y z, ∃ ρ1 x' y' z', g (pD p) (E x y z) S = some (ρ1, S) ∧ b ρ1 S = if good p then some (.nx (E x' y' z') S) else some (.rt (.bl false) S)) :
    ∀ (row : List PP) (x y z : Option D), ∃ x' y' z', forL chk g b (row.map pD) (E x y z) S = if ∀ p ∈ row, good p then some (.nx (E x' y' z') S) else some (.rt (.bl false) S)
  | [], x, y, z => ⟨x, y, z, by rw [List.map_nil, forL_nil hc, if_pos (fun p h => by cases h)]⟩
  | p :: row, x, y, z => by
    obtain ⟨ρ1, x1, y1, z1, h1, h2⟩ := h p x y z
    rw [List.map_cons]
    by_cases c : good p
    · rw [if_pos c] at h2
      obtain ⟨x', y', z', h3⟩ := loop_good hc E good h row x1 y1 z1
      refine ⟨x', y', z', ?_⟩
      rw [forL_cons hc h1 h2, h3]
      have : (∀ q ∈ p :: row, good q) ↔ ∀ q ∈ row, good q := ⟨fun h q hq => h q (List.mem_cons_of_mem _ hq), fun h q hq => by rcases List.mem_cons.mp hq with rfl | hq; exact c; exact h q hq⟩
      simp only [this]
    · rw [if_neg c] at h2
      refine ⟨x, y, z, ?_⟩
      rw [forL_rt hc h1 h2, if_neg fun h => c (h p (by simp))]
section
variable {m1 m2 : List Q}
theorem sa_body (h1 : m1.length ≤ 900) (h2 : m2.length ≤ 900) {r : Nat} {row : List PP} {S : Store} (hr : S[r]? = some (.lst (row.map pD))) (p : PP) :
    lb_shows_alike_1 [some (machD m1), some (machD m2), some (.ref r), some (.int p.1), some (.int p.2)] S = if goodP m1 m2 row p then some (.nx [some (machD m1), some (machD m2), some (.ref r), some (.int p.1), some (.int p.2)] S) else some (.rt (.bl false) S) := by
  unfold goodP
  by_cases c1 : p.1 < m1.length
  · by_cases c2 : p.2 < m2.length
    · have a1 := at_state c1
      have a2 := at_state c2
      have c1' : ¬ m1.length ≤ p.1 := by omega
      have c2' : ¬ m2.length ≤ p.2 := by omega
      by_cases c3 : (stq m1 p.1).s = (stq m2 p.2).s
      · have eA : (D.tup [.int (stq m1 p.1).e, .int (stq m2 p.2).e]) = pD (nx1 m1 m2 p) := rfl
        have eB : (D.tup [.int (stq m1 p.1).o, .int (stq m2 p.2).o]) = pD (nx2 m1 m2 p) := rfl
        have n1 := ni_p (nx1 m1 m2 p) hr
        have n2 := ni_p (nx2 m1 m2 p) hr
        by_cases c4 : nx1 m1 m2 p ∈ row
        · by_cases c5 : nx2 m1 m2 p ∈ row
          · simp [lb_shows_alike_1, c1, c2, c1', c2', a1, a2, q_s, q_e, q_o, c3, eA, eB, n1, n2, c4, c5]
          · simp [lb_shows_alike_1, c1, c2, c1', c2', a1, a2, q_s, q_e, q_o, c3, eA, eB, n1, n2, c4, c5]
        · simp [lb_shows_alike_1, c1, c2, c1', c2', a1, a2, q_s, q_e, q_o, c3, eA, eB, n1, n2, c4]
      · have c3' : ¬ ((stq m1 p.1).s : Int) = (stq m2 p.2).s := by omega
        simp [lb_shows_alike_1, c1, c2, c1', c2', a1, a2, q_s, c3, c3']
    · have c1' : ¬ m1.length ≤ p.1 := by omega
      have c2' : m2.length ≤ p.2 := by omega
      simp [lb_shows_alike_1, c1, c2, c1', c2']
  · have c1' : m1.length ≤ p.1 := by omega
    simp [lb_shows_alike_1, c1, c1']
theorem s_shows_alike (h1 : m1.length ≤ 900) (h2 : m2.length ≤ 900) {r : Nat} {row : List PP} {S : Store} (hr : S[r]? = some (.lst (row.map pD))) : R_shows_alike [machD m1, machD m2, .ref r] S = some (.ok (.bl (shA m1 m2 row)) S) := by
  have n0 := ni_p (0, 0) hr
  have e0 : D.tup [.int 0, .int 0] = pD (0, 0) := rfl
  obtain ⟨x', y', z', hf⟩ := loop_good (chk := fun S' => S'[r]? = some (.lst (row.map pD))) (g := gTup [gName 3, gName 4]) (b := lb_shows_alike_1) (S := S) hr (fun x y _ => [some (machD m1), some (machD m2), some (.ref r), x, y]) (goodP m1 m2 row) (fun p x y z => ⟨_, some (.int p.1), some (.int p.2), none, rfl, sa_body h1 h2 hr p⟩) row none none none
  unfold R_shows_alike
  rw [run_eq (n := 3) _ _ rfl]
  unfold b_shows_alike shA
  by_cases c : (0, 0) ∈ row
  · by_cases d : ∀ p ∈ row, goodP m1 m2 row p
    · rw [if_pos d] at hf
      rw [decide_eq_true ⟨c, d⟩]
      simp [e0, n0, c, -getElem?_pos, List.getElem?_cons_zero, List.getElem?_cons_succ, hr, hf]
    · rw [if_neg d] at hf
      rw [decide_eq_false fun h => d h.2]
      simp [e0, n0, c, -getElem?_pos, List.getElem?_cons_zero, List.getElem?_cons_succ, hr, hf]
  · rw [decide_eq_false fun h => c h.1]
    simp [e0, n0, c]
theorem ld_bit {r b : Nat} (hb : b = 1 ∨ b = 2) {row : List PP} {S : Store} (hr : S[r]? = some (.lst (row.map pD))) {p : PP} (c1 : p.1 < m1.length) (c2 : p.2 < m2.length) :
    lb_law_due_v7_1 [some (machD m1), some (machD m2), some (.ref r), some (.int p.1), some (.int p.2), some (.int b)] S = if (if b = 1 then nx1 m1 m2 p else nx2 m1 m2 p) ∈ row then some (.nx [some (machD m1), some (machD m2), some (.ref r), some (.int p.1), some (.int p.2), some (.int b)] S) else some (.rt (.bl false) S) := by
  have a1 := at_state c1
  have a2 := at_state c2
  have eA : (D.tup [.int (stq m1 p.1).e, .int (stq m2 p.2).e]) = pD (nx1 m1 m2 p) := rfl
  have eB : (D.tup [.int (stq m1 p.1).o, .int (stq m2 p.2).o]) = pD (nx2 m1 m2 p) := rfl
  have n1 := ni_p (nx1 m1 m2 p) hr
  have n2 := ni_p (nx2 m1 m2 p) hr
  rcases hb with rfl | rfl
  · by_cases c : nx1 m1 m2 p ∈ row
    · simp [lb_law_due_v7_1, a1, a2, q_e, eA, n1, c]
    · simp [lb_law_due_v7_1, a1, a2, q_e, eA, n1, c]
  · by_cases c : nx2 m1 m2 p ∈ row
    · simp [lb_law_due_v7_1, a1, a2, q_o, eB, n2, c]
    · simp [lb_law_due_v7_1, a1, a2, q_o, eB, n2, c]
theorem ld_body (h1 : m1.length ≤ 900) (h2 : m2.length ≤ 900) {r : Nat} {row : List PP} {S : Store} (hr : S[r]? = some (.lst (row.map pD))) (p : PP) (z : Option D) :
    ∃ z', lb_law_due_v7_2 [some (machD m1), some (machD m2), some (.ref r), some (.int p.1), some (.int p.2), z] S = if goodP m1 m2 row p then some (.nx [some (machD m1), some (machD m2), some (.ref r), some (.int p.1), some (.int p.2), z'] S) else some (.rt (.bl false) S) := by
  refine ⟨some (.int (2 : Nat)), ?_⟩
  unfold goodP
  by_cases c1 : p.1 < m1.length
  · by_cases c2 : p.2 < m2.length
    · have a1 := at_state c1
      have a2 := at_state c2
      by_cases c3 : (stq m1 p.1).s = (stq m2 p.2).s
      · have b1 := ld_bit (b := 1) (.inl rfl) hr c1 c2
        have b2 := ld_bit (b := 2) (.inr rfl) hr c1 c2
        rw [if_pos rfl] at b1
        rw [if_neg (show ¬ (2 : Nat) = 1 by decide)] at b2
        by_cases c4 : nx1 m1 m2 p ∈ row
        · rw [if_pos c4] at b1
          by_cases c5 : nx2 m1 m2 p ∈ row
          · rw [if_pos c5] at b2
            have hf : forL (fun _ => True) (gName 5) lb_law_due_v7_1 [.int (1 : Nat), .int (2 : Nat)] [some (machD m1), some (machD m2), some (.ref r), some (.int p.1), some (.int p.2), z] S = some (.nx [some (machD m1), some (machD m2), some (.ref r), some (.int p.1), some (.int p.2), some (.int (2 : Nat))] S) := by
              rw [forL_cons (S1 := S) trivial rfl b1, forL_cons (S1 := S) trivial rfl b2, forL_nil trivial]
            simp at hf
            simp [lb_law_due_v7_2, c1, c2, a1, a2, q_s, c3, c4, c5, hf]
          · rw [if_neg c5] at b2
            have hf : forL (fun _ => True) (gName 5) lb_law_due_v7_1 [.int (1 : Nat), .int (2 : Nat)] [some (machD m1), some (machD m2), some (.ref r), some (.int p.1), some (.int p.2), z] S = some (.rt (.bl false) S) := by
              rw [forL_cons (S1 := S) trivial rfl b1]
              exact forL_rt (S1 := S) trivial rfl b2
            simp at hf
            simp [lb_law_due_v7_2, c1, c2, a1, a2, q_s, c3, c4, c5, hf]
        · rw [if_neg c4] at b1
          have hf : forL (fun _ => True) (gName 5) lb_law_due_v7_1 [.int (1 : Nat), .int (2 : Nat)] [some (machD m1), some (machD m2), some (.ref r), some (.int p.1), some (.int p.2), z] S = some (.rt (.bl false) S) := by
            exact forL_rt (S1 := S) trivial rfl b1
          simp at hf
          simp [lb_law_due_v7_2, c1, c2, a1, a2, q_s, c3, c4, hf]
      · have c3' : ¬ ((stq m1 p.1).s : Int) = (stq m2 p.2).s := by omega
        simp [lb_law_due_v7_2, c1, c2, a1, a2, q_s, c3, c3']
    · simp [lb_law_due_v7_2, c1, c2]
  · simp [lb_law_due_v7_2, c1]
theorem s_law_dueP (h1 : m1.length ≤ 900) (h2 : m2.length ≤ 900) {r : Nat} {row : List PP} {S : Store} (hr : S[r]? = some (.lst (row.map pD))) : R_law_due_v7 [machD m1, machD m2, .ref r] S = some (.ok (.bl (shA m1 m2 row)) S) := by
  have n0 := ni_p (0, 0) hr
  have e0 : D.tup [.int 0, .int 0] = pD (0, 0) := rfl
  obtain ⟨x', y', z', hf⟩ := loop_good (chk := fun S' => S'[r]? = some (.lst (row.map pD))) (g := gTup [gName 3, gName 4]) (b := lb_law_due_v7_2) (S := S) hr (fun x y z => [some (machD m1), some (machD m2), some (.ref r), x, y, z]) (goodP m1 m2 row) (fun p x y z => by
    obtain ⟨z', hz⟩ := ld_body h1 h2 hr p z
    exact ⟨_, some (.int p.1), some (.int p.2), z', rfl, hz⟩) row none none none
  unfold R_law_due_v7
  rw [run_eq (n := 3) _ _ rfl]
  unfold b_law_due_v7 shA
  by_cases c : (0, 0) ∈ row
  · by_cases d : ∀ p ∈ row, goodP m1 m2 row p
    · rw [if_pos d] at hf
      rw [decide_eq_true ⟨c, d⟩]
      simp [e0, n0, c, -getElem?_pos, List.getElem?_cons_zero, List.getElem?_cons_succ, hr, hf]
    · rw [if_neg d] at hf
      rw [decide_eq_false fun h => d h.2]
      simp [e0, n0, c, -getElem?_pos, List.getElem?_cons_zero, List.getElem?_cons_succ, hr, hf]
  · rw [decide_eq_false fun h => c h.1]
    simp [e0, n0, c]
end
end Z
namespace Z
/-! ### k30: rows that part far out -/
def farQ (b : Nat → Nat) (N : Nat) (k : Nat) : Q := if b k = 0 then ⟨0, k + 1, N + 2⟩ else ⟨0, N + 2, k + 1⟩
def farM (b : Nat → Nat) (N : Nat) : List Q := (List.range N).map (farQ b N) ++ [⟨0, N + 2, N + 1⟩, ⟨1, N + 1, N + 2⟩, ⟨0, N + 2, N + 2⟩]
def farV (b : Nat → Nat) (N : Nat) : Nat → Nat
  | 0 => 1
  | j + 1 => 2 * farV b N j + b (N - 1 - j)
theorem far_len (b : Nat → Nat) (N : Nat) : (farM b N).length = N + 3 := by simp [farM]
theorem far_at {b : Nat → Nat} {N k : Nat} (h : k < N) : stq (farM b N) k = farQ b N k := by
  unfold stq farM
  rw [List.getD_eq_getElem?_getD, List.getElem?_append_left (by simpa using h)]
  simp [h]
theorem far_N (b : Nat → Nat) (N : Nat) : stq (farM b N) N = ⟨0, N + 2, N + 1⟩ := by
  unfold stq farM
  rw [List.getD_eq_getElem?_getD, List.getElem?_append_right (by simp)]
  simp
theorem far_1 (b : Nat → Nat) (N : Nat) : stq (farM b N) (N + 1) = ⟨1, N + 1, N + 2⟩ := by
  unfold stq farM
  rw [List.getD_eq_getElem?_getD, List.getElem?_append_right (by simp)]
  simp
theorem far_2 (b : Nat → Nat) (N : Nat) : stq (farM b N) (N + 2) = ⟨0, N + 2, N + 2⟩ := by
  unfold stq farM
  rw [List.getD_eq_getElem?_getD, List.getElem?_append_right (by simp)]
  simp
theorem farQ_s (b : Nat → Nat) (N k : Nat) : (farQ b N k).s = 0 := by unfold farQ; split <;> rfl
theorem far_sign {b : Nat → Nat} {N i : Nat} (h : i < N + 3) : (stq (farM b N) i).s = if i = N + 1 then 1 else 0 := by
  by_cases c : i < N
  · rw [far_at c, farQ_s, if_neg (by omega)]
  · rcases (show i = N ∨ i = N + 1 ∨ i = N + 2 by omega) with rfl | rfl | rfl
    · rw [far_N, if_neg (by omega)]
    · rw [far_1, if_pos rfl]
    · rw [far_2, if_neg (by omega)]
theorem far_e {b : Nat → Nat} {N i : Nat} (h : i < N + 3) : (stq (farM b N) i).e < N + 3 ∧ (stq (farM b N) i).o < N + 3 ∧ ((stq (farM b N) i).e = N + 1 ↔ i = N + 1) := by
  by_cases c : i < N
  · rw [far_at c]
    unfold farQ
    split
    · exact ⟨by show i + 1 < _; omega, by show N + 2 < _; omega, by show i + 1 = N + 1 ↔ _; omega⟩
    · exact ⟨by show N + 2 < _; omega, by show i + 1 < _; omega, by show N + 2 = N + 1 ↔ _; omega⟩
  · rcases (show i = N ∨ i = N + 1 ∨ i = N + 2 by omega) with rfl | rfl | rfl
    · rw [far_N]; exact ⟨by show i + 2 < _; omega, by show i + 1 < _; omega, by show i + 2 = i + 1 ↔ _; omega⟩
    · rw [far_1]; exact ⟨by show N + 1 < _; omega, by show N + 2 < _; omega, by simp⟩
    · rw [far_2]; exact ⟨by show N + 2 < _; omega, by show N + 2 < _; omega, by show N + 2 = N + 1 ↔ _; omega⟩
theorem far_mach (b : Nat → Nat) (N : Nat) : Mach (farM b N) := by
  have all : ∀ q ∈ farM b N, ∃ i, i < N + 3 ∧ stq (farM b N) i = q := fun q hq => by
    obtain ⟨i, hi⟩ := List.getElem?_of_mem hq
    have hl := (List.getElem?_eq_some_iff.mp hi).1
    rw [far_len] at hl
    exact ⟨i, hl, by simp [stq, List.getD_eq_getElem?_getD, hi]⟩
  refine ⟨by rw [far_len]; omega, fun q hq => ?_, fun q hq => ?_, fun q hq p hp => ?_, fun q hq => ?_⟩
  · obtain ⟨i, hi, rfl⟩ := all q hq; rw [far_len]; exact (far_e hi).1
  · obtain ⟨i, hi, rfl⟩ := all q hq; rw [far_len]; exact (far_e hi).2.1
  · obtain ⟨i, hi, rfl⟩ := all q hq
    obtain ⟨h1, _, h3⟩ := far_e (b := b) hi
    have : p = stq (farM b N) (stq (farM b N) i).e := by simp [stq, List.getD_eq_getElem?_getD] at hp ⊢; rw [hp]; rfl
    rw [this, far_sign h1, far_sign hi]
    by_cases c : i = N + 1
    · rw [if_pos (h3.mpr c), if_pos c]
    · rw [if_neg (fun h => c (h3.mp h)), if_neg c]
  · obtain ⟨i, hi, rfl⟩ := all q hq; rw [far_sign hi]; split <;> omega
section
variable (b : Nat → Nat) (N : Nat)
theorem far_sink : ∀ n : Nat, sgn (farM b N) (N + 2) n = 0 := by
  intro n
  induction n using Nat.strongRecOn with
  | ind n ih =>
    by_cases h0 : n = 0
    · subst h0; unfold sgn; rw [go0, far_2]
    · rcases Nat.mod_two_eq_zero_or_one n with c | c
      · rw [show n = 2 * (n / 2) by omega, sgn_even (far_mach b N) (by rw [far_len]; omega), far_2]
        exact ih _ (by omega)
      · rw [show n = 2 * (n / 2) + 1 by omega, sgn_odd, far_2]
        exact ih _ (by omega)
theorem far_one : ∀ n : Nat, sgn (farM b N) (N + 1) n = if n = 0 then 1 else 0 := by
  intro n
  induction n using Nat.strongRecOn with
  | ind n ih =>
    by_cases h0 : n = 0
    · subst h0; unfold sgn; rw [go0, far_1]; rfl
    · rw [if_neg h0]
      rcases Nat.mod_two_eq_zero_or_one n with c | c
      · rw [show n = 2 * (n / 2) by omega, sgn_even (far_mach b N) (by rw [far_len]; omega), far_1]
        show sgn (farM b N) (N + 1) (n / 2) = 0
        rw [ih _ (by omega), if_neg (by omega)]
      · rw [show n = 2 * (n / 2) + 1 by omega, sgn_odd, far_1]
        exact far_sink b N _
theorem far_last (n : Nat) : sgn (farM b N) N n = if n = 1 then 1 else 0 := by
  rcases Nat.mod_two_eq_zero_or_one n with c | c
  · rw [if_neg (by omega), show n = 2 * (n / 2) by omega, sgn_even (far_mach b N) (by rw [far_len]; omega), far_N]
    exact far_sink b N _
  · have e : n = 2 * (n / 2) + 1 := by omega
    rw [e, sgn_odd, far_N]
    show sgn (farM b N) (N + 1) (n / 2) = _
    rw [far_one]
    by_cases h : n / 2 = 0
    · rw [if_pos h, if_pos (by omega)]
    · rw [if_neg h, if_neg (by omega)]
theorem far_row (hb : ∀ k, b k < 2) : ∀ (j : Nat), j ≤ N → ∀ n, sgn (farM b N) (N - j) n = if n = farV b N j then 1 else 0
  | 0, _, n => by rw [Nat.sub_zero, far_last]; rfl
  | j + 1, hj, n => by
    have ih := far_row hb j (by omega)
    have hk : N - (j + 1) < N := by omega
    have e1 : N - (j + 1) + 1 = N - j := by omega
    have e2 : N - 1 - j = N - (j + 1) := by omega
    have hbk := hb (N - (j + 1))
    rw [farV, e2]
    rcases Nat.mod_two_eq_zero_or_one n with c | c
    · have e : n = 2 * (n / 2) := by omega
      rw [e, sgn_even (far_mach b N) (by rw [far_len]; omega), far_at hk]
      unfold farQ
      by_cases h : b (N - (j + 1)) = 0
      · rw [if_pos h]
        show sgn (farM b N) (N - (j + 1) + 1) (n / 2) = _
        rw [e1, ih, h]
        by_cases g : n / 2 = farV b N j
        · rw [if_pos g, if_pos (by omega)]
        · rw [if_neg g, if_neg (by omega)]
      · rw [if_neg h]
        show sgn (farM b N) (N + 2) (n / 2) = _
        rw [far_sink, if_neg (by omega)]
    · have e : n = 2 * (n / 2) + 1 := by omega
      rw [e, sgn_odd, far_at hk]
      unfold farQ
      by_cases h : b (N - (j + 1)) = 0
      · rw [if_pos h]
        show sgn (farM b N) (N + 2) (n / 2) = _
        rw [far_sink, if_neg (by omega)]
      · rw [if_neg h]
        show sgn (farM b N) (N - (j + 1) + 1) (n / 2) = _
        rw [e1, ih]
        by_cases g : n / 2 = farV b N j
        · rw [if_pos g, if_pos (by omega)]
        · rw [if_neg g, if_neg (by omega)]
theorem far_all (hb : ∀ k, b k < 2) (n : Nat) : sgn (farM b N) 0 n = if n = farV b N N then 1 else 0 := by
  have := far_row b N hb N (Nat.le_refl _) n
  rwa [Nat.sub_self] at this
end
def nilM : List Q := [⟨0, 0, 0⟩]
theorem nil_mach : Mach nilM := ⟨by decide, fun q h => by simp [nilM] at h; subst h; decide, fun q h => by simp [nilM] at h; subst h; decide, fun q h p hp => by simp [nilM] at h hp; subst h; simp at hp; subst hp; rfl, fun q h => by simp [nilM] at h; subst h; decide⟩
theorem nil_sgn : ∀ n : Nat, sgn nilM 0 n = 0 := by
  intro n
  induction n using Nat.strongRecOn with
  | ind n ih =>
    by_cases h0 : n = 0
    · subst h0; unfold sgn; rw [go0]; rfl
    · rcases Nat.mod_two_eq_zero_or_one n with c | c
      · rw [show n = 2 * (n / 2) by omega, sgn_even nil_mach (by decide)]
        exact ih _ (by omega)
      · rw [show n = 2 * (n / 2) + 1 by omega, sgn_odd]
        exact ih _ (by omega)
/-- alike tells a place that is the only one -/
theorem alike_only {m1 m2 : List Q} (M1 : Mach m1) (M2 : Mach m2) (h1 : m1.length ≤ 900) (h2 : m2.length ≤ 900) {v : Nat} (h : ∀ n, sgn m1 0 n ≠ sgn m2 0 n ↔ n = v) (S : Store) : ∃ G, R_alike [machD m1, machD m2] S = some (.ok (.tup [.str [117, 110, 108, 105, 107, 101], .int v]) (S ++ G)) := by
  rcases s_alike M1 M2 h1 h2 S with ⟨G, n, e, hd, _⟩ | ⟨G, r, row, e, _, _, hs, _⟩
  · rw [(h n).mp hd] at e; exact ⟨G, e⟩
  · exact absurd (hs v) ((h v).mpr rfl)
theorem s_law_cellU {ns : List Int} (hl : ns.length ≤ 63) {k : Int} (h0 : 0 ≤ k) (h1 : k < 1000) : ∃ c : Int, (∀ S, R_law_cell [.fl (ns.map .int), .int k] S = some (.ok (.int c) S)) ∧ 0 ≤ c ∧ c < 1000000000000000000 := by
  have e18 : (10:Int) ^ (18:Int).toNat = 1000000000000000000 := by decide
  have hk : small k := (small_iff k).mpr (by omega)
  by_cases hc : k < ns.length
  · have hv : k.toNat < ns.length := by omega
    refine ⟨ns[k.toNat] % 1000000000000000000, fun S => ?_, Int.emod_nonneg _ (by decide), Int.emod_lt_of_pos _ (by decide)⟩
    unfold R_law_cell
    rw [run_eq (n := 2) _ _ rfl]
    unfold b_law_cell
    simp [hc, atI, ixN, h0, hv, small_iff (10 : Int)]
  · have fin : ∀ near : Int, small (near * 48271 % 2147483647) ∧ 0 ≤ (near * 48271 % 2147483647) ^ 5 % 2147483647 / 3 ∧ (near * 48271 % 2147483647) ^ 5 % 2147483647 / 3 < 1000000000000000000 := fun near => by
      have a := Int.emod_nonneg (near * 48271) (b := 2147483647) (by decide)
      have b := Int.emod_lt_of_pos (near * 48271) (b := 2147483647) (by decide)
      have c := Int.emod_nonneg ((near * 48271 % 2147483647) ^ 5) (b := 2147483647) (by decide)
      have d := Int.emod_lt_of_pos ((near * 48271 % 2147483647) ^ 5) (b := 2147483647) (by decide)
      exact ⟨(small_iff _).mpr (by omega), by omega, by omega⟩
    cases ns with
    | nil =>
      obtain ⟨f1, f2, f3⟩ := fin (19 + 11 * k * k)
      refine ⟨_, fun S => ?_, f2, f3⟩
      simp at hc
      have hc' : ¬ k < 0 := by omega
      unfold R_law_cell
      rw [run_eq (n := 2) _ _ rfl]
      unfold b_law_cell
      simp [hc', hk, small_iff (11 : Int), small_iff (48271 : Int), f1]
    | cons x r =>
      have hm0 := Int.emod_nonneg k (b := ((x :: r).length : Int)) (by simp only [List.length_cons]; omega)
      have hm1 := Int.emod_lt_of_pos k (b := ((x :: r).length : Int)) (by simp only [List.length_cons]; omega)
      obtain ⟨y, q1, q2⟩ := atI_mem (xs := (x :: r).map D.int) hm0 (by simpa using hm1)
      obtain ⟨z, q3, rfl⟩ := List.mem_map.mp q2
      obtain ⟨f1, f2, f3⟩ := fin (19 + 11 * k * k + z % 1000003 * (k + 7))
      refine ⟨_, fun S => ?_, f2, f3⟩
      simp at hc q1
      have hc' : ¬ k < (r.length : Int) + 1 := by omega
      have hpos : (0 : Int) < (r.length : Int) + 1 := by omega
      have hk7 : small (k + 7) := (small_iff _).mpr (by omega)
      unfold R_law_cell
      rw [run_eq (n := 2) _ _ rfl]
      unfold b_law_cell
      simp [hc', hpos, hk, hk7, small_iff (11 : Int), small_iff (48271 : Int), f1, q1]
theorem eq_un (v : Nat) (S : Store) : eqD (.tup [.str [117, 110, 108, 105, 107, 101], .int v]) (.tup [.str [117, 110, 108, 105, 107, 101], .int v]) S = some (.ok (.bl true) S) := by
  have e : dat S (.tup [.str [117, 110, 108, 105, 107, 101], .int v]) = some (.tup [.str [117, 110, 108, 105, 107, 101], .int v]) := by simp [dat, D.pd, pdL]
  have d : (PD.tup [.str [117, 110, 108, 105, 107, 101], .int v]).dep ≤ 64 := by simp [PD.dep, depL]
  unfold eqD
  rw [e]
  dsimp only
  rw [if_pos ⟨d, d⟩]
  simp [PD.eqv, eqvL]
theorem rcB_far {S : Store} {n : Nat} {xs : List D} (h : S[n]? = some (.lst xs)) : rcB S .list (.ref n) = true := by rw [o_rcr, h]
/-- V by steps -/
theorem far_pl (b : Nat → Nat) (N j : Nat) : farV b N (j + 1) = 2 * farV b N j + b (N - 1 - j) := rfl
theorem s_law_far_parts {ns : List Int} (hl : ns.length ≤ 63) (S : Store) : ∃ G, R_law_far_parts [.fl (ns.map .int)] S = some (.ok (.bl true) (S ++ G)) := by
  obtain ⟨c21, h21, a21, b21⟩ := s_law_cellU hl (k := 21) (by decide) (by decide)
  obtain ⟨c, hc, c0, c1⟩ := s_law_cellU hl (k := 22) (by decide) (by decide)
  obtain ⟨N, hN, hN2⟩ := mod_nat c21 (m := 60) (by decide)
  let b : Nat → Nat := fun k => (c / (1 + 3 * (k : Int)) % 2).toNat
  have hb : ∀ k, b k < 2 ∧ c / (1 + 3 * (k : Int)) % 2 = (b k : Int) := fun k => by
    have := Int.emod_nonneg (c / (1 + 3 * (k : Int))) (b := 2) (by decide)
    have := Int.emod_lt_of_pos (c / (1 + 3 * (k : Int))) (b := 2) (by decide)
    simp only [b]
    omega
  have s3 : small (3 : Int) := small_lit (by decide) (by decide)
  have key1 := forL_range (g := gName 4) (b := lb_law_far_parts_1 R_law_cell) (n := N) (fun k ρ S' => ∃ (G : Store) (o4 o5 : Option D), ρ = [some (.fl (ns.map .int)), some (.int N), some (.int 1), some (.ref S.length), o4, o5, none] ∧ S' = S ++ (.lst (((List.range k).map (farQ b N)).map Q.d) :: G)) (by
    rintro k hk ρ S' ⟨G, o4, o5, rfl, rfl⟩
    obtain ⟨hb1, hb2⟩ := hb k
    have p1 : (0 : Int) < 1 + 3 * (k : Int) := by omega
    have p2 : (1 + 3 * (k : Int)).natAbs.log2 < 9000 := lg_lt (by omega)
    have hat : atI [D.tup [.int 0, .int ((k : Int) + 1), .int ((N : Int) + 2)], D.tup [.int 0, .int ((N : Int) + 2), .int ((k : Int) + 1)]] (b k : Int) = some (farQ b N k).d := by
      rcases (show b k = 0 ∨ b k = 1 by omega) with h | h
      · have : farQ b N k = ⟨0, k + 1, N + 2⟩ := by unfold farQ; rw [if_pos h]
        rw [h, this]; exact atI_nat (k := 0) rfl
      · have : farQ b N k = ⟨0, N + 2, k + 1⟩ := by unfold farQ; rw [if_neg (by omega)]
        rw [h, this]; exact atI_nat (k := 1) rfl
    have hlen : k < LINE := by rw [LINE_eq]; omega
    have hfin : ((List.range (k + 1)).map (farQ b N)).map Q.d = ((List.range k).map (farQ b N)).map Q.d ++ [(farQ b N k).d] := by rw [List.range_succ]; simp
    refine ⟨_, _, rfl, [some (.fl (ns.map .int)), some (.int N), some (.int 1), some (.ref S.length), some (.int k), some (.int (b k)), none], S ++ (.lst (((List.range (k + 1)).map (farQ b N)).map Q.d) :: (G ++ [.lst [D.tup [.int 0, .int ((k : Int) + 1), .int ((N : Int) + 2)], D.tup [.int 0, .int ((N : Int) + 2), .int ((k : Int) + 1)]]])), .inl ?_, _, _, _, rfl, rfl⟩
    rw [hfin]
    have g0 : ∀ (X : List D) (T : Store), (S ++ (MO.lst X :: T))[S.length]? = some (.lst X) := fun X T => by rw [gtx0]; rfl
    have g1 : ∀ (X : List D) (L : List D), (S ++ (MO.lst X :: (G ++ [MO.lst L])))[S.length + (G.length + 1)]? = some (.lst L) := fun X L => by
      rw [gtx, List.getElem?_cons_succ, gtx0]; rfl
    have hset : ∀ (X Y : List D) (T : Store), (S ++ (MO.lst X :: T)).set S.length (.lst Y) = S ++ (MO.lst Y :: T) := fun X Y T => by simp
    have hrc : ∀ (X : List D) (T : Store), rcB (S ++ (MO.lst X :: T)) .list (.ref S.length) = true := fun X T => rcB_far (g0 X T)
    simp [lb_law_far_parts_1, -o_rcr, hrc, -getElem?_pos, List.getElem?_cons_zero, List.getElem?_cons_succ, hc, s3, p1, p2, hb2, g0, g1, hat, hlen]) [some (.fl (ns.map .int)), some (.int N), some (.int 1), some (.ref S.length), none, none, none] (S ++ [.lst []]) ⟨[], none, none, rfl, rfl⟩
  obtain ⟨ρ1, T1, hf1, G1, o4, o5, rfl, rfl⟩ := key1
  let T1 : Store := S ++ (.lst (((List.range N).map (farQ b N)).map Q.d) :: G1)
  have key2 := forL_range (g := gName 4) (b := lb_law_far_parts_2 R_law_cell) (n := N) (fun k ρ S' => ∃ (o4 : Option D), ρ = [some (.fl (ns.map .int)), some (.int N), some (.int (farV b N k)), some (.ref S.length), o4, o5, none] ∧ S' = T1) (by
    rintro k hk ρ S' ⟨o4, rfl, rfl⟩
    obtain ⟨hb1, hb2⟩ := hb (N - 1 - k)
    have ek : (N : Int) - 1 - k = ((N - 1 - k : Nat) : Int) := by omega
    have p1 : (0 : Int) < 1 + 3 * ((N - 1 - k : Nat) : Int) := by omega
    have p2 : (1 + 3 * ((N - 1 - k : Nat) : Int)).natAbs.log2 < 9000 := lg_lt (by omega)
    have s2 : small (2 : Int) := small_lit (by decide) (by decide)
    have hv : 2 * (farV b N k : Int) + (b (N - 1 - k) : Int) = ((farV b N (k + 1) : Nat) : Int) := by rw [far_pl]; omega
    refine ⟨_, _, rfl, [some (.fl (ns.map .int)), some (.int N), some (.int (farV b N (k + 1))), some (.ref S.length), some (.int k), o5, none], T1, .inl ?_, _, rfl, rfl⟩
    generalize N - 1 - k = kk at *
    simp [lb_law_far_parts_2, hc, s3, s2, ek, p1, p2, hb2, hv]) [some (.fl (ns.map .int)), some (.int N), some (.int 1), some (.ref S.length), o4, o5, none] T1 ⟨_, rfl, rfl⟩
  obtain ⟨ρ2, T2, hf2, o4', rfl, rfl⟩ := key2
  have hm := far_mach b N
  have hlen := far_len b N
  have only1 := alike_only hm nil_mach (by omega) (by decide) (v := farV b N N) (fun n => by
    rw [far_all b N (fun k => (hb k).1), nil_sgn]
    by_cases h : n = farV b N N <;> simp [h])
  have only2 := alike_only nil_mach hm (by decide) (by omega) (v := farV b N N) (fun n => by
    rw [far_all b N (fun k => (hb k).1), nil_sgn]
    by_cases h : n = farV b N N <;> simp [h])
  let M0 : List D := ((List.range N).map (farQ b N)).map Q.d
  let X3 : List D := [.tup [.int 0, .int ((N : Int) + 2), .int ((N : Int) + 1)], .tup [.int 1, .int ((N : Int) + 1), .int ((N : Int) + 2)], .tup [.int 0, .int ((N : Int) + 2), .int ((N : Int) + 2)]]
  have hM : M0 ++ X3 = (farM b N).map Q.d := by simp [M0, X3, farM, Q.d]
  let T3 : Store := T1 ++ [.lst X3, .lst (M0 ++ X3)]
  obtain ⟨G2, ea⟩ := only1 T3
  obtain ⟨G3, eb⟩ := only2 (T3 ++ G2)
  refine ⟨.lst M0 :: (G1 ++ ([.lst X3, .lst (M0 ++ X3)] ++ (G2 ++ G3))), ?_⟩
  unfold R_law_far_parts
  rw [run_eq (n := 1) _ _ rfl]
  unfold b_law_far_parts
  have hr : r62 (N : Int) := r62_of (by omega) (by omega)
  have hnil : machD nilM = .tup [.tup [.int 0, .int 0, .int 0]] := rfl
  have hMl : M0.length + 3 ≤ LINE := by rw [LINE_eq]; simp [M0]; omega
  rw [hnil] at ea eb
  simp only [machD, ← hM] at ea eb
  have g0 : ∀ (X : List D) (T : Store), (S ++ (MO.lst X :: T))[S.length]? = some (.lst X) := fun X T => by rw [gtx0]; rfl
  have e1 : T1 = S ++ (.lst M0 :: G1) := rfl
  have hat1 : ∀ L : Store, (S ++ (MO.lst M0 :: (G1 ++ L)))[S.length + (G1.length + 1)]? = L[0]? := fun L => by rw [gtx, List.getElem?_cons_succ, gtx0]
  have hat2 : ∀ (x : MO) (L : Store), (S ++ (MO.lst M0 :: (G1 ++ (x :: L))))[S.length + (G1.length + 1) + 1]? = L[0]? := fun x L => by rw [Nat.add_assoc, gtx, List.getElem?_cons_succ, gtx]; rfl
  rw [e1] at hf2
  simp only [T3, e1] at ea eb
  simp only [List.append_assoc, List.cons_append, List.nil_append] at ea eb hf1 hf2
  have hf1' : forL (fun _ => True) (gName 4) (lb_law_far_parts_1 R_law_cell) ((List.range N).map fun (k : Nat) => D.int k) [some (.fl (ns.map .int)), some (.int N), some (.int 1), some (.ref S.length), none, none, none] (S ++ [.lst []]) = some (.nx [some (.fl (ns.map .int)), some (.int N), some (.int 1), some (.ref S.length), o4, o5, none] (S ++ (.lst M0 :: G1))) := hf1
  have hat3 : ∀ (x y : MO) (L : Store), (S ++ (MO.lst M0 :: (G1 ++ (x :: y :: L))))[S.length + (G1.length + 1 + 1)]? = some y := fun x y L => by rw [gtx, Nat.add_assoc, ← Nat.add_assoc, List.getElem?_cons_succ, gtx]; rfl
  clear_value M0 b
  simp only [X3] at ea eb
  have hN' : c21 % 60 = (N : Int) := hN
  simp [h21, hN', hr, hf1', hf2, -getElem?_pos, List.getElem?_cons_zero, List.getElem?_cons_succ, g0, hat1, hat2, hat3, hMl, ea, eb, eq_un, X3]
/-! ### the second machine -/
theorem set_mach {m : List Q} (M : Mach m) {a : Nat} (ha : a < m.length) {x : Nat} (hx : x < m.length) : Mach (m.set a ⟨(stq m a).s, (stq m a).e, x⟩) := by
  have hma := Mach.mem (m := m) ha
  have hs : ∀ i p, (m.set a ⟨(stq m a).s, (stq m a).e, x⟩)[i]? = some p → p.s = (stq m i).s ∧ p.e = (stq m i).e ∧ (p.o = (stq m i).o ∨ p.o = x) := fun i p h => by
    by_cases c : a = i
    · subst c
      rw [List.getElem?_set_self ha] at h
      cases h
      exact ⟨rfl, rfl, .inr rfl⟩
    · rw [List.getElem?_set_ne c] at h
      have : stq m i = p := by simp [stq, List.getD_eq_getElem?_getD, h]
      rw [this]
      exact ⟨rfl, rfl, .inl rfl⟩
  have all : ∀ q ∈ m.set a ⟨(stq m a).s, (stq m a).e, x⟩, ∃ i, i < m.length ∧ (m.set a ⟨(stq m a).s, (stq m a).e, x⟩)[i]? = some q := fun q hq => by
    obtain ⟨i, hi⟩ := List.getElem?_of_mem hq
    exact ⟨i, by simpa using (List.getElem?_eq_some_iff.mp hi).1, hi⟩
  have hl : (m.set a ⟨(stq m a).s, (stq m a).e, x⟩).length = m.length := by simp
  refine ⟨by rw [hl]; exact M.pos, fun q hq => ?_, fun q hq => ?_, fun q hq p hp => ?_, fun q hq => ?_⟩
  · obtain ⟨i, hi, h⟩ := all q hq
    rw [hl, (hs i q h).2.1]
    exact M.he _ (Mach.mem hi)
  · obtain ⟨i, hi, h⟩ := all q hq
    rw [hl]
    rcases (hs i q h).2.2 with e | e
    · rw [e]; exact M.ho _ (Mach.mem hi)
    · rw [e]; exact hx
  · obtain ⟨i, hi, h⟩ := all q hq
    obtain ⟨a1, a2, _⟩ := hs i q h
    obtain ⟨b1, _, _⟩ := hs q.e p hp
    rw [a1, b1, a2]
    exact M.hs _ (Mach.mem hi) _ (Mach.at (M.he _ (Mach.mem hi)))
  · obtain ⟨i, hi, h⟩ := all q hq
    rw [(hs i q h).1]
    exact M.h9 _ (Mach.mem hi)
theorem cut_dropN {α : Type} (xs : List α) (v : Nat) : cut xs (some ((v : Int) + 1)) none = xs.drop (v + 1) := by
  unfold cut sIx
  have h : ¬ (v : Int) + 1 < 0 := by omega
  simp only [h, if_false]
  have e : ((v : Int) + 1).toNat = v + 1 := by omega
  rw [e]
  by_cases c : v + 1 ≤ xs.length
  · rw [Nat.min_eq_left c]
    exact List.take_of_length_le (by simp)
  · rw [Nat.min_eq_right (by omega), List.drop_of_length_le (Nat.le_refl _), List.drop_of_length_le (by omega)]
    simp
theorem s_law_other {ns : List Int} (hl : ns.length ≤ 63) {m : List Q} (M : Mach m) (hm : m.length ≤ 10) (S : Store) : ∃ m' G, R_law_other [.fl (ns.map .int), machD m] S = some (.ok (machD m') (S ++ G)) ∧ Mach m' ∧ m'.length ≤ 20 := by
  obtain ⟨c, hc, c0, c1⟩ := s_law_cellU hl (k := 20) (by decide) (by decide)
  obtain ⟨w, hw, hw2⟩ := mod_nat c (m := 3) (by decide)
  obtain ⟨ma, Ga, ea, Ma, hma, _⟩ := s_law_machine hl (st := 6) (most := 10) (by decide) (by decide) (by decide) (by decide) S
  obtain ⟨mb, Gb, eb, Mb, hmb⟩ := s_law_doubled hl M (by omega) S
  unfold R_law_other
  rw [run_eq (n := 2) _ _ rfl]
  unfold b_law_other
  rcases (show w = 0 ∨ w = 1 ∨ w = 2 by omega) with rfl | rfl | rfl
  · refine ⟨ma, Ga, ?_, Ma, by omega⟩
    simp at hw
    simp [hc, hw, ea]
  · refine ⟨mb, Gb, ?_, Mb, by omega⟩
    simp at hw
    simp [hc, hw, eb]
  · have hbp := Mb.pos
    obtain ⟨a, ha, ha2⟩ := mod_nat (c / 3) (m := (mb.length : Int)) (by omega)
    obtain ⟨x, hx, hx2⟩ := mod_nat (c / 90) (m := (mb.length : Int)) (by omega)
    have hal : a < mb.length := by omega
    have hxl : x < mb.length := by omega
    refine ⟨mb.set a ⟨(stq mb a).s, (stq mb a).e, x⟩, Gb, ?_, set_mach Mb hal hxl, by simp; omega⟩
    have at' : atI (mb.map Q.d) (a : Int) = some (.tup [.int (stq mb a).s, .int (stq mb a).e, .int (stq mb a).o]) := at_state hal
    have hset : (mb.map Q.d).take a ++ ([D.tup [.int (stq mb a).s, .int (stq mb a).e, .int x]] ++ (mb.map Q.d).drop (a + 1)) = (mb.set a ⟨(stq mb a).s, (stq mb a).e, x⟩).map Q.d := by
      rw [List.set_eq_take_append_cons_drop, if_pos hal]
      simp [List.map_take, List.map_drop, Q.d]
    simp at hw
    have hll : (mb.map Q.d).length = mb.length := by simp
    have k1 : min a mb.length + 1 ≤ LINE := by rw [LINE_eq]; omega
    have k2 : min a mb.length + 1 + (mb.length - (a + 1)) ≤ LINE := by rw [LINE_eq]; omega
    simp at hset
    simp [hc, hw, eb, hbp, ha, at', hx, slD, cut_take, cut_dropN, k1, k2, hset]
/-! ### a pairing looked at -/
theorem lp_body {m1 m2 : List Q} {r : Nat} {row : List PP} {S : Store} (hr : S[r]? = some (.lst (row.map pD))) {p : PP} (hg : goodP m1 m2 row p) :
    lb_law_pairing_1 [some (machD m1), some (machD m2), some (.ref r), some (.int p.1), some (.int p.2)] S = some (.nx [some (machD m1), some (machD m2), some (.ref r), some (.int p.1), some (.int p.2)] S) := by
  obtain ⟨c1, c2, c3, c4, c5⟩ := hg
  have a1 := at_state c1
  have a2 := at_state c2
  have eA : (D.tup [.int (stq m1 p.1).e, .int (stq m2 p.2).e]) = pD (nx1 m1 m2 p) := rfl
  have eB : (D.tup [.int (stq m1 p.1).o, .int (stq m2 p.2).o]) = pD (nx2 m1 m2 p) := rfl
  have n1 := ni_p (nx1 m1 m2 p) hr
  have n2 := ni_p (nx2 m1 m2 p) hr
  simp [lb_law_pairing_1, a1, a2, q_s, q_e, q_o, c3, eA, eB, n1, n2, c4, c5]
theorem s_law_pairing {m1 m2 : List Q} {r : Nat} {row : List PP} {S : Store} (hr : S[r]? = some (.lst (row.map pD))) (h0 : (0, 0) ∈ row) (hg : ∀ p ∈ row, goodP m1 m2 row p) : R_law_pairing [machD m1, machD m2, .ref r] S = some (.ok (.bl true) S) := by
  have n0 := ni_p (0, 0) hr
  have e0 : D.tup [.int 0, .int 0] = pD (0, 0) := rfl
  have key := forL_inv (chk := fun S' => S'[r]? = some (.lst (row.map pD))) (g := gTup [gName 3, gName 4]) (b := lb_law_pairing_1) (fun ρ S' => S' = S ∧ ∃ x y, ρ = [some (machD m1), some (machD m2), some (.ref r), x, y]) (fun ρ S' h => by rw [h.1]; exact hr) (row.map pD) (by
    rintro d hd ρ S' ⟨rfl, x, y, rfl⟩
    obtain ⟨p, hp, rfl⟩ := List.mem_map.mp hd
    exact ⟨_, _, rfl, _, _, lp_body hr (hg p hp), rfl, _, _, rfl⟩) [some (machD m1), some (machD m2), some (.ref r), none, none] S ⟨rfl, _, _, rfl⟩
  obtain ⟨ρ', S', h, rfl, x, y, rfl⟩ := key
  unfold R_law_pairing
  rw [run_eq (n := 3) _ _ rfl]
  unfold b_law_pairing
  have hi := isi_ref hr .list
  simp [-getElem?_pos, List.getElem?_cons_zero, List.getElem?_cons_succ, hi, e0, n0, h0, hr, h]
/-! ### the law -/
theorem pdL_ints (g : Nat → Option PD) : ∀ is : List Nat, pdL g (is.map fun (k : Nat) => D.int k) = some (is.map fun (k : Nat) => PD.int k)
  | [] => rfl
  | i :: is => by rw [List.map_cons, pdL, pdL_ints g is]; simp [D.pd]
theorem depL_ints : ∀ is : List Nat, depL (is.map fun (k : Nat) => PD.int k) = 0
  | [] => by simp [depL]
  | i :: is => by rw [List.map_cons, depL, depL_ints is]; simp [PD.dep]
theorem dat_ints {S : Store} {n : Nat} {is : List Nat} (h : S[n]? = some (.lst (is.map fun (k : Nat) => D.int k))) : dat S (.ref n) = some (.lst (is.map fun (k : Nat) => PD.int k)) := by
  unfold dat
  rw [D.pd, rdR, h]
  dsimp only
  rw [pdL_ints]; rfl
theorem eqv_nil : ∀ is : List Nat, (PD.lst (is.map fun (k : Nat) => PD.int k)).eqv (.lst []) = is.isEmpty
  | [] => by simp [PD.eqv, eqvL]
  | i :: is => by simp [PD.eqv, eqvL]
theorem dep_nil {is : List Nat} : (PD.lst (is.map fun (k : Nat) => PD.int k)).dep ≤ 64 ∧ (PD.lst []).dep ≤ 64 := ⟨by simp [PD.dep, depL_ints], by simp [PD.dep, depL]⟩
theorem eq_nilN {S : Store} {a b : Nat} {is : List Nat} (h : S[a]? = some (.lst (is.map fun (k : Nat) => D.int k))) (h' : S[b]? = some (.lst [])) : eqD (.ref a) (.ref b) S = some (.ok (.bl is.isEmpty) S) := by
  unfold eqD
  rw [dat_ints h, dat_ints (is := []) h']
  dsimp only
  rw [List.map_nil, if_pos dep_nil, eqv_nil]
theorem ne_nilN {S : Store} {a b : Nat} {is : List Nat} (h : S[a]? = some (.lst (is.map fun (k : Nat) => D.int k))) (h' : S[b]? = some (.lst [])) : neD (.ref a) (.ref b) S = some (.ok (.bl (!is.isEmpty)) S) := by
  unfold neD
  rw [dat_ints h, dat_ints (is := []) h']
  dsimp only
  rw [List.map_nil, if_pos dep_nil, eqv_nil]
def partU (m1 m2 : List Q) : List Nat := (List.range 200).filter fun n => decide (sgn m1 0 n ≠ sgn m2 0 n)
theorem partU_none {m1 m2 : List Q} (h : ∀ k, sgn m1 0 k = sgn m2 0 k) : partU m1 m2 = [] := by
  unfold partU
  rw [List.filter_eq_nil_iff]
  intro n _
  simp [h n]
/-- the first of them -/
theorem partU_first {m1 m2 : List Q} {n : Nat} (h : sgn m1 0 n ≠ sgn m2 0 n) (hk : ∀ k, k < n → sgn m1 0 k = sgn m2 0 k) : (200 ≤ n ∧ partU m1 m2 = []) ∨ ∃ t, partU m1 m2 = n :: t := by
  by_cases c : n < 200
  · right
    obtain ⟨t, ht⟩ : ∃ t, List.range 200 = List.range n ++ n :: t := by
      have h1 : (List.range 200).take n = List.range n := by rw [List.take_range]; congr 1; omega
      have h2 : (List.range 200).drop n = n :: (List.range 200).drop (n + 1) := by
        rw [List.drop_eq_getElem_cons (by simpa using c)]
        simp
      exact ⟨(List.range 200).drop (n + 1), by rw [← h2, ← h1, List.take_append_drop]⟩
    refine ⟨t.filter fun n => decide (sgn m1 0 n ≠ sgn m2 0 n), ?_⟩
    unfold partU
    rw [ht, List.filter_append, List.filter_cons]
    have e1 : (List.range n).filter (fun n => decide (sgn m1 0 n ≠ sgn m2 0 n)) = [] := by
      rw [List.filter_eq_nil_iff]
      intro k hkk
      simp [hk k (List.mem_range.mp hkk)]
    rw [e1]
    simp [h]
  · left
    refine ⟨by omega, ?_⟩
    unfold partU
    rw [List.filter_eq_nil_iff]
    intro k hkk
    have := List.mem_range.mp hkk
    simp [hk k (by omega)]
theorem s_law_v22 (ns : List Int) (hl : ns.length ≤ 63) : ∃ S', R_law_v22 [.fl (ns.map .int)] [] = some (.ok (.bl true) S') := by
  obtain ⟨c23, h23, a23, b23⟩ := s_law_cellU hl (k := 23) (by decide) (by decide)
  obtain ⟨Gf, hf⟩ := s_law_far_parts hl []
  let A : Store := if c23 % 3 = 0 then [] ++ Gf else []
  obtain ⟨m1, G1, e1, M1, hm1, _⟩ := s_law_machine hl (st := 0) (most := 10) (by decide) (by decide) (by decide) (by decide) A
  obtain ⟨m2, G2, x2, M2, hm2⟩ := s_law_other hl M1 (by omega) (A ++ G1)
  obtain ⟨T, hT⟩ : ∃ T, T = A ++ G1 ++ G2 := ⟨_, rfl⟩
  rw [← hT] at x2
  have first : ∀ (F : SS), F = sIf (tAnd (tVal (e2 eqD (e2 modD (eCall R_law_cell [eVar 0, eC (.int 23)]) (eC (.int 3))) (eC (.int 0)))) (tNot (tVal (eCall R_law_far_parts [eVar 0])))) (sRet (eC (.bl false))) (sNx) → F [some (.fl (ns.map .int)), none, none, none, none, none] [] = some (.nx [some (.fl (ns.map .int)), none, none, none, none, none] A) := by
    rintro F rfl
    by_cases c : c23 % 3 = 0
    · have eA : A = Gf := by simp [A, c]
      rw [eA]
      simp at hf
      simp [h23, c, hf]
    · have eA : A = [] := by simp [A, c]
      rw [eA]
      simp [h23, c]
  have first := first _ rfl
  have lc : ∀ (ρ3 : D) (Z : Store), lcL (fun _ => True) (gName 5) (tVal (e2 neD (eCall R_law_sign [eVar 1, eVar 5]) (eCall R_law_sign [eVar 2, eVar 5]))) (eVar 5) Z.length ((List.range 200).map fun (k : Nat) => D.int k) [some (.fl (ns.map .int)), some (machD m1), some (machD m2), some ρ3, none, none] (Z ++ [.lst []]) = some (.ok (.ref Z.length) (Z ++ [.lst ((partU m1 m2).map fun (k : Nat) => D.int k)])) := fun ρ3 Z => by
    have h := lcL_filter (chk := fun _ => True) (g := gName 5) (t := tVal (e2 neD (eCall R_law_sign [eVar 1, eVar 5]) (eCall R_law_sign [eVar 2, eVar 5]))) (e := eVar 5) (S := Z) (ρ := [some (.fl (ns.map .int)), some (machD m1), some (machD m2), some ρ3, none, none])
      (fun d => match d with | .int j => decide (sgn m1 0 j.toNat ≠ sgn m2 0 j.toNat) | _ => false) id ((List.range 200).map fun (j : Nat) => .int j) [] (by rw [LINE_eq]; decide) (fun _ => trivial) (fun y hy acc => by
        obtain ⟨j, hj, rfl⟩ := List.mem_map.mp hy
        refine ⟨_, rfl, ?_, fun _ => rfl⟩
        have q1 := s_law_sign M1 j (Z ++ [.lst acc])
        have q2 := s_law_sign M2 j (Z ++ [.lst acc])
        simp [q1, q2]
        omega)
    have e : (((List.range 200).map fun (j : Nat) => D.int j).filter fun d => match d with | .int j => decide (sgn m1 0 j.toNat ≠ sgn m2 0 j.toNat) | _ => false) = (partU m1 m2).map fun (j : Nat) => D.int j := by
      simp [partU, List.filter_map, Function.comp_def]
    rw [e, List.nil_append, List.map_id] at h
    exact h
  unfold R_law_v22
  rw [run_eq (n := 1) _ _ rfl]
  unfold b_law_v22
  have r200 : r62 (200 : Int) := r62_of (by decide) (by decide)
  rw [x_sq]
  simp only [List.map_cons, List.map_nil, List.replicate, List.cons_append, List.nil_append]
  rcases s_alike M1 M2 (by omega) (by omega) T with ⟨G3, n, ea, hd, hk⟩ | ⟨G3, r, row, ea, hr, R, hs, hsg⟩
  · let Z : Store := T ++ G3
    have lc1 := lc (.tup [.str [117, 110, 108, 105, 107, 101], .int n]) Z
    have u1 : (Z ++ [MO.lst ((partU m1 m2).map fun (k : Nat) => D.int k), .lst []])[Z.length]? = some (.lst ((partU m1 m2).map fun (k : Nat) => D.int k)) := by rw [gtx0]; rfl
    have u2 : (Z ++ [MO.lst ((partU m1 m2).map fun (k : Nat) => D.int k), .lst []])[Z.length + 1]? = some (.lst []) := by rw [gtx]; rfl
    have ne := ne_nilN u1 u2
    have sg1 := s_law_sign M1 n (Z ++ [.lst ((partU m1 m2).map fun (k : Nat) => D.int k)])
    have sg2 := s_law_sign M2 n (Z ++ [.lst ((partU m1 m2).map fun (k : Nat) => D.int k)])
    have hd' : ¬ ((sgn m1 0 n : Nat) : Int) = (sgn m2 0 n : Nat) := by omega
    have ea' : R_alike [machD m1, machD m2] T = some (.ok (.tup [.str [117, 110, 108, 105, 107, 101], .int n]) Z) := ea
    have at1 : ∀ (x y : D), atI [x, y] 1 = some y := fun x y => atI_nat (k := 1) rfl
    clear_value Z A
    rcases partU_first hd hk with ⟨h2, hp⟩ | ⟨t, hp⟩
    · rw [hp] at lc1 ne sg1 sg2
      simp at lc1 ne sg1 sg2
      rw [first]
      simp [-getElem?_pos, List.getElem?_cons_zero, List.getElem?_cons_succ, gtx, gtx0, e1, x2, ea', r200, wipe, lc1, ne, sg1, sg2, hd', at0, at1]
      omega
    · rw [hp] at lc1 ne sg1 sg2
      simp at lc1 ne sg1 sg2
      rw [first]
      simp [-getElem?_pos, List.getElem?_cons_zero, List.getElem?_cons_succ, gtx, gtx0, e1, x2, ea', r200, wipe, lc1, ne, sg1, sg2, hd', at0, at1]
  · let Z : Store := T ++ G3
    have lc1 := lc (.tup [.str [97, 108, 105, 107, 101], .ref r]) Z
    have u1 : (Z ++ [MO.lst ((partU m1 m2).map fun (k : Nat) => D.int k), .lst []])[Z.length]? = some (.lst ((partU m1 m2).map fun (k : Nat) => D.int k)) := by rw [gtx0]; rfl
    have u2 : (Z ++ [MO.lst ((partU m1 m2).map fun (k : Nat) => D.int k), .lst []])[Z.length + 1]? = some (.lst []) := by rw [gtx]; rfl
    have eq := eq_nilN u1 u2
    have hr2 : (Z ++ [MO.lst ((partU m1 m2).map fun (k : Nat) => D.int k), .lst []])[r]? = some (.lst (row.map pD)) := get_app hr _
    have pr := s_law_pairing (m1 := m1) (m2 := m2) hr2 R.zero fun p hp => ⟨(R.bd p hp).1, (R.bd p hp).2, hsg p hp, (R.closed hp).1, (R.closed hp).2⟩
    have ea' : R_alike [machD m1, machD m2] T = some (.ok (.tup [.str [97, 108, 105, 107, 101], .ref r]) Z) := ea
    have at1 : ∀ (x y : D), atI [x, y] 1 = some y := fun x y => atI_nat (k := 1) rfl
    clear_value Z A
    rw [partU_none hs] at lc1 eq pr
    simp at lc1 eq pr
    rw [first]
    simp [-getElem?_pos, List.getElem?_cons_zero, List.getElem?_cons_succ, gtx, gtx0, e1, x2, ea', r200, wipe, lc1, eq, pr, at0, at1]
end Z
namespace Z
section
open PySem PySem.Spec PyProof.Rows L2
def top (i : Nat) : Stmt := PySem.Challenge.pw_zipspring_k30_alike_or_parted.main.body.getD i (.Pass ⟨0, 0, 0, 0⟩)
variable {P : Program} {w : World} {K : PySem.W.Frag} {mg : Mg} {base : Heap}
abbrev st_pairs_met : Stmt := top 1
theorem sc_pairs_met : FnScope ["one", "other", "found", "row", "at", "here", "there", "pair"] ["one", "other"] (defScope st_pairs_met) := ⟨rfl, rfl, rfl, by decide +kernel, rfl, by decide +kernel, by decide +kernel⟩
theorem ok_pairs_met {f : Addr} {fd : FuncData} (Fu : Fun K "pairs_met" "pairs_met" st_pairs_met f fd) (m_len : mg "len" = none) : FnOk P w K mg base (L2.CX P w) 1 f fd ["one", "other"] (spF K mg R_pairs_met) :=
  fn_run Fu sc_pairs_met rfl fun cdv A outer s H E hr => gss_cons (gs_set 2 sc_pairs_met.nd (ge_dct1 hr.u3 (ge_tup (ga_cons (ge_int) (ga_cons (ge_int) (ga_nil)))) (ge_bl))) (gss_cons (gs_set 3 sc_pairs_met.nd (ge_lst (ga_cons (ge_tup (ga_cons (ge_int) (ga_cons (ge_int) (ga_nil)))) (ga_nil)))) (gss_cons (gs_set 4 sc_pairs_met.nd (ge_int)) (gss_cons (gs_while (passes_of rfl) (gt_cmp no_lt zo_lt (ge_var 4) (ge_callB no_len zc_len rfl m_len (by decide +kernel) (ga_cons (ge_var 3) (ga_nil)))) (gss_cons (gs_set 5 sc_pairs_met.nd (ge_ix (ge_var 0) (ge_ix (ge_ix (ge_var 3) (ge_var 4)) (ge_int)))) (gss_cons (gs_set 6 sc_pairs_met.nd (ge_ix (ge_var 1) (ge_ix (ge_ix (ge_var 3) (ge_var 4)) (ge_int)))) (gss_cons (gs_for (passes_of rfl) rfl (gi_any (ge_lst (ga_cons (ge_tup (ga_cons (ge_ix (ge_var 5) (ge_int)) (ga_cons (ge_ix (ge_var 6) (ge_int)) (ga_nil)))) (ga_cons (ge_tup (ga_cons (ge_ix (ge_var 5) (ge_int)) (ga_cons (ge_ix (ge_var 6) (ge_int)) (ga_nil)))) (ga_nil))))) (gg_name 7 sc_pairs_met.nd) (gss_one (gs_if (gt_kni hr.u1 (ge_var 7) (ge_var 2)) (gss_cons (gs_kput hr.u1 (ge_bl) (ge_var 2) (ge_var 7)) (gss_one (gs_expr (ge_mt .list no_append PySem.F.plainAttrs_list PySem.F.slot_list_append PySem.F.type_list_append zm_append (ge_var 3) (ga_cons (ge_var 7) (ga_nil)))))) (gss_nil)))) (gss_one (gs_set 4 sc_pairs_met.nd (ge_op no_add zo_add (ge_var 4) (ge_int)))))))) (gss_one (gs_ret (ge_var 3))))))
abbrev st_least_places : Stmt := top 2
theorem sc_least_places : FnScope ["nexts", "marked", "places", "changed", "state", "even", "odd", "there", "bit", "place"] ["nexts", "marked"] (defScope st_least_places) := ⟨rfl, rfl, rfl, by decide +kernel, rfl, by decide +kernel, by decide +kernel⟩
theorem ok_least_places {f : Addr} {fd : FuncData} (Fu : Fun K "least_places" "least_places" st_least_places f fd) (m_dict : mg "dict" = none) : FnOk P w K mg base (L2.CX P w) 1 f fd ["nexts", "marked"] (spF K mg R_least_places) :=
  fn_run Fu sc_least_places rfl fun cdv A outer s H E hr => gss_cons (gs_set 2 sc_least_places.nd (ge_callTy no_dict (zc_dictT rfl hr.u3) rfl m_dict (by decide +kernel) (ga_cons (ge_lc [("state", 4)] rfl sc_least_places.nd (gi_any (ge_var 1)) (blkOk_by rfl) (fun _ _ _ _ _ => gg_name 4 sc_least_places.nd) (fun _ _ _ _ _ => gts_nil) (fun _ _ _ _ _ => ge_tup (ga_cons (ge_var 4) (ga_cons (ge_int) (ga_nil))))) (ga_nil)))) (gss_cons (gs_set 3 sc_least_places.nd (ge_bl)) (gss_cons (gs_while (passes_of rfl) (gt_val (ge_var 3)) (gss_cons (gs_set 3 sc_least_places.nd (ge_bl)) (gss_one (gs_lock 0 (gs_for (passes_of rfl) rfl (gi_keyD (ge_var 0)) (gg_name 4 sc_least_places.nd) (gss_cons (gs_asg (ge_kget hr.u1 (ge_var 0) (ge_var 4)) (gg_tup rfl (ggs_cons (gg_name 5 sc_least_places.nd) (ggs_cons (gg_name 6 sc_least_places.nd) (ggs_nil))))) (gss_one (gs_for (passes_of rfl) rfl (gi_any (ge_lst (ga_cons (ge_tup (ga_cons (ge_var 5) (ga_cons (ge_int) (ga_nil)))) (ga_cons (ge_tup (ga_cons (ge_var 6) (ga_cons (ge_int) (ga_nil)))) (ga_nil))))) (gg_tup rfl (ggs_cons (gg_name 7 sc_least_places.nd) (ggs_cons (gg_name 8 sc_least_places.nd) (ggs_nil)))) (gss_one (gs_if (gt_kin hr.u1 (ge_var 7) (ge_var 2)) (gss_cons (gs_set 9 sc_least_places.nd (ge_op no_add zo_add (ge_op no_mul zo_mul (ge_int) (ge_kget hr.u1 (ge_var 2) (ge_var 7))) (ge_var 8))) (gss_one (gs_if (GW.gt (gw_or (gt_kni hr.u1 (ge_var 4) (ge_var 2)) (gw_or1 (gt_cmp no_lt zo_lt (ge_var 9) (ge_kget hr.u1 (ge_var 2) (ge_var 4)))))) (gss_cons (gs_kput hr.u1 (ge_var 9) (ge_var 2) (ge_var 4)) (gss_one (gs_set 3 sc_least_places.nd (ge_bl)))) (gss_nil)))) (gss_nil))))))))))) (gss_one (gs_ret (ge_var 2)))))
abbrev st_law_cell : Stmt := top 5
theorem sc_law_cell : FnScope ["script", "k", "near"] ["script", "k"] (defScope st_law_cell) := ⟨rfl, rfl, rfl, by decide +kernel, rfl, by decide +kernel, by decide +kernel⟩
theorem ok_law_cell {f : Addr} {fd : FuncData} (Fu : Fun K "_law_cell" "_law_cell" st_law_cell f fd) (m_len : mg "len" = none) : FnOk P w K mg base (L2.CX P w) 1 f fd ["script", "k"] (spF K mg R_law_cell) :=
  fn_run Fu sc_law_cell rfl fun cdv A outer s H E hr => gss_cons (gs_if (gt_cmp no_lt zo_lt (ge_var 1) (ge_callB no_len zc_len rfl m_len (by decide +kernel) (ga_cons (ge_var 0) (ga_nil)))) (gss_one (gs_ret (ge_op no_mod zo_mod (ge_ix (ge_var 0) (ge_var 1)) (ge_op no_pow zo_pow (ge_int) (ge_int))))) (gss_nil)) (gss_cons (gs_set 2 sc_law_cell.nd (ge_op no_add zo_add (ge_int) (ge_op no_mul zo_mul (ge_op no_mul zo_mul (ge_int) (ge_var 1)) (ge_var 1)))) (gss_cons (gs_if (gt_cmp no_gt zo_gt (ge_callB no_len zc_len rfl m_len (by decide +kernel) (ga_cons (ge_var 0) (ga_nil))) (ge_int)) (gss_one (gs_set 2 sc_law_cell.nd (ge_op no_add zo_add (ge_var 2) (ge_op no_mul zo_mul (ge_op no_mod zo_mod (ge_ix (ge_var 0) (ge_op no_mod zo_mod (ge_var 1) (ge_callB no_len zc_len rfl m_len (by decide +kernel) (ga_cons (ge_var 0) (ga_nil))))) (ge_int)) (ge_op no_add zo_add (ge_var 1) (ge_int)))))) (gss_nil)) (gss_cons (gs_set 2 sc_law_cell.nd (ge_op no_mod zo_mod (ge_op no_mul zo_mul (ge_var 2) (ge_int)) (ge_int))) (gss_one (gs_ret (ge_op no_fdiv zo_fdiv (ge_op no_mod zo_mod (ge_op no_pow zo_pow (ge_var 2) (ge_int)) (ge_int)) (ge_int)))))))
abbrev st_law_sign : Stmt := top 7
theorem sc_law_sign : FnScope ["machine", "n", "state"] ["machine", "n"] (defScope st_law_sign) := ⟨rfl, rfl, rfl, by decide +kernel, rfl, by decide +kernel, by decide +kernel⟩
theorem ok_law_sign {f : Addr} {fd : FuncData} (Fu : Fun K "_law_sign" "_law_sign" st_law_sign f fd)  : FnOk P w K mg base (L2.CX P w) 1 f fd ["machine", "n"] (spF K mg R_law_sign) :=
  fn_run Fu sc_law_sign rfl fun cdv A outer s H E hr => gss_cons (gs_set 2 sc_law_sign.nd (ge_int)) (gss_cons (gs_while (passes_of rfl) (gt_cmp no_gt zo_gt (ge_var 1) (ge_int)) (gss_cons (gs_set 2 sc_law_sign.nd (ge_ix (ge_ix (ge_var 0) (ge_var 2)) (ge_op no_add zo_add (ge_int) (ge_op no_mod zo_mod (ge_var 1) (ge_int))))) (gss_one (gs_set 1 sc_law_sign.nd (ge_op no_fdiv zo_fdiv (ge_var 1) (ge_int)))))) (gss_one (gs_ret (ge_ix (ge_ix (ge_var 0) (ge_var 2)) (ge_int)))))
abbrev st_law_pairing : Stmt := top 10
theorem sc_law_pairing : FnScope ["one", "other", "pairs", "here", "there"] ["one", "other", "pairs"] (defScope st_law_pairing) := ⟨rfl, rfl, rfl, by decide +kernel, rfl, by decide +kernel, by decide +kernel⟩
theorem ok_law_pairing {f : Addr} {fd : FuncData} (Fu : Fun K "_law_pairing" "_law_pairing" st_law_pairing f fd) (m_isinstance : mg "isinstance" = none) (m_list : mg "list" = none) : FnOk P w K mg base (L2.CX P w) 1 f fd ["one", "other", "pairs"] (spF K mg R_law_pairing) :=
  fn_run Fu sc_law_pairing rfl fun cdv A outer s H E hr => gss_cons (gs_if (GW.gt (gw_or (gt_not (gt_val (ge_isi .list (ge_var 2) rfl m_isinstance (by decide +kernel) rfl m_list (by decide +kernel)))) (gw_or1 (gt_cmp no_nin (zo_nin hr.u65) (ge_tup (ga_cons (ge_int) (ga_cons (ge_int) (ga_nil)))) (ge_var 2))))) (gss_one (gs_ret (ge_bl))) (gss_nil)) (gss_cons (gs_for (passes_of rfl) rfl (gi_any (ge_var 2)) (gg_tup rfl (ggs_cons (gg_name 3 sc_law_pairing.nd) (ggs_cons (gg_name 4 sc_law_pairing.nd) (ggs_nil)))) (gss_cons (gs_if (gt_cmp no_ne (zo_ne hr.units) (ge_ix (ge_ix (ge_var 0) (ge_var 3)) (ge_int)) (ge_ix (ge_ix (ge_var 1) (ge_var 4)) (ge_int))) (gss_one (gs_ret (ge_bl))) (gss_nil)) (gss_one (gs_if (GW.gt (gw_or (gt_cmp no_nin (zo_nin hr.u65) (ge_tup (ga_cons (ge_ix (ge_ix (ge_var 0) (ge_var 3)) (ge_int)) (ga_cons (ge_ix (ge_ix (ge_var 1) (ge_var 4)) (ge_int)) (ga_nil)))) (ge_var 2)) (gw_or1 (gt_cmp no_nin (zo_nin hr.u65) (ge_tup (ga_cons (ge_ix (ge_ix (ge_var 0) (ge_var 3)) (ge_int)) (ga_cons (ge_ix (ge_ix (ge_var 1) (ge_var 4)) (ge_int)) (ga_nil)))) (ge_var 2))))) (gss_one (gs_ret (ge_bl))) (gss_nil))))) (gss_one (gs_ret (ge_bl))))
abbrev st_alike : Stmt := top 3
theorem sc_alike : FnScope ["one", "other", "pairs", "nexts", "here", "there", "marked", "places", "pair"] ["one", "other"] (defScope st_alike) := ⟨rfl, rfl, rfl, by decide +kernel, rfl, by decide +kernel, by decide +kernel⟩
theorem ok_alike {f : Addr} {fd : FuncData} (Fu : Fun K "alike" "alike" st_alike f fd) (g_pairs_met : GF P w K mg base "pairs_met" 1 R_pairs_met) (g_least_places : GF P w K mg base "least_places" 1 R_least_places) : FnOk P w K mg base (L2.CX P w) 2 f fd ["one", "other"] (spF K mg R_alike) :=
  fn_run Fu sc_alike rfl fun cdv A outer s H E hr => gss_cons (gs_set 2 sc_alike.nd (ge_call g_pairs_met (hr.mono (by omega)) (takes_of rfl rfl rfl rfl) rfl (ga_cons (ge_var 0) (ga_cons (ge_var 1) (ga_nil))))) (gss_cons (gs_set 3 sc_alike.nd (ge_dctT)) (gss_cons (gs_for (passes_of rfl) rfl (gi_any (ge_var 2)) (gg_tup rfl (ggs_cons (gg_name 4 sc_alike.nd) (ggs_cons (gg_name 5 sc_alike.nd) (ggs_nil)))) (gss_one (gs_kput hr.u1 (ge_tup (ga_cons (ge_tup (ga_cons (ge_ix (ge_ix (ge_var 0) (ge_var 4)) (ge_int)) (ga_cons (ge_ix (ge_ix (ge_var 1) (ge_var 5)) (ge_int)) (ga_nil)))) (ga_cons (ge_tup (ga_cons (ge_ix (ge_ix (ge_var 0) (ge_var 4)) (ge_int)) (ga_cons (ge_ix (ge_ix (ge_var 1) (ge_var 5)) (ge_int)) (ga_nil)))) (ga_nil)))) (ge_var 3) (ge_tup (ga_cons (ge_var 4) (ga_cons (ge_var 5) (ga_nil))))))) (gss_cons (gs_setLc 6 [("pair", 8)] rfl sc_alike.nd (gi_any (ge_var 2)) (blkOk_by rfl) (fun _ _ _ _ _ => gg_name 8 sc_alike.nd) (fun _ _ _ _ _ => gts_one (gt_cmp no_ne (zo_ne hr.units) (ge_ix (ge_ix (ge_var 0) (ge_ix (ge_var 8) (ge_int))) (ge_int)) (ge_ix (ge_ix (ge_var 1) (ge_ix (ge_var 8) (ge_int))) (ge_int)))) (fun _ _ _ _ _ => ge_var 8)) (gss_cons (gs_set 7 sc_alike.nd (ge_call g_least_places (hr.mono (by omega)) (takes_of rfl rfl rfl rfl) rfl (ga_cons (ge_var 3) (ga_cons (ge_var 6) (ga_nil))))) (gss_cons (gs_if (gt_kin hr.u1 (ge_tup (ga_cons (ge_int) (ga_cons (ge_int) (ga_nil)))) (ge_var 7)) (gss_one (gs_ret (ge_tup (ga_cons (ge_str) (ga_cons (ge_kget hr.u1 (ge_var 7) (ge_tup (ga_cons (ge_int) (ga_cons (ge_int) (ga_nil))))) (ga_nil)))))) (gss_nil)) (gss_one (gs_ret (ge_tup (ga_cons (ge_str) (ga_cons (ge_var 2) (ga_nil)))))))))))
abbrev st_law_machine : Stmt := top 6
theorem sc_law_machine : FnScope ["script", "start", "most", "cell", "many", "signs", "found", "k", "near", "same", "j"] ["script", "start", "most"] (defScope st_law_machine) := ⟨rfl, rfl, rfl, by decide +kernel, rfl, by decide +kernel, by decide +kernel⟩
theorem ok_law_machine {f : Addr} {fd : FuncData} (Fu : Fun K "_law_machine" "_law_machine" st_law_machine f fd) (g__law_cell : GF P w K mg base "_law_cell" 1 R_law_cell) (m_range : mg "range" = none) (m_len : mg "len" = none) (m_tuple : mg "tuple" = none) : FnOk P w K mg base (L2.CX P w) 2 f fd ["script", "start", "most"] (spF K mg R_law_machine) :=
  fn_run Fu sc_law_machine rfl fun cdv A outer s H E hr => gss_cons (gs_set 3 sc_law_machine.nd (ge_call g__law_cell (hr.mono (by omega)) (takes_of rfl rfl rfl rfl) rfl (ga_cons (ge_var 0) (ga_cons (ge_var 1) (ga_nil))))) (gss_cons (gs_set 4 sc_law_machine.nd (ge_op no_add zo_add (ge_int) (ge_op no_mod zo_mod (ge_var 3) (ge_var 2)))) (gss_cons (gs_set 5 sc_law_machine.nd (ge_lc [("k", 7)] rfl sc_law_machine.nd (gi_r1 (ge_var 4) rfl m_range) (blkOk_by rfl) (fun _ _ _ _ _ => gg_name 7 sc_law_machine.nd) (fun _ _ _ _ _ => gts_nil) (fun _ _ _ _ _ => ge_op no_mod zo_mod (ge_op no_fdiv zo_fdiv (ge_var 3) (ge_op no_add zo_add (ge_int) (ge_op no_mul zo_mul (ge_int) (ge_var 7)))) (ge_op no_add zo_add (ge_int) (ge_op no_mod zo_mod (ge_op no_fdiv zo_fdiv (ge_var 3) (ge_int)) (ge_int)))))) (gss_cons (gs_set 6 sc_law_machine.nd (ge_lst (ga_nil))) (gss_cons (gs_for (passes_of rfl) rfl (gi_r1 (ge_var 4) rfl m_range) (gg_name 7 sc_law_machine.nd) (gss_cons (gs_set 8 sc_law_machine.nd (ge_op no_fdiv zo_fdiv (ge_call g__law_cell (hr.mono (by omega)) (takes_of rfl rfl rfl rfl) rfl (ga_cons (ge_var 0) (ga_cons (ge_op no_add zo_add (ge_op no_add zo_add (ge_var 1) (ge_int)) (ge_op no_fdiv zo_fdiv (ge_var 7) (ge_int))) (ga_nil)))) (ge_op no_add zo_add (ge_int) (ge_op no_mul zo_mul (ge_int) (ge_op no_mod zo_mod (ge_var 7) (ge_int)))))) (gss_cons (gs_setLc 9 [("j", 10)] rfl sc_law_machine.nd (gi_r1 (ge_var 4) rfl m_range) (blkOk_by rfl) (fun _ _ _ _ _ => gg_name 10 sc_law_machine.nd) (fun _ _ _ _ _ => gts_one (gt_cmp no_eq (zo_eq hr.units) (ge_ix (ge_var 5) (ge_var 10)) (ge_ix (ge_var 5) (ge_var 7)))) (fun _ _ _ _ _ => ge_var 10)) (gss_one (gs_expr (ge_mt .list no_append PySem.F.plainAttrs_list PySem.F.slot_list_append PySem.F.type_list_append zm_append (ge_var 6) (ga_cons (ge_tup (ga_cons (ge_ix (ge_var 5) (ge_var 7)) (ga_cons (ge_ix (ge_var 9) (ge_op no_mod zo_mod (ge_var 8) (ge_callB no_len zc_len rfl m_len (by decide +kernel) (ga_cons (ge_var 9) (ga_nil))))) (ga_cons (ge_op no_mod zo_mod (ge_op no_fdiv zo_fdiv (ge_var 8) (ge_int)) (ge_var 4)) (ga_nil))))) (ga_nil)))))))) (gss_one (gs_ret (ge_callTy no_tuple zc_tuple rfl m_tuple (by decide +kernel) (ga_cons (ge_var 6) (ga_nil)))))))))
abbrev st_law_doubled : Stmt := top 8
theorem sc_law_doubled : FnScope ["script", "machine", "many", "found", "k", "sign", "even", "odd", "near"] ["script", "machine"] (defScope st_law_doubled) := ⟨rfl, rfl, rfl, by decide +kernel, rfl, by decide +kernel, by decide +kernel⟩
theorem ok_law_doubled {f : Addr} {fd : FuncData} (Fu : Fun K "_law_doubled" "_law_doubled" st_law_doubled f fd) (g__law_cell : GF P w K mg base "_law_cell" 1 R_law_cell) (m_len : mg "len" = none) (m_range : mg "range" = none) (m_tuple : mg "tuple" = none) : FnOk P w K mg base (L2.CX P w) 2 f fd ["script", "machine"] (spF K mg R_law_doubled) :=
  fn_run Fu sc_law_doubled rfl fun cdv A outer s H E hr => gss_cons (gs_set 2 sc_law_doubled.nd (ge_callB no_len zc_len rfl m_len (by decide +kernel) (ga_cons (ge_var 1) (ga_nil)))) (gss_cons (gs_set 3 sc_law_doubled.nd (ge_lst (ga_nil))) (gss_cons (gs_for (passes_of rfl) rfl (gi_r1 (ge_op no_mul zo_mul (ge_int) (ge_var 2)) rfl m_range) (gg_name 4 sc_law_doubled.nd) (gss_cons (gs_asg (ge_ix (ge_var 1) (ge_op no_mod zo_mod (ge_var 4) (ge_var 2))) (gg_tup rfl (ggs_cons (gg_name 5 sc_law_doubled.nd) (ggs_cons (gg_name 6 sc_law_doubled.nd) (ggs_cons (gg_name 7 sc_law_doubled.nd) (ggs_nil)))))) (gss_cons (gs_set 8 sc_law_doubled.nd (ge_op no_fdiv zo_fdiv (ge_call g__law_cell (hr.mono (by omega)) (takes_of rfl rfl rfl rfl) rfl (ga_cons (ge_var 0) (ga_cons (ge_int) (ga_nil)))) (ge_op no_add zo_add (ge_int) (ge_op no_mul zo_mul (ge_int) (ge_var 4))))) (gss_one (gs_expr (ge_mt .list no_append PySem.F.plainAttrs_list PySem.F.slot_list_append PySem.F.type_list_append zm_append (ge_var 3) (ga_cons (ge_tup (ga_cons (ge_var 5) (ga_cons (ge_op no_add zo_add (ge_var 6) (ge_op no_mul zo_mul (ge_var 2) (ge_op no_mod zo_mod (ge_var 8) (ge_int)))) (ga_cons (ge_op no_add zo_add (ge_var 7) (ge_op no_mul zo_mul (ge_var 2) (ge_op no_mod zo_mod (ge_op no_fdiv zo_fdiv (ge_var 8) (ge_int)) (ge_int)))) (ga_nil))))) (ga_nil)))))))) (gss_one (gs_ret (ge_callTy no_tuple zc_tuple rfl m_tuple (by decide +kernel) (ga_cons (ge_var 3) (ga_nil)))))))
abbrev st_law_other : Stmt := top 9
theorem sc_law_other : FnScope ["script", "one", "cell", "double", "at", "sign", "even", "odd"] ["script", "one"] (defScope st_law_other) := ⟨rfl, rfl, rfl, by decide +kernel, rfl, by decide +kernel, by decide +kernel⟩
theorem ok_law_other {f : Addr} {fd : FuncData} (Fu : Fun K "_law_other" "_law_other" st_law_other f fd) (g__law_cell : GF P w K mg base "_law_cell" 1 R_law_cell) (g__law_machine : GF P w K mg base "_law_machine" 2 R_law_machine) (g__law_doubled : GF P w K mg base "_law_doubled" 2 R_law_doubled) (m_len : mg "len" = none) : FnOk P w K mg base (L2.CX P w) 3 f fd ["script", "one"] (spF K mg R_law_other) :=
  fn_run Fu sc_law_other rfl fun cdv A outer s H E hr => gss_cons (gs_set 2 sc_law_other.nd (ge_call g__law_cell (hr.mono (by omega)) (takes_of rfl rfl rfl rfl) rfl (ga_cons (ge_var 0) (ga_cons (ge_int) (ga_nil))))) (gss_cons (gs_if (gt_cmp no_eq (zo_eq hr.units) (ge_op no_mod zo_mod (ge_var 2) (ge_int)) (ge_int)) (gss_one (gs_ret (ge_call g__law_machine (hr.mono (by omega)) (takes_of rfl rfl rfl rfl) rfl (ga_cons (ge_var 0) (ga_cons (ge_int) (ga_cons (ge_int) (ga_nil))))))) (gss_nil)) (gss_cons (gs_set 3 sc_law_other.nd (ge_call g__law_doubled (hr.mono (by omega)) (takes_of rfl rfl rfl rfl) rfl (ga_cons (ge_var 0) (ga_cons (ge_var 1) (ga_nil))))) (gss_cons (gs_if (gt_cmp no_eq (zo_eq hr.units) (ge_op no_mod zo_mod (ge_var 2) (ge_int)) (ge_int)) (gss_one (gs_ret (ge_var 3))) (gss_nil)) (gss_cons (gs_set 4 sc_law_other.nd (ge_op no_mod zo_mod (ge_op no_fdiv zo_fdiv (ge_var 2) (ge_int)) (ge_callB no_len zc_len rfl m_len (by decide +kernel) (ga_cons (ge_var 3) (ga_nil))))) (gss_cons (gs_asg (ge_ix (ge_var 3) (ge_var 4)) (gg_tup rfl (ggs_cons (gg_name 5 sc_law_other.nd) (ggs_cons (gg_name 6 sc_law_other.nd) (ggs_cons (gg_name 7 sc_law_other.nd) (ggs_nil)))))) (gss_one (gs_ret (ge_op no_add zo_add (ge_op no_add zo_add (ge_sl (ge_var 3) go_none (go_some (ge_var 4))) (ge_tup (ga_cons (ge_tup (ga_cons (ge_var 5) (ga_cons (ge_var 6) (ga_cons (ge_op no_mod zo_mod (ge_op no_fdiv zo_fdiv (ge_var 2) (ge_int)) (ge_callB no_len zc_len rfl m_len (by decide +kernel) (ga_cons (ge_var 3) (ga_nil)))) (ga_nil))))) (ga_nil)))) (ge_sl (ge_var 3) (go_some (ge_op no_add zo_add (ge_var 4) (ge_int))) go_none)))))))))
abbrev st_law_far_parts : Stmt := top 11
theorem sc_law_far_parts : FnScope ["script", "many", "place", "states", "k", "bit", "machine"] ["script"] (defScope st_law_far_parts) := ⟨rfl, rfl, rfl, by decide +kernel, rfl, by decide +kernel, by decide +kernel⟩
theorem ok_law_far_parts {f : Addr} {fd : FuncData} (Fu : Fun K "_law_far_parts" "_law_far_parts" st_law_far_parts f fd) (g__law_cell : GF P w K mg base "_law_cell" 1 R_law_cell) (g_alike : GF P w K mg base "alike" 2 R_alike) (m_range : mg "range" = none) (m_tuple : mg "tuple" = none) : FnOk P w K mg base (L2.CX P w) 3 f fd ["script"] (spF K mg R_law_far_parts) :=
  fn_run Fu sc_law_far_parts rfl fun cdv A outer s H E hr => gss_cons (gs_set 1 sc_law_far_parts.nd (ge_op no_mod zo_mod (ge_call g__law_cell (hr.mono (by omega)) (takes_of rfl rfl rfl rfl) rfl (ga_cons (ge_var 0) (ga_cons (ge_int) (ga_nil)))) (ge_int))) (gss_cons (gs_set 2 sc_law_far_parts.nd (ge_int)) (gss_cons (gs_set 3 sc_law_far_parts.nd (ge_lst (ga_nil))) (gss_cons (gs_for (passes_of rfl) rfl (gi_r1 (ge_var 1) rfl m_range) (gg_name 4 sc_law_far_parts.nd) (gss_cons (gs_set 5 sc_law_far_parts.nd (ge_op no_mod zo_mod (ge_op no_fdiv zo_fdiv (ge_call g__law_cell (hr.mono (by omega)) (takes_of rfl rfl rfl rfl) rfl (ga_cons (ge_var 0) (ga_cons (ge_int) (ga_nil)))) (ge_op no_add zo_add (ge_int) (ge_op no_mul zo_mul (ge_int) (ge_var 4)))) (ge_int))) (gss_one (gs_expr (ge_mt .list no_append PySem.F.plainAttrs_list PySem.F.slot_list_append PySem.F.type_list_append zm_append (ge_var 3) (ga_cons (ge_ix (ge_lst (ga_cons (ge_tup (ga_cons (ge_int) (ga_cons (ge_op no_add zo_add (ge_var 4) (ge_int)) (ga_cons (ge_op no_add zo_add (ge_var 1) (ge_int)) (ga_nil))))) (ga_cons (ge_tup (ga_cons (ge_int) (ga_cons (ge_op no_add zo_add (ge_var 1) (ge_int)) (ga_cons (ge_op no_add zo_add (ge_var 4) (ge_int)) (ga_nil))))) (ga_nil)))) (ge_var 5)) (ga_nil))))))) (gss_cons (gs_for (passes_of rfl) rfl (gi_r1 (ge_var 1) rfl m_range) (gg_name 4 sc_law_far_parts.nd) (gss_one (gs_set 2 sc_law_far_parts.nd (ge_op no_add zo_add (ge_op no_mul zo_mul (ge_int) (ge_var 2)) (ge_op no_mod zo_mod (ge_op no_fdiv zo_fdiv (ge_call g__law_cell (hr.mono (by omega)) (takes_of rfl rfl rfl rfl) rfl (ga_cons (ge_var 0) (ga_cons (ge_int) (ga_nil)))) (ge_op no_add zo_add (ge_int) (ge_op no_mul zo_mul (ge_int) (ge_op no_sub zo_sub (ge_op no_sub zo_sub (ge_var 1) (ge_int)) (ge_var 4))))) (ge_int)))))) (gss_cons (gs_set 6 sc_law_far_parts.nd (ge_callTy no_tuple zc_tuple rfl m_tuple (by decide +kernel) (ga_cons (ge_op no_add zo_add (ge_var 3) (ge_lst (ga_cons (ge_tup (ga_cons (ge_int) (ga_cons (ge_op no_add zo_add (ge_var 1) (ge_int)) (ga_cons (ge_op no_add zo_add (ge_var 1) (ge_int)) (ga_nil))))) (ga_cons (ge_tup (ga_cons (ge_int) (ga_cons (ge_op no_add zo_add (ge_var 1) (ge_int)) (ga_cons (ge_op no_add zo_add (ge_var 1) (ge_int)) (ga_nil))))) (ga_cons (ge_tup (ga_cons (ge_int) (ga_cons (ge_op no_add zo_add (ge_var 1) (ge_int)) (ga_cons (ge_op no_add zo_add (ge_var 1) (ge_int)) (ga_nil))))) (ga_nil)))))) (ga_nil)))) (gss_one (gs_ret (ge_and (ge_cmp no_eq (zo_eq hr.units) (ge_call g_alike (hr.mono (by omega)) (takes_of rfl rfl rfl rfl) rfl (ga_cons (ge_var 6) (ga_cons (ge_tup (ga_cons (ge_tup (ga_cons (ge_int) (ga_cons (ge_int) (ga_cons (ge_int) (ga_nil))))) (ga_nil))) (ga_nil)))) (ge_tup (ga_cons (ge_str) (ga_cons (ge_var 2) (ga_nil))))) (ge_one (ge_cmp no_eq (zo_eq hr.units) (ge_call g_alike (hr.mono (by omega)) (takes_of rfl rfl rfl rfl) rfl (ga_cons (ge_tup (ga_cons (ge_tup (ga_cons (ge_int) (ga_cons (ge_int) (ga_cons (ge_int) (ga_nil))))) (ga_nil))) (ga_cons (ge_var 6) (ga_nil)))) (ge_tup (ga_cons (ge_str) (ga_cons (ge_var 2) (ga_nil))))))))))))))
abbrev st_law_v22 : Stmt := top 12
theorem sc_law_v22 : FnScope ["script", "one", "other", "told", "unlike", "n"] ["script"] (defScope st_law_v22) := ⟨rfl, rfl, rfl, by decide +kernel, rfl, by decide +kernel, by decide +kernel⟩
theorem ok_law_v22 {f : Addr} {fd : FuncData} (Fu : Fun K "law" "law" st_law_v22 f fd) (g__law_cell : GF P w K mg base "_law_cell" 1 R_law_cell) (g__law_far_parts : GF P w K mg base "_law_far_parts" 3 R_law_far_parts) (g__law_machine : GF P w K mg base "_law_machine" 2 R_law_machine) (g__law_other : GF P w K mg base "_law_other" 3 R_law_other) (g_alike : GF P w K mg base "alike" 2 R_alike) (g__law_sign : GF P w K mg base "_law_sign" 1 R_law_sign) (g__law_pairing : GF P w K mg base "_law_pairing" 1 R_law_pairing) (m_isinstance : mg "isinstance" = none) (m_tuple : mg "tuple" = none) (m_len : mg "len" = none) (m_range : mg "range" = none) (m_int : mg "int" = none) (m_bool : mg "bool" = none) : FnOk P w K mg base (L2.CX P w) 4 f fd ["script"] (spF K mg R_law_v22) :=
  fn_run Fu sc_law_v22 rfl fun cdv A outer s H E hr => gss_cons (gs_if (GW.gt (gw_and (gt_cmp no_eq (zo_eq hr.units) (ge_op no_mod zo_mod (ge_call g__law_cell (hr.mono (by omega)) (takes_of rfl rfl rfl rfl) rfl (ga_cons (ge_var 0) (ga_cons (ge_int) (ga_nil)))) (ge_int)) (ge_int)) (gw_and1 (gt_not (gt_val (ge_call g__law_far_parts (hr.mono (by omega)) (takes_of rfl rfl rfl rfl) rfl (ga_cons (ge_var 0) (ga_nil)))))))) (gss_one (gs_ret (ge_bl))) (gss_nil)) (gss_cons (gs_set 1 sc_law_v22.nd (ge_call g__law_machine (hr.mono (by omega)) (takes_of rfl rfl rfl rfl) rfl (ga_cons (ge_var 0) (ga_cons (ge_int) (ga_cons (ge_int) (ga_nil)))))) (gss_cons (gs_set 2 sc_law_v22.nd (ge_call g__law_other (hr.mono (by omega)) (takes_of rfl rfl rfl rfl) rfl (ga_cons (ge_var 0) (ga_cons (ge_var 1) (ga_nil))))) (gss_cons (gs_set 3 sc_law_v22.nd (ge_call g_alike (hr.mono (by omega)) (takes_of rfl rfl rfl rfl) rfl (ga_cons (ge_var 1) (ga_cons (ge_var 2) (ga_nil))))) (gss_cons (gs_if (GW.gt (gw_or (gt_not (gt_val (ge_isi .tuple (ge_var 3) rfl m_isinstance (by decide +kernel) rfl m_tuple (by decide +kernel)))) (gw_or1 (gt_cmp no_ne (zo_ne hr.units) (ge_callB no_len zc_len rfl m_len (by decide +kernel) (ga_cons (ge_var 3) (ga_nil))) (ge_int))))) (gss_one (gs_ret (ge_bl))) (gss_nil)) (gss_cons (gs_setLc 4 [("n", 5)] rfl sc_law_v22.nd (gi_r1 (ge_int) rfl m_range) (blkOk_by rfl) (fun _ _ _ _ _ => gg_name 5 sc_law_v22.nd) (fun _ _ _ _ _ => gts_one (gt_cmp no_ne (zo_ne hr.units) (ge_call g__law_sign (hr.mono (by omega)) takes0 rfl (ga_cons (ge_var 1) (ga_cons (ge_var 5) (ga_nil)))) (ge_call g__law_sign (hr.mono (by omega)) takes0 rfl (ga_cons (ge_var 2) (ga_cons (ge_var 5) (ga_nil)))))) (fun _ _ _ _ _ => ge_var 5)) (gss_cons (gs_if (gt_cmp no_eq (zo_eq hr.units) (ge_ix (ge_var 3) (ge_int)) (ge_str)) (gss_one (gs_ret (ge_and (ge_cmp no_eq (zo_eq hr.units) (ge_var 4) (ge_lst (ga_nil))) (ge_one (ge_call g__law_pairing (hr.mono (by omega)) (takes_of rfl rfl rfl rfl) rfl (ga_cons (ge_var 1) (ga_cons (ge_var 2) (ga_cons (ge_ix (ge_var 3) (ge_int)) (ga_nil))))))))) (gss_nil)) (gss_cons (gs_if (GW.gt (gw_or (gt_cmp no_ne (zo_ne hr.units) (ge_ix (ge_var 3) (ge_int)) (ge_str)) (gw_or (gt_not (gt_val (ge_isi .int (ge_ix (ge_var 3) (ge_int)) rfl m_isinstance (by decide +kernel) rfl m_int (by decide +kernel)))) (gw_or1 (gt_val (ge_isi .bool (ge_ix (ge_var 3) (ge_int)) rfl m_isinstance (by decide +kernel) rfl m_bool (by decide +kernel))))))) (gss_one (gs_ret (ge_bl))) (gss_nil)) (gss_cons (gs_if (gt_cmp no_eq (zo_eq hr.units) (ge_call g__law_sign (hr.mono (by omega)) (takes_of rfl rfl rfl rfl) rfl (ga_cons (ge_var 1) (ga_cons (ge_ix (ge_var 3) (ge_int)) (ga_nil)))) (ge_call g__law_sign (hr.mono (by omega)) (takes_of rfl rfl rfl rfl) rfl (ga_cons (ge_var 2) (ga_cons (ge_ix (ge_var 3) (ge_int)) (ga_nil))))) (gss_one (gs_ret (ge_bl))) (gss_nil)) (gss_one (gs_ret (ge_ifExp (gt_cmp no_ne (zo_ne hr.units) (ge_var 4) (ge_lst (ga_nil))) (ge_cmp no_eq (zo_eq hr.units) (ge_ix (ge_var 3) (ge_int)) (ge_ix (ge_var 4) (ge_int))) (ge_cmp no_ge zo_ge (ge_ix (ge_var 3) (ge_int)) (ge_int)))))))))))))
theorem all_mk {P : Program} {w : World} {K : PySem.W.Frag} {h : Heap} {mg : Mg} {fa : Addr} (X : K.In h) (G : h.Ns mainGlobals mg) (hfa : mg "law" = some (.ref fa))
    {f0 : Addr} {od0 an0 : Option Addr} {sl0 : Array (Option Value)} {oc0 kV0 dc0 pm0 cd0 ct0 : Value}
    {f1 : Addr} {od1 an1 : Option Addr} {sl1 : Array (Option Value)} {oc1 kV1 dc1 pm1 cd1 ct1 : Value}
    {f2 : Addr} {od2 an2 : Option Addr} {sl2 : Array (Option Value)} {oc2 kV2 dc2 pm2 cd2 ct2 : Value}
    {f3 : Addr} {od3 an3 : Option Addr} {sl3 : Array (Option Value)} {oc3 kV3 dc3 pm3 cd3 ct3 : Value}
    {f4 : Addr} {od4 an4 : Option Addr} {sl4 : Array (Option Value)} {oc4 kV4 dc4 pm4 cd4 ct4 : Value}
    {f5 : Addr} {od5 an5 : Option Addr} {sl5 : Array (Option Value)} {oc5 kV5 dc5 pm5 cd5 ct5 : Value}
    {f6 : Addr} {od6 an6 : Option Addr} {sl6 : Array (Option Value)} {oc6 kV6 dc6 pm6 cd6 ct6 : Value}
    {f7 : Addr} {od7 an7 : Option Addr} {sl7 : Array (Option Value)} {oc7 kV7 dc7 pm7 cd7 ct7 : Value}
    {f8 : Addr} {od8 an8 : Option Addr} {sl8 : Array (Option Value)} {oc8 kV8 dc8 pm8 cd8 ct8 : Value}
    {f9 : Addr} {od9 an9 : Option Addr} {sl9 : Array (Option Value)} {oc9 kV9 dc9 pm9 cd9 ct9 : Value}
    {f10 : Addr} {od10 an10 : Option Addr} {sl10 : Array (Option Value)} {oc10 kV10 dc10 pm10 cd10 ct10 : Value}
    (a0 : PySem.W.nsIn K mainGlobals "pairs_met" = some (some (.ref f0))) (l0 : K.lookup f0 = some ⟨oc0, od0, .func (PySem.W.fnOf "pairs_met" "pairs_met" (defArgs st_pairs_met) (defBody st_pairs_met) (defScope st_pairs_met) .none kV0 dc0 pm0 an0 cd0 ct0), sl0⟩) (c0 : PySem.W.codeIn K cd0 "pairs_met" = true) (k0 : PySem.W.keepIn K (.ref f0) = true)
    (a1 : PySem.W.nsIn K mainGlobals "least_places" = some (some (.ref f1))) (l1 : K.lookup f1 = some ⟨oc1, od1, .func (PySem.W.fnOf "least_places" "least_places" (defArgs st_least_places) (defBody st_least_places) (defScope st_least_places) .none kV1 dc1 pm1 an1 cd1 ct1), sl1⟩) (c1 : PySem.W.codeIn K cd1 "least_places" = true) (k1 : PySem.W.keepIn K (.ref f1) = true)
    (a2 : PySem.W.nsIn K mainGlobals "_law_cell" = some (some (.ref f2))) (l2 : K.lookup f2 = some ⟨oc2, od2, .func (PySem.W.fnOf "_law_cell" "_law_cell" (defArgs st_law_cell) (defBody st_law_cell) (defScope st_law_cell) .none kV2 dc2 pm2 an2 cd2 ct2), sl2⟩) (c2 : PySem.W.codeIn K cd2 "_law_cell" = true) (k2 : PySem.W.keepIn K (.ref f2) = true)
    (a3 : PySem.W.nsIn K mainGlobals "_law_sign" = some (some (.ref f3))) (l3 : K.lookup f3 = some ⟨oc3, od3, .func (PySem.W.fnOf "_law_sign" "_law_sign" (defArgs st_law_sign) (defBody st_law_sign) (defScope st_law_sign) .none kV3 dc3 pm3 an3 cd3 ct3), sl3⟩) (c3 : PySem.W.codeIn K cd3 "_law_sign" = true) (k3 : PySem.W.keepIn K (.ref f3) = true)
    (a4 : PySem.W.nsIn K mainGlobals "_law_pairing" = some (some (.ref f4))) (l4 : K.lookup f4 = some ⟨oc4, od4, .func (PySem.W.fnOf "_law_pairing" "_law_pairing" (defArgs st_law_pairing) (defBody st_law_pairing) (defScope st_law_pairing) .none kV4 dc4 pm4 an4 cd4 ct4), sl4⟩) (c4 : PySem.W.codeIn K cd4 "_law_pairing" = true) (k4 : PySem.W.keepIn K (.ref f4) = true)
    (a5 : PySem.W.nsIn K mainGlobals "alike" = some (some (.ref f5))) (l5 : K.lookup f5 = some ⟨oc5, od5, .func (PySem.W.fnOf "alike" "alike" (defArgs st_alike) (defBody st_alike) (defScope st_alike) .none kV5 dc5 pm5 an5 cd5 ct5), sl5⟩) (c5 : PySem.W.codeIn K cd5 "alike" = true) (k5 : PySem.W.keepIn K (.ref f5) = true)
    (a6 : PySem.W.nsIn K mainGlobals "_law_machine" = some (some (.ref f6))) (l6 : K.lookup f6 = some ⟨oc6, od6, .func (PySem.W.fnOf "_law_machine" "_law_machine" (defArgs st_law_machine) (defBody st_law_machine) (defScope st_law_machine) .none kV6 dc6 pm6 an6 cd6 ct6), sl6⟩) (c6 : PySem.W.codeIn K cd6 "_law_machine" = true) (k6 : PySem.W.keepIn K (.ref f6) = true)
    (a7 : PySem.W.nsIn K mainGlobals "_law_doubled" = some (some (.ref f7))) (l7 : K.lookup f7 = some ⟨oc7, od7, .func (PySem.W.fnOf "_law_doubled" "_law_doubled" (defArgs st_law_doubled) (defBody st_law_doubled) (defScope st_law_doubled) .none kV7 dc7 pm7 an7 cd7 ct7), sl7⟩) (c7 : PySem.W.codeIn K cd7 "_law_doubled" = true) (k7 : PySem.W.keepIn K (.ref f7) = true)
    (a8 : PySem.W.nsIn K mainGlobals "_law_other" = some (some (.ref f8))) (l8 : K.lookup f8 = some ⟨oc8, od8, .func (PySem.W.fnOf "_law_other" "_law_other" (defArgs st_law_other) (defBody st_law_other) (defScope st_law_other) .none kV8 dc8 pm8 an8 cd8 ct8), sl8⟩) (c8 : PySem.W.codeIn K cd8 "_law_other" = true) (k8 : PySem.W.keepIn K (.ref f8) = true)
    (a9 : PySem.W.nsIn K mainGlobals "_law_far_parts" = some (some (.ref f9))) (l9 : K.lookup f9 = some ⟨oc9, od9, .func (PySem.W.fnOf "_law_far_parts" "_law_far_parts" (defArgs st_law_far_parts) (defBody st_law_far_parts) (defScope st_law_far_parts) .none kV9 dc9 pm9 an9 cd9 ct9), sl9⟩) (c9 : PySem.W.codeIn K cd9 "_law_far_parts" = true) (k9 : PySem.W.keepIn K (.ref f9) = true)
    (a10 : PySem.W.nsIn K mainGlobals "law" = some (some (.ref f10))) (l10 : K.lookup f10 = some ⟨oc10, od10, .func (PySem.W.fnOf "law" "law" (defArgs st_law_v22) (defBody st_law_v22) (defScope st_law_v22) .none kV10 dc10 pm10 an10 cd10 ct10), sl10⟩) (c10 : PySem.W.codeIn K cd10 "law" = true) (k10 : PySem.W.keepIn K (.ref f10) = true)
    (z_len : PySem.W.nsIn K mainGlobals "len" = some none)
    (z_dict : PySem.W.nsIn K mainGlobals "dict" = some none)
    (z_isinstance : PySem.W.nsIn K mainGlobals "isinstance" = some none)
    (z_list : PySem.W.nsIn K mainGlobals "list" = some none)
    (z_range : PySem.W.nsIn K mainGlobals "range" = some none)
    (z_tuple : PySem.W.nsIn K mainGlobals "tuple" = some none)
    (z_int : PySem.W.nsIn K mainGlobals "int" = some none)
    (z_bool : PySem.W.nsIn K mainGlobals "bool" = some none)
    : ∃ fd : FuncData, (∀ (s : Shared) (v : Value), BindsTo s fd ⟨[v], []⟩ [("script", v)]) ∧ ∀ base : Heap, K.In base → base.Ns mainGlobals mg → FnOk P w K mg base (L2.CX P w) 4 fa fd ["script"] (spF K mg R_law_v22) := by
  have e := hfa.symm.trans (PySem.W.mg_of X G a10)
  cases e
  have m_len := PySem.W.mg_none_of X G z_len
  have m_dict := PySem.W.mg_none_of X G z_dict
  have m_isinstance := PySem.W.mg_none_of X G z_isinstance
  have m_list := PySem.W.mg_none_of X G z_list
  have m_range := PySem.W.mg_none_of X G z_range
  have m_tuple := PySem.W.mg_none_of X G z_tuple
  have m_int := PySem.W.mg_none_of X G z_int
  have m_bool := PySem.W.mg_none_of X G z_bool
  have F0 := fun_mk (st := st_pairs_met) l0 c0 k0
  have B0 := F0.binds (ps := ["one", "other"]) fun _ _ _ _ _ _ us hl => match us, hl with | [_, _], _ => rfl
  have F1 := fun_mk (st := st_least_places) l1 c1 k1
  have B1 := F1.binds (ps := ["nexts", "marked"]) fun _ _ _ _ _ _ us hl => match us, hl with | [_, _], _ => rfl
  have F2 := fun_mk (st := st_law_cell) l2 c2 k2
  have B2 := F2.binds (ps := ["script", "k"]) fun _ _ _ _ _ _ us hl => match us, hl with | [_, _], _ => rfl
  have F3 := fun_mk (st := st_law_sign) l3 c3 k3
  have B3 := F3.binds (ps := ["machine", "n"]) fun _ _ _ _ _ _ us hl => match us, hl with | [_, _], _ => rfl
  have F4 := fun_mk (st := st_law_pairing) l4 c4 k4
  have B4 := F4.binds (ps := ["one", "other", "pairs"]) fun _ _ _ _ _ _ us hl => match us, hl with | [_, _, _], _ => rfl
  have F5 := fun_mk (st := st_alike) l5 c5 k5
  have B5 := F5.binds (ps := ["one", "other"]) fun _ _ _ _ _ _ us hl => match us, hl with | [_, _], _ => rfl
  have F6 := fun_mk (st := st_law_machine) l6 c6 k6
  have B6 := F6.binds (ps := ["script", "start", "most"]) fun _ _ _ _ _ _ us hl => match us, hl with | [_, _, _], _ => rfl
  have F7 := fun_mk (st := st_law_doubled) l7 c7 k7
  have B7 := F7.binds (ps := ["script", "machine"]) fun _ _ _ _ _ _ us hl => match us, hl with | [_, _], _ => rfl
  have F8 := fun_mk (st := st_law_other) l8 c8 k8
  have B8 := F8.binds (ps := ["script", "one"]) fun _ _ _ _ _ _ us hl => match us, hl with | [_, _], _ => rfl
  have F9 := fun_mk (st := st_law_far_parts) l9 c9 k9
  have B9 := F9.binds (ps := ["script"]) fun _ _ _ _ _ _ us hl => match us, hl with | [_], _ => rfl
  have F10 := fun_mk (st := st_law_v22) l10 c10 k10
  refine ⟨PySem.W.fnOf "law" "law" (defArgs st_law_v22) (defBody st_law_v22) (defScope st_law_v22) .none kV10 dc10 pm10 an10 cd10 ct10, fun s v => .of_eq rfl, fun base _ _ => ?_⟩
  have g_pairs_met : GF P w K mg base "pairs_met" 1 R_pairs_met := gf_of (PySem.W.mg_of X G a0) k0 B0 (ok_pairs_met F0 m_len)
  have g_least_places : GF P w K mg base "least_places" 1 R_least_places := gf_of (PySem.W.mg_of X G a1) k1 B1 (ok_least_places F1 m_dict)
  have g__law_cell : GF P w K mg base "_law_cell" 1 R_law_cell := gf_of (PySem.W.mg_of X G a2) k2 B2 (ok_law_cell F2 m_len)
  have g__law_sign : GF P w K mg base "_law_sign" 1 R_law_sign := gf_of (PySem.W.mg_of X G a3) k3 B3 (ok_law_sign F3 )
  have g__law_pairing : GF P w K mg base "_law_pairing" 1 R_law_pairing := gf_of (PySem.W.mg_of X G a4) k4 B4 (ok_law_pairing F4 m_isinstance m_list)
  have g_alike : GF P w K mg base "alike" 2 R_alike := gf_of (PySem.W.mg_of X G a5) k5 B5 (ok_alike F5 g_pairs_met g_least_places)
  have g__law_machine : GF P w K mg base "_law_machine" 2 R_law_machine := gf_of (PySem.W.mg_of X G a6) k6 B6 (ok_law_machine F6 g__law_cell m_range m_len m_tuple)
  have g__law_doubled : GF P w K mg base "_law_doubled" 2 R_law_doubled := gf_of (PySem.W.mg_of X G a7) k7 B7 (ok_law_doubled F7 g__law_cell m_len m_range m_tuple)
  have g__law_other : GF P w K mg base "_law_other" 3 R_law_other := gf_of (PySem.W.mg_of X G a8) k8 B8 (ok_law_other F8 g__law_cell g__law_machine g__law_doubled m_len)
  have g__law_far_parts : GF P w K mg base "_law_far_parts" 3 R_law_far_parts := gf_of (PySem.W.mg_of X G a9) k9 B9 (ok_law_far_parts F9 g__law_cell g_alike m_range m_tuple)
  exact ok_law_v22 F10 g__law_cell g__law_far_parts g__law_machine g__law_other g_alike g__law_sign g__law_pairing m_isinstance m_tuple m_len m_range m_int m_bool
end
end Z
open PySem PySem.W PyProof.Rows in
set_option maxRecDepth 100000 in
set_option maxHeartbeats 0 in
theorem PySem.Challenge.cw_zipspring_k30_alike_or_parted_holds : PySem.Challenge.rw_zipspring_k30_alike_or_parted.Holds := by
  w_on; o_law; k_head; (case hw => w_witness2)
  k_fill
  refine Z.walkZ (l := PySem.Challenge.rw_zipspring_k30_alike_or_parted) (k := 4) (R := Z.R_law_v22) rfl (by decide) ⟨rfl, by decide, by decide⟩ rfl (fun w h Y => PySem.W.kIn_of Y) (fun ns hl _ => Z.s_law_v22 ns hl) ?F
  case F =>
    intro w mg fa h KX G hmg
    refine' Z.all_mk KX G hmg ?a0 ?l0 ?c0 ?k0 ?a1 ?l1 ?c1 ?k1 ?a2 ?l2 ?c2 ?k2 ?a3 ?l3 ?c3 ?k3 ?a4 ?l4 ?c4 ?k4 ?a5 ?l5 ?c5 ?k5 ?a6 ?l6 ?c6 ?k6 ?a7 ?l7 ?c7 ?k7 ?a8 ?l8 ?c8 ?k8 ?a9 ?l9 ?c9 ?k9 ?a10 ?l10 ?c10 ?k10 ?z_len ?z_dict ?z_isinstance ?z_list ?z_range ?z_tuple ?z_int ?z_bool
    (case a0 => k_is)
    (case l0 => k_is)
    (case c0 => k_is)
    (case k0 => k_is)
    (case a1 => k_is)
    (case l1 => k_is)
    (case c1 => k_is)
    (case k1 => k_is)
    (case a2 => k_is)
    (case l2 => k_is)
    (case c2 => k_is)
    (case k2 => k_is)
    (case a3 => k_is)
    (case l3 => k_is)
    (case c3 => k_is)
    (case k3 => k_is)
    (case a4 => k_is)
    (case l4 => k_is)
    (case c4 => k_is)
    (case k4 => k_is)
    (case a5 => k_is)
    (case l5 => k_is)
    (case c5 => k_is)
    (case k5 => k_is)
    (case a6 => k_is)
    (case l6 => k_is)
    (case c6 => k_is)
    (case k6 => k_is)
    (case a7 => k_is)
    (case l7 => k_is)
    (case c7 => k_is)
    (case k7 => k_is)
    (case a8 => k_is)
    (case l8 => k_is)
    (case c8 => k_is)
    (case k8 => k_is)
    (case a9 => k_is)
    (case l9 => k_is)
    (case c9 => k_is)
    (case k9 => k_is)
    (case a10 => k_is)
    (case l10 => k_is)
    (case c10 => k_is)
    (case k10 => k_is)
    (case z_len => k_is)
    (case z_dict => k_is)
    (case z_isinstance => k_is)
    (case z_list => k_is)
    (case z_range => k_is)
    (case z_tuple => k_is)
    (case z_int => k_is)
    (case z_bool => k_is)
