import PyProof.Rows.All
import HandS.ForMost
import HandS.IsInst
import HandS.ForExc
import HandS.Deep
import HandS.Wide
import HandS.Style
import HandS.CallSlots
import HandS.EndTab
import HandS.Conv
import HandS.RaiseMore
import HandS.TupAny
import KE.KExcSuper
import OpenK.KCell
import KE.KExcIs
import HandS.ExcValue
import PySem.Challenge.RW_elbowsexactly_k45_whole_simplest_fractio
import PyProof.ReprBulk
import Wide.FinOn
import HandS.ForSpec
set_option linter.all false
set_option autoImplicit false
/-! DLs: plain data, results and the combinators of the mirror (semantics alone). -/
namespace DL
open PySem

inductive D where
  | non
  | bl (b : Bool)
  | int (i : Int)
  | str (x : Str)
  | tup (xs : List D)
  | lst (xs : List D)
  | loc (n : Nat)
  | exo (c : Str) (v : D)
  | ty (n : String)
  | cls (c : Str)
  | fn (n : Nat)

/-- the mutable lists, by number -/
abbrev Sto := List (List D)
/-- the slots of a def -/
abbrev Env := List (Option D)

inductive R (α : Type) where
  | ok (a : α) (S : Sto)
  | exc (c : Str) (v : D) (S : Sto)
  | bad
def R.bind {α β : Type} (r : R α) (k : α → Sto → R β) : R β := match r with
  | .ok a S => k a S
  | .exc c v S => .exc c v S
  | .bad => .bad
@[simp] theorem bind_ok {α β : Type} (a : α) (S : Sto) (k : α → Sto → R β) : (R.ok a S).bind k = k a S := rfl
@[simp] theorem bind_exc {α β : Type} (c : Str) (v : D) (S : Sto) (k : α → Sto → R β) : (R.exc c v S).bind k = .exc c v S := rfl
@[simp] theorem bind_bad {α β : Type} (k : α → Sto → R β) : (R.bad : R α).bind k = .bad := rfl

abbrev EF := Env → Sto → R D
abbrev TF := Env → Sto → R Bool
abbrev AF := Env → Sto → R (List D)
abbrev FN := List D → Sto → R D

inductive RS where
  | nx (ρ : Env) (S : Sto)
  | rt (d : D) (S : Sto)
  | bk (ρ : Env) (S : Sto)
  | ct (ρ : Env) (S : Sto)
  | exc (c : Str) (v : D) (ρ : Env) (S : Sto)
  | bad
abbrev SF := Env → Sto → RS

/-! ### expressions -/
def eVar (i : Nat) : EF := fun ρ S => match ρ[i]? with
  | some (some d) => .ok d S
  | _ => .bad
def eC (d : D) : EF := fun _ S => .ok d S
def eBin (g : D → D → Sto → R D) (a b : EF) : EF := fun ρ S => (a ρ S).bind fun x S => (b ρ S).bind fun y S => g x y S
def eUn (g : D → Sto → R D) (a : EF) : EF := fun ρ S => (a ρ S).bind fun x S => g x S
def eAnd (a b : EF) : EF := fun ρ S => (a ρ S).bind fun x S => match x with
  | .bl true => b ρ S
  | .bl false => .ok (.bl false) S
  | _ => .bad
def eOr (a b : EF) : EF := fun ρ S => (a ρ S).bind fun x S => match x with
  | .bl true => .ok (.bl true) S
  | .bl false => b ρ S
  | _ => .bad
def eNot (a : EF) : EF := fun ρ S => (a ρ S).bind fun x S => match x with
  | .bl c => .ok (.bl (!c)) S
  | _ => .bad
def eIf (t : TF) (a b : EF) : EF := fun ρ S => (t ρ S).bind fun c S => match c with
  | true => a ρ S
  | false => b ρ S
def eChain (g h : D → D → Sto → R D) (a b c : EF) : EF := fun ρ S => (a ρ S).bind fun x S => (b ρ S).bind fun y S => (g x y S).bind fun k S => match k with
  | .bl true => (c ρ S).bind fun z S => h y z S
  | .bl false => .ok (.bl false) S
  | _ => .bad
/-! ### tests -/
def tOf (a : EF) : TF := fun ρ S => (a ρ S).bind fun x S => match x with
  | .bl c => .ok c S
  | _ => .bad
def tAnd (a b : TF) : TF := fun ρ S => (a ρ S).bind fun c S => match c with
  | true => b ρ S
  | false => .ok false S
def tOr (a b : TF) : TF := fun ρ S => (a ρ S).bind fun c S => match c with
  | true => .ok true S
  | false => b ρ S
def tNot (a : TF) : TF := fun ρ S => (a ρ S).bind fun c S => .ok (!c) S
def truD (S : Sto) : D → Option Bool
  | .non => some false
  | .bl b => some b
  | .int i => some (i != 0)
  | .str x => if x.length ≤ 16777216 then some (x.length != 0) else none
  | .tup xs => some (!xs.isEmpty)
  | .lst xs => some (!xs.isEmpty)
  | .loc n => (S[n]?).map fun xs => !xs.isEmpty
  | _ => none
def tTru (a : EF) : TF := fun ρ S => (a ρ S).bind fun x S => match truD S x with
  | some c => .ok c S
  | none => .bad
/-! ### arguments, displays, calls -/
def aNil : AF := fun _ S => .ok [] S
def aCons (a : EF) (r : AF) : AF := fun ρ S => (a ρ S).bind fun x S => (r ρ S).bind fun xs S => .ok (x :: xs) S
def eTup (a : AF) : EF := fun ρ S => (a ρ S).bind fun xs S => if xs.length ≤ 16777216 then .ok (.tup xs) S else .bad
def eLst (a : AF) : EF := fun ρ S => (a ρ S).bind fun xs S => if xs.length ≤ 16777216 then .ok (.lst xs) S else .bad
/-- a list that may be changed -/
def eNew (a : AF) : EF := fun ρ S => (a ρ S).bind fun xs S => if xs.length ≤ 16777216 then .ok (.loc S.length) (S ++ [xs]) else .bad
def eCall (f : FN) (a : AF) : EF := fun ρ S => (a ρ S).bind fun xs S => f xs S

/-! ### statements -/
def R.st {α : Type} (r : R α) (ρ : Env) (k : α → Sto → RS) : RS := match r with
  | .ok a S => k a S
  | .exc c v S => .exc c v ρ S
  | .bad => .bad
@[simp] theorem st_ok {α : Type} (a : α) (S : Sto) (ρ : Env) (k : α → Sto → RS) : (R.ok a S).st ρ k = k a S := rfl
@[simp] theorem st_exc {α : Type} (c : Str) (v : D) (S : Sto) (ρ : Env) (k : α → Sto → RS) : (R.exc c v S).st ρ k = .exc c v ρ S := rfl
@[simp] theorem st_bad {α : Type} (ρ : Env) (k : α → Sto → RS) : (R.bad : R α).st ρ k = .bad := rfl
def RS.then (r : RS) (k : Env → Sto → RS) : RS := match r with
  | .nx ρ S => k ρ S
  | .rt d S => .rt d S
  | .bk ρ S => .bk ρ S
  | .ct ρ S => .ct ρ S
  | .exc c v ρ S => .exc c v ρ S
  | .bad => .bad
@[simp] theorem then_nx (ρ : Env) (S : Sto) (k : Env → Sto → RS) : (RS.nx ρ S).then k = k ρ S := rfl
@[simp] theorem then_rt (d : D) (S : Sto) (k : Env → Sto → RS) : (RS.rt d S).then k = .rt d S := rfl
@[simp] theorem then_bk (ρ : Env) (S : Sto) (k : Env → Sto → RS) : (RS.bk ρ S).then k = .bk ρ S := rfl
@[simp] theorem then_ct (ρ : Env) (S : Sto) (k : Env → Sto → RS) : (RS.ct ρ S).then k = .ct ρ S := rfl
@[simp] theorem then_exc (c : Str) (v : D) (ρ : Env) (S : Sto) (k : Env → Sto → RS) : (RS.exc c v ρ S).then k = .exc c v ρ S := rfl
@[simp] theorem then_bad (k : Env → Sto → RS) : (RS.bad).then k = .bad := rfl
def sNil : SF := fun ρ S => .nx ρ S
def sSeq (a b : SF) : SF := fun ρ S => (a ρ S).then fun ρ S => b ρ S
def sBreak : SF := fun ρ S => .bk ρ S
def sCont : SF := fun ρ S => .ct ρ S
def sRet (a : EF) : SF := fun ρ S => (a ρ S).st ρ fun d S => .rt d S
def sRetN : SF := fun _ S => .rt .non S
def sExpr (a : EF) : SF := fun ρ S => (a ρ S).st ρ fun _ S => .nx ρ S
def sIf (t : TF) (a b : SF) : SF := fun ρ S => (t ρ S).st ρ fun c S => match c with
  | true => a ρ S
  | false => b ρ S
def sNever : SF := fun _ _ => .bad
/-- targets -/
abbrev TgF := D → Env → Option Env
def gSet (i : Nat) : TgF := fun d ρ => some (ρ.set i (some d))
abbrev TgsF := List D → Env → Option Env
def gsNil : TgsF := fun ds ρ => match ds with
  | [] => some ρ
  | _ => none
def gsCons (t : TgF) (r : TgsF) : TgsF := fun ds ρ => match ds with
  | d :: ds => (t d ρ).bind fun ρ => r ds ρ
  | _ => none
def gTupD (r : TgsF) : TgF := fun d ρ => match d with
  | .tup ds => r ds ρ
  | _ => none
def sAsg (g : TgF) (a : EF) : SF := fun ρ S => (a ρ S).st ρ fun d S => match g d ρ with
  | some ρ => .nx ρ S
  | none => .bad
def sSet (i : Nat) (a : EF) : SF := fun ρ S => (a ρ S).st ρ fun d S => .nx (ρ.set i (some d)) S
/-- a, b = e1, e2: two different names -/
def sPar (i j : Nat) (a : AF) : SF := fun ρ S => (a ρ S).st ρ fun ds S => match ds with
  | [x, y] => .nx ((ρ.set i (some x)).set j (some y)) S
  | _ => .bad
def sPar3 (i j k : Nat) (a : AF) : SF := fun ρ S => (a ρ S).st ρ fun ds S => match ds with
  | [x, y, z] => .nx (((ρ.set i (some x)).set j (some y)).set k (some z)) S
  | _ => .bad
/-- name op= e -/
def sAug (i : Nat) (g : D → D → Sto → R D) (a : EF) : SF := fun ρ S => match ρ[i]? with
  | some (some x) => (a ρ S).st ρ fun y S => (g x y S).st ρ fun z S => .nx (ρ.set i (some z)) S
  | _ => .bad
/-- o[i] = e, o a list of the store -/
def setD (o i v : D) (S : Sto) : Option Sto := match o, i with
  | .loc n, .int k => match S[n]? with
    | some xs => match L2.ixN xs.length k with
      | some j => some (S.set n (xs.set j v))
      | none => none
    | none => none
  | _, _ => none
def sSub (o i a : EF) : SF := fun ρ S => (a ρ S).st ρ fun v S => (o ρ S).st ρ fun o S => (i ρ S).st ρ fun i S => match setD o i v S with
  | some S => .nx ρ S
  | none => .bad
/-- raise C(e) -/
def sRaise (c : Str) (a : EF) : SF := fun ρ S => (a ρ S).st ρ fun v S => .exc c v ρ S
/-! loops -/
def wIter (t : TF) (b : SF) : Nat → Env → Sto → RS
  | 0, _, _ => .bad
  | n + 1, ρ, S => (t ρ S).st ρ fun c S => match c with
    | false => .nx ρ S
    | true => match b ρ S with
      | .nx ρ S => wIter t b n ρ S
      | .ct ρ S => wIter t b n ρ S
      | .bk ρ S => .nx ρ S
      | .rt d S => .rt d S
      | .exc c v ρ S => .exc c v ρ S
      | .bad => .bad
theorem wIter_mono {t : TF} {b : SF} : ∀ {n : Nat} {ρ : Env} {S : Sto}, wIter t b n ρ S ≠ .bad → ∀ m, n ≤ m → wIter t b m ρ S = wIter t b n ρ S
  | 0, _, _, h, _, _ => absurd rfl h
  | n + 1, ρ, S, h, m, hm => by
    obtain ⟨k, rfl⟩ : ∃ k, m = k + 1 := ⟨m - 1, by omega⟩
    unfold wIter at h ⊢
    cases e : t ρ S with
    | ok c S1 =>
      rw [e] at h
      simp only [st_ok] at h ⊢
      cases c with
      | false => rfl
      | true =>
        simp only at h ⊢
        cases e2 : b ρ S1 with
        | nx ρ2 S2 => rw [e2] at h; exact wIter_mono h k (by omega)
        | ct ρ2 S2 => rw [e2] at h; exact wIter_mono h k (by omega)
        | _ => rfl
    | exc c v S1 => rfl
    | bad => rfl
open Classical in
noncomputable def sWhile (t : TF) (b : SF) : SF := fun ρ S => if h : ∃ n, wIter t b n ρ S ≠ .bad then wIter t b (Classical.choose h) ρ S else .bad
theorem sWhile_of {t : TF} {b : SF} {ρ : Env} {S : Sto} {n : Nat} (h : wIter t b n ρ S ≠ .bad) : sWhile t b ρ S = wIter t b n ρ S := by
  have hx : ∃ n, wIter t b n ρ S ≠ .bad := ⟨n, h⟩
  unfold sWhile
  rw [dif_pos hx]
  have h2 := Classical.choose_spec hx
  rcases Nat.le_total n (Classical.choose hx) with z | z
  · exact wIter_mono h _ z
  · exact (wIter_mono h2 _ z).symm
theorem sWhile_some {t : TF} {b : SF} {ρ : Env} {S : Sto} (h : sWhile t b ρ S ≠ .bad) : ∃ n, wIter t b n ρ S = sWhile t b ρ S := by
  unfold sWhile at h ⊢
  split at h
  · rename_i hx
    exact ⟨_, by rw [dif_pos hx]⟩
  · exact absurd rfl h
/-- one turn -/
theorem sWhile_eq (t : TF) (b : SF) (ρ : Env) (S : Sto) : sWhile t b ρ S = (t ρ S).st ρ fun c S => match c with
    | false => .nx ρ S
    | true => match b ρ S with
      | .nx ρ S => sWhile t b ρ S
      | .ct ρ S => sWhile t b ρ S
      | .bk ρ S => .nx ρ S
      | .rt d S => .rt d S
      | .exc c v ρ S => .exc c v ρ S
      | .bad => .bad := by
  have key : ∀ n, wIter t b (n + 1) ρ S = (t ρ S).st ρ fun c S => match c with
    | false => .nx ρ S
    | true => match b ρ S with
      | .nx ρ S => wIter t b n ρ S
      | .ct ρ S => wIter t b n ρ S
      | .bk ρ S => .nx ρ S
      | .rt d S => .rt d S
      | .exc c v ρ S => .exc c v ρ S
      | .bad => .bad := fun n => rfl
  have one : ∀ r : RS, (∀ n, wIter t b (n + 1) ρ S = r) → sWhile t b ρ S = r := by
    intro r hr
    by_cases h : wIter t b 1 ρ S = .bad
    · by_cases h2 : sWhile t b ρ S = .bad
      · rw [h2, ← h]; exact hr 0
      · obtain ⟨n, hn⟩ := sWhile_some h2
        cases n with
        | zero => exact absurd hn.symm h2
        | succ n => rw [← hn]; exact hr n
    · rw [sWhile_of h]; exact hr 0
  have step : ∀ ρ2 S2, (∀ n, wIter t b (n + 1) ρ S = wIter t b n ρ2 S2) → sWhile t b ρ S = sWhile t b ρ2 S2 := by
    intro ρ2 S2 hr
    by_cases h : sWhile t b ρ2 S2 = .bad
    · by_cases h2 : sWhile t b ρ S = .bad
      · rw [h, h2]
      · obtain ⟨n, hn⟩ := sWhile_some h2
        cases n with
        | zero => exact absurd hn.symm h2
        | succ n =>
          rw [hr n] at hn
          have h3 : wIter t b n ρ2 S2 ≠ .bad := by rw [hn]; exact h2
          rw [sWhile_of h3, hn]
    · obtain ⟨n, hn⟩ := sWhile_some h
      have h3 : wIter t b (n + 1) ρ S ≠ .bad := by rw [hr n, hn]; exact h
      rw [sWhile_of h3, hr n, hn]
  cases e : t ρ S with
  | ok c S1 =>
    rw [e] at key
    simp only [st_ok] at key ⊢
    cases c with
    | false => exact one _ key
    | true =>
      simp only at key ⊢
      cases e2 : b ρ S1 with
      | nx ρ2 S2 => rw [e2] at key; exact step _ _ key
      | ct ρ2 S2 => rw [e2] at key; exact step _ _ key
      | _ => rw [e2] at key; exact one _ key
  | exc c v S1 => rw [e] at key; exact one _ key
  | bad => rw [e] at key; exact one _ key
def forL (g : TgF) (b : SF) : List D → Env → Sto → RS
  | [], ρ, S => .nx ρ S
  | d :: ds, ρ, S => match g d ρ with
    | none => .bad
    | some ρ => match b ρ S with
      | .nx ρ S => forL g b ds ρ S
      | .ct ρ S => forL g b ds ρ S
      | .bk ρ S => .nx ρ S
      | .rt d S => .rt d S
      | .exc c v ρ S => .exc c v ρ S
      | .bad => .bad
/-- what is walked, as data -/
def sFor (it : AF) (g : TgF) (b : SF) : SF := fun ρ S => (it ρ S).st ρ fun ds S => forL g b ds ρ S
/-- the block's own slots are forgotten -/
def wipeE (ρ : Env) : List Nat → Env
  | [] => ρ
  | v :: vs => (wipeE ρ vs).set v none
def compL (vs : List Nat) (g : TgF) (t : TF) (e : EF) (ρ : Env) : List D → Sto → R (List D)
  | [], S => .ok [] S
  | d :: ds, S => match g d (wipeE ρ vs) with
    | none => .bad
    | some ρ1 => match t ρ1 S with
      | .ok true S => match e ρ1 S with
        | .ok y S => (compL vs g t e ρ ds S).bind fun ys S => .ok (y :: ys) S
        | _ => .bad
      | .ok false S => compL vs g t e ρ ds S
      | _ => .bad
def tYes : TF := fun _ S => .ok true S
/-- a list comprehension: its items, as a list that is never changed -/
def eComp (vs : List Nat) (it : AF) (g : TgF) (t : TF) (e : EF) : EF := fun ρ S => (it ρ S).bind fun ds S => if ds.length ≤ 16777216 then (compL vs g t e ρ ds S).bind fun ys S => .ok (.lst ys) S else .bad
def start (n : Nat) (ds : List D) : Env := ds.map some ++ List.replicate (n - ds.length) none
/-- a def by its body: m parameters, n slots -/
def mkFn (m n : Nat) (b : SF) : FN := fun ds S => if ds.length = m then match b (start n ds) S with
    | .nx _ S => .ok .non S
    | .rt d S => .ok d S
    | .exc c v _ S => .exc c v S
    | _ => .bad
  else .bad
/-! lists below n alone -/
mutual
def D.low (n : Nat) : D → Bool
  | .loc m => decide (m < n)
  | .tup xs => D.lowL n xs
  | .lst xs => D.lowL n xs
  | .exo _ v => D.low n v
  | _ => true
def D.lowL (n : Nat) : List D → Bool
  | [] => true
  | x :: xs => D.low n x && D.lowL n xs
end
/-- a def whose own lists are forgotten when it is left -/
def drop (f : FN) : FN := fun ds S => match f ds S with
  | .ok d S' => if d.low S.length && (S'.take S.length).all (D.lowL S.length) then .ok d (S'.take S.length) else .bad
  | .exc c v S' => if v.low S.length && (S'.take S.length).all (D.lowL S.length) then .exc c v (S'.take S.length) else .bad
  | .bad => .bad

/-! ### operations on values -/
def iBin (f : Int → Int → Int) (x y : D) (S : Sto) : R D := match x, y with
  | .int i, .int j => .ok (.int (f i j)) S
  | _, _ => .bad
def iCmp (f : Int → Int → Bool) (x y : D) (S : Sto) : R D := match x, y with
  | .int i, .int j => .ok (.bl (f i j)) S
  | _, _ => .bad
def dAdd := iBin (· + ·)
def dSub := iBin (· - ·)
/-- together below a million bits -/
def mulOk (i j : Int) : Bool := decide (i.natAbs.log2 + j.natAbs.log2 < 1000000)
def dMul (x y : D) (S : Sto) : R D := match x, y with
  | .int i, .int j => if mulOk i j then .ok (.int (i * j)) S else .bad
  | _, _ => .bad
/-- a divisor other than 0, below 2 ^ 9000 -/
def divOk (j : Int) : Bool := decide (j ≠ 0 ∧ j.natAbs.log2 < 9000)
def dDiv (x y : D) (S : Sto) : R D := match x, y with
  | .int i, .int j => if divOk j then .ok (.int (i.fdiv j)) S else .bad
  | _, _ => .bad
def dMod (x y : D) (S : Sto) : R D := match x, y with
  | .int i, .int j => if j ≠ 0 then .ok (.int (i.fmod j)) S else .bad
  | _, _ => .bad
def dPow (x y : D) (S : Sto) : R D := match x, y with
  | .int i, .int j => if 0 ≤ j ∧ (Builtin.Int.intBits i : Int) * j ≤ 2 ^ 27 then .ok (.int (i ^ j.toNat)) S else .bad
  | _, _ => .bad
def dLt := iCmp fun i j => decide (i < j)
def dLe := iCmp fun i j => decide (i ≤ j)
def dGt := iCmp fun i j => decide (j < i)
def dGe := iCmp fun i j => decide (j ≤ i)
def b2i (b : Bool) : Int := if b then 1 else 0
/-- True - False -/
def dSubB (x y : D) (S : Sto) : R D := match x, y with
  | .bl i, .bl j => .ok (.int (b2i i - b2i j)) S
  | .int i, .int j => .ok (.int (i - j)) S
  | _, _ => .bad
def dNeg (x : D) (S : Sto) : R D := match x with
  | .int i => .ok (.int (-i)) S
  | _ => .bad
/-! as the library's data, where no list is one of the store -/
mutual
def D.pd : D → Option PyData
  | .non => some .none
  | .bl b => some (.bool b)
  | .int i => some (.int i)
  | .str x => some (.str x)
  | .tup xs => (D.pdL xs).map .tuple
  | .lst xs => (D.pdL xs).map .list
  | _ => none
def D.pdL : List D → Option (List PyData)
  | [] => some []
  | x :: xs => (D.pd x).bind fun y => (D.pdL xs).map fun ys => y :: ys
end
def eqD (x y : D) : Option Bool := x.pd.bind fun a => y.pd.bind fun b => if SeqAt.shaped a && SeqAt.shaped b then some (PyData.eqv a b) else none
def dEq (x y : D) (S : Sto) : R D := match eqD x y with
  | some c => .ok (.bl c) S
  | none => .bad
def dNe (x y : D) (S : Sto) : R D := match eqD x y with
  | some c => .ok (.bl (!c)) S
  | none => .bad
def D.isNon : D → Bool
  | .non => true
  | _ => false
def dIsN (x y : D) (S : Sto) : R D := if y.isNon then .ok (.bl x.isNon) S else .bad
def dNotN (x y : D) (S : Sto) : R D := if y.isNon then .ok (.bl (!x.isNon)) S else .bad
def dIsB (x y : D) (S : Sto) : R D := match x, y with
  | .bl b, .bl c => .ok (.bl (b == c)) S
  | _, _ => .bad
def dNotB (x y : D) (S : Sto) : R D := match x, y with
  | .bl b, .bl c => .ok (.bl (!(b == c))) S
  | _, _ => .bad
/-- x in xs, xs a list or a tuple -/
def inD (x y : D) : Option Bool := x.pd.bind fun a => y.pd.bind fun b => match b with
  | .tuple bs => if SeqAt.shaped a && SeqAt.shaped (.tuple bs) then some (bs.any fun z => PyData.eqv z a) else none
  | .list bs => if SeqAt.shaped a && SeqAt.shaped (.list bs) then some (bs.any fun z => PyData.eqv z a) else none
  | _ => none
def dIn (x y : D) (S : Sto) : R D := match inD x y with
  | some c => .ok (.bl c) S
  | none => .bad
def dNotIn (x y : D) (S : Sto) : R D := match inD x y with
  | some c => .ok (.bl (!c)) S
  | none => .bad
def dIx (x y : D) (S : Sto) : R D := match y with
  | .int i => match x with
    | .tup xs => match L2.atI xs i with
      | some d => .ok d S
      | none => .bad
    | .lst xs => match L2.atI xs i with
      | some d => .ok d S
      | none => .bad
    | .loc n => match S[n]? with
      | some xs => match L2.atI xs i with
        | some d => .ok d S
        | none => .bad
      | none => .bad
    | _ => .bad
  | _ => .bad
def lenD (S : Sto) : D → Option Nat
  | .tup xs => some xs.length
  | .lst xs => some xs.length
  | .loc n => (S[n]?).map List.length
  | .str x => if x.length ≤ 16777216 then some x.length else none
  | _ => none
def fLen : FN := fun ds S => match ds with
  | [x] => match lenD S x with
    | some n => .ok (.int n) S
    | none => .bad
  | _ => .bad
def fAbs : FN := fun ds S => match ds with
  | [.int i] => .ok (.int (if i < 0 then -i else i)) S
  | _ => .bad
def fInt : FN := fun ds S => match ds with
  | [.int i] => .ok (.int i) S
  | [.bl b] => .ok (.int (b2i b)) S
  | _ => .bad
def fMax : FN := fun ds S => match ds with
  | [.int i, .int j] => .ok (.int (if j > i then j else i)) S
  | _ => .bad
def fMin : FN := fun ds S => match ds with
  | [.int i, .int j] => .ok (.int (if j < i then j else i)) S
  | _ => .bad
/-- the items of a list or tuple -/
def items (S : Sto) : D → Option (List D)
  | .tup xs => some xs
  | .lst xs => some xs
  | .loc n => S[n]?
  | _ => none
def bools : List D → Option (List Bool)
  | [] => some []
  | .bl b :: xs => (bools xs).map (b :: ·)
  | _ :: _ => none
def intsOf : List D → Option (List Int)
  | [] => some []
  | .int b :: xs => (intsOf xs).map (b :: ·)
  | _ :: _ => none
def fAll : FN := fun ds S => match ds with
  | [.lst xs] => match bools xs with
    | some bs => .ok (.bl (bs.all id)) S
    | none => .bad
  | _ => .bad
def fAny : FN := fun ds S => match ds with
  | [.lst xs] => match bools xs with
    | some bs => .ok (.bl (bs.any id)) S
    | none => .bad
  | _ => .bad
def fSum : FN := fun ds S => match ds with
  | [.lst xs] => match intsOf xs with
    | some bs => .ok (.int bs.sum) S
    | none => .bad
  | _ => .bad
/-- the built-in type of a value -/
def tyD : D → Option String
  | .non => some "NoneType"
  | .bl _ => some "bool"
  | .int _ => some "int"
  | .str _ => some "str"
  | .tup _ => some "tuple"
  | .lst _ => some "list"
  | .loc _ => some "list"
  | _ => none
/-- isinstance(x, T), T a built-in type, or an own class by its name: sub tells which class lies under which -/
def fIsi (sub : Str → Str → Option Bool) : FN := fun ds S => match ds with
  | [x, .ty T] => match (tyD x).bind fun t => L2.kitB t T with
    | some b => .ok (.bl b) S
    | none => .bad
  | [.exo c _, .cls c'] => match sub c c' with
    | some b => .ok (.bl b) S
    | none => .bad
  | _ => .bad
/-- the ints 0 .. n - 1 of range(n) -/
def rngL : Int → Nat → List D
  | _, 0 => []
  | lo, n + 1 => .int lo :: rngL (lo + 1) n
def fRange1 : AF → AF := fun a ρ S => (a ρ S).bind fun ds S => match ds with
  | [.int j] => if -(2 ^ 62) ≤ j ∧ j < 2 ^ 62 then .ok (rngL 0 j.toNat) S else .bad
  | _ => .bad
def fRange2 : AF → AF := fun a ρ S => (a ρ S).bind fun ds S => match ds with
  | [.int i, .int j] => if -(2 ^ 62) ≤ i ∧ i < 2 ^ 62 ∧ -(2 ^ 62) ≤ j ∧ j < 2 ^ 62 then .ok (rngL i (j - i).toNat) S else .bad
  | _ => .bad
/-- a tuple, a list that is never changed, walked -/
def wTup (e : EF) : AF := fun ρ S => (e ρ S).bind fun x S => match x with
  | .tup xs => .ok xs S
  | _ => .bad
def wLst (e : EF) : AF := fun ρ S => (e ρ S).bind fun x S => match x with
  | .lst xs => .ok xs S
  | _ => .bad
/-- repr(x) -/
def fRepr : FN := fun ds S => match ds with
  | [x] => match x.pd with
    | some p => if p.showable && p.canLay0 && decide (p.shown.length ≤ 16777216) && decide (p.depth ≤ 60) then .ok (.str p.shown) S else .bad
    | none => .bad
  | _ => .bad
/-- list(range(..)), tuple(range(..)) -/
def eListRg (it : AF) : EF := fun ρ S => (it ρ S).bind fun ds S => if ds.length ≤ 16777216 then .ok (.lst ds) S else .bad
def eTupRg (it : AF) : EF := fun ρ S => (it ρ S).bind fun ds S => if ds.length ≤ 16777216 then .ok (.tup ds) S else .bad
/-- tuple(x), list(x) of a list or tuple -/
def fTuple : FN := fun ds S => match ds with
  | [x] => match items S x with
    | some xs => .ok (.tup xs) S
    | none => .bad
  | _ => .bad
def fList : FN := fun ds S => match ds with
  | [x] => match items S x with
    | some xs => .ok (.lst xs) S
    | none => .bad
  | _ => .bad
/-- x[lo:hi] of a list: a list that is never changed; of a tuple -/
def cutD (xs : List D) (lo hi : Option Int) : List D := (xs.drop (HT.sIx xs.length 0 lo)).take (HT.sIx xs.length xs.length hi - HT.sIx xs.length 0 lo)
abbrev OF := Env → Sto → R (Option Int)
def oNone : OF := fun _ S => .ok none S
def oSome (e : EF) : OF := fun ρ S => (e ρ S).bind fun x S => match x with
  | .int i => .ok (some i) S
  | _ => .bad
def eCut (e : EF) (lo hi : OF) : EF := fun ρ S => (e ρ S).bind fun x S => (lo ρ S).bind fun lo S => (hi ρ S).bind fun hi S => match x with
  | .lst xs => .ok (.lst (cutD xs lo hi)) S
  | .loc n => match S[n]? with
    | some xs => .ok (.lst (cutD xs lo hi)) S
    | none => .bad
  | .tup xs => .ok (.tup (cutD xs lo hi)) S
  | _ => .bad
/-- x[::-1] of a list -/
def eRev (e : EF) : EF := eUn (fun x S => match x with
  | .lst xs => .ok (.lst xs.reverse) S
  | .loc n => match S[n]? with
    | some xs => .ok (.lst xs.reverse) S
    | none => .bad
  | _ => .bad) e
/-- x.append(v) -/
def eAppend (o v : EF) : EF := fun ρ S => (o ρ S).bind fun o S => match o with
  | .loc n => (v ρ S).bind fun v S => match S[n]? with
    | some xs => if xs.length < 16777216 then .ok .non (S.set n (xs ++ [v])) else .bad
    | none => .bad
  | _ => .bad
/-- e.value of a caught exception -/
def eValue (sub : Str → Str → Option Bool) (e : EF) : EF := eUn (fun x S => match x with
  | .exo c v => if sub c c = some true then .ok v S else .bad
  | _ => .bad) e
/-- f(lambda: body), f being: try: return (None, call()) except C as error: return (error, None) -/
def eHeard (sub : Str → Str → Option Bool) (e : EF) : EF := fun ρ S => match e ρ S with
  | .ok d S => .ok (.tup [.non, d]) S
  | .exc c v S => if sub c "ArmError" = some true then .ok (.tup [.exo c v, .non]) S else .bad
  | .bad => .bad
end DL


set_option linter.all false
set_option autoImplicit false
set_option Elab.async false
set_option maxRecDepth 100000
set_option maxHeartbeats 2000000
/-! DLw: what the hand layer's values stand for, and the rules of the mirror. -/
namespace DL
open PySem PySem.Spec L2
open PyProof.Rows hiding St

/-- an exception object of the class C, its own dict at dx, its fields set as fresh ones are -/
def ExV (C : Addr) (dx a : Addr) : HO := .ext fun h => ∃ (oe : Obj) (vs : Array Value), h.get? a = some oe ∧ Zc (.ref C) (some dx) oe ∧ oe.data = .fields vs

/-- the mutable lists' addresses; those that nothing stands for just now -/
structure Bt where
  l : List Addr
  h : List Addr
/-- a list that is never changed -/
def FzL (K : PySem.W.Frag) (β : Bt) (H : Hp) (a : Addr) (xs : List V) : Prop :=
  (H a = some (.lst xs) ∧ a ∉ β.l ∧ a ∉ β.h) ∨ (∃ o, H a = some (.frz o (.lst xs))) ∨
    ∃ (o : Obj) (its : Array Value) (n : Nat), K.lookup a = some o ∧ o.cls = .type "list" ∧ o.dict = none ∧ o.data = .seq its n ∧ its.size ≤ sizeLine ∧ Vals xs its.toList
theorem FzL.sq {K : PySem.W.Frag} {β : Bt} {H : Hp} {a : Addr} {xs : List V} (h : FzL K β H a xs) : SqL K H a xs := by
  rcases h with h | h | h
  · exact .inl (.inl h.1)
  · exact .inl (.inr h)
  · exact .inr h

/-- where one stands: the written part, the module's names -/
structure Wo where
  K : PySem.W.Frag
  mg : Str → Option Value
  T : List (Addr × Str)

mutual
/-- v is d -/
def Rep (w : Wo) (β : Bt) (H : Hp) : D → V → Prop
  | .non, v => v = .non
  | .bl b, v => v = .bl b
  | .int i, v => v = .int i
  | .str x, v => v = .str x
  | .tup ds, v => ∃ a xs, v = .ref a ∧ SqT w.K H a xs ∧ RepL w β H ds xs
  | .lst ds, v => ∃ a xs, v = .ref a ∧ FzL w.K β H a xs ∧ RepL w β H ds xs
  | .loc n, v => ∃ a, v = .ref a ∧ β.l[n]? = some a
  | .exo c d, v => ∃ a C dx x, v = .ref a ∧ w.mg c = some (.ref C) ∧ H a = some (ExV C dx a) ∧ H dx = some (.xd [(("value" : Str), x)]) ∧ Rep w β H d x
  | .ty n, v => v = .ty n
  | .cls c, v => ∃ C, v = .ref C ∧ w.mg c = some (.ref C)
  | .fn _, _ => False
def RepL (w : Wo) (β : Bt) (H : Hp) : List D → List V → Prop
  | [], xs => xs = []
  | d :: ds, xs => ∃ x xr, xs = x :: xr ∧ Rep w β H d x ∧ RepL w β H ds xr
end

/-- nothing stands there, but a table of code objects perhaps -/
def NT (H : Hp) (p : Addr) : Prop := ∀ o, H p = some o → ∃ ps, o = .tbl ps
theorem NT.of {H : Hp} {p : Addr} (h : H p = none) : NT H p := fun o e => by rw [h] at e; cases e
theorem NT.lst {H : Hp} {p : Addr} {xs : List V} (n : NT H p) (h : H p = some (.lst xs)) : False := by
  obtain ⟨ps, e⟩ := n _ h
  cases e
/-- what may happen: new objects, changes at the mutable lists, tables; new hidden lists -/
structure ExtW (β : Bt) (H : Hp) (β' : Bt) (H' : Hp) : Prop where
  pre : ∃ ν, β'.l = β.l ++ ν ∧ ∀ p ∈ ν, NT H p
  hid : ∀ a ∈ β'.h, a ∈ β.h ∨ NT H a
  keep : ∀ a o, H a = some o → (∀ xs, o ≠ .lst xs) → (∀ ps, o ≠ .tbl ps) → H' a = some o
  lsts : ∀ a xs, H a = some (.lst xs) → a ∉ β.l → H' a = some (.lst xs)
  dom : ∀ a, NT H' a → NT H a
/-- what a step may do: the hidden lists are the same -/
structure Ext (β : Bt) (H : Hp) (β' : Bt) (H' : Hp) : Prop extends ExtW β H β' H' where
  heq : β'.h = β.h
instance {β β' : Bt} {H H' : Hp} : Coe (Ext β H β' H') (ExtW β H β' H') := ⟨Ext.toExtW⟩
theorem ExtW.refl (β : Bt) (H : Hp) : ExtW β H β H := ⟨⟨[], by simp, fun _ h => nomatch h⟩, fun _ h => .inl h, fun _ _ h _ _ => h, fun _ _ h _ => h, fun _ h => h⟩
theorem Ext.refl (β : Bt) (H : Hp) : Ext β H β H := ⟨.refl β H, rfl⟩
theorem ExtW.trans {β β1 β2 : Bt} {H H1 H2 : Hp} (a : ExtW β H β1 H1) (b : ExtW β1 H1 β2 H2) : ExtW β H β2 H2 := by
  obtain ⟨ν1, e1, f1⟩ := a.pre
  obtain ⟨ν2, e2, f2⟩ := b.pre
  have back : ∀ p, NT H1 p → NT H p := a.dom
  refine ⟨⟨ν1 ++ ν2, by rw [e2, e1, List.append_assoc], fun p hp => ?_⟩, fun c hc => ?_, fun c o h n1 n2 => b.keep c o (a.keep c o h n1 n2) n1 n2, fun c xs h n => b.lsts c xs (a.lsts c xs h n) fun hc => ?_, fun c h => a.dom c (b.dom c h)⟩
  · rcases List.mem_append.mp hp with z | z
    · exact f1 p z
    · exact back p (f2 p z)
  · rcases b.hid c hc with z | z
    · exact a.hid c z
    · exact .inr (back c z)
  · rw [e1] at hc
    rcases List.mem_append.mp hc with z | z
    · exact n z
    · exact (f1 c z).lst h
theorem Ext.trans {β β1 β2 : Bt} {H H1 H2 : Hp} (a : Ext β H β1 H1) (b : Ext β1 H1 β2 H2) : Ext β H β2 H2 := ⟨a.toExtW.trans b.toExtW, b.heq.trans a.heq⟩
theorem Ext.same {β : Bt} {H H' : Hp} (h : Same H H') : Ext β H β H' := ⟨⟨⟨[], by simp, fun _ h => nomatch h⟩, fun _ h => .inl h, fun a o e _ _ => h a o e, fun a xs e _ => h a _ e, fun a n o e => n o (h a o e)⟩, rfl⟩
theorem same_upd {H : Hp} {p : Addr} {o : HO} (h : H p = none) : Same H (upd H p o) := fun b u e => by
  rw [upd_ne (ne_of_none e h)]; exact e
theorem Ext.new {β : Bt} {H : Hp} {p : Addr} {o : HO} (h : H p = none) : Ext β H β (upd H p o) := .same (same_upd h)

section
variable {w : Wo} {β β' : Bt} {H H' : Hp} {a : Addr} {xs : List V} {d : D} {v : V} {ds : List D} {vs : List V}
theorem ExtW.tup (e : ExtW β H β' H') (h : SqT w.K H a xs) : SqT w.K H' a xs := by
  rcases h with (h | ⟨o, h⟩) | h
  · exact .inl (.inl (e.keep _ _ h (fun _ z => nomatch z) fun _ z => nomatch z))
  · exact .inl (.inr ⟨o, e.keep _ _ h (fun _ z => nomatch z) fun _ z => nomatch z⟩)
  · exact .inr h
theorem ExtW.fz (e : ExtW β H β' H') (h : FzL w.K β H a xs) : FzL w.K β' H' a xs := by
  rcases h with ⟨h, n, n2⟩ | ⟨o, h⟩ | h
  · refine .inl ⟨e.lsts _ _ h n, fun hc => ?_, fun hc => ?_⟩
    · obtain ⟨ν, e1, f1⟩ := e.pre
      rw [e1] at hc
      rcases List.mem_append.mp hc with z | z
      · exact n z
      · exact (f1 a z).lst h
    · rcases e.hid a hc with z | z
      · exact n2 z
      · exact z.lst h
  · exact .inr (.inl ⟨o, e.keep _ _ h (fun _ z => nomatch z) fun _ z => nomatch z⟩)
  · exact .inr (.inr h)
theorem ExtW.get (e : ExtW β H β' H') {n : Nat} (h : β.l[n]? = some a) : β'.l[n]? = some a := by
  obtain ⟨ν, e1, _⟩ := e.pre
  rw [e1, List.getElem?_append_left (List.getElem?_eq_some_iff.mp h).1]
  exact h
mutual
theorem Rep.ext (e : ExtW β H β' H') : ∀ (d : D) (v : V), Rep w β H d v → Rep w β' H' d v
  | .non, _, h => h
  | .bl _, _, h => h
  | .int _, _, h => h
  | .str _, _, h => h
  | .tup ds, _, ⟨a, xs, r, h, l⟩ => ⟨a, xs, r, e.tup h, RepL.ext e ds xs l⟩
  | .lst ds, _, ⟨a, xs, r, h, l⟩ => ⟨a, xs, r, e.fz h, RepL.ext e ds xs l⟩
  | .loc n, _, ⟨a, r, h⟩ => ⟨a, r, e.get h⟩
  | .exo c d, _, ⟨a, C, dx, x, r, h1, h2, h3, h4⟩ => ⟨a, C, dx, x, r, h1, e.keep _ _ h2 (fun _ z => by unfold ExV at z; cases z) (fun _ z => by unfold ExV at z; cases z), e.keep _ _ h3 (fun _ z => nomatch z) (fun _ z => nomatch z), Rep.ext e d x h4⟩
  | .ty _, _, h => h
  | .cls _, _, h => h
  | .fn _, _, h => h
theorem RepL.ext (e : ExtW β H β' H') : ∀ (ds : List D) (vs : List V), RepL w β H ds vs → RepL w β' H' ds vs
  | [], _, h => h
  | d :: ds, _, ⟨x, xr, r, h, l⟩ => ⟨x, xr, r, Rep.ext e d x h, RepL.ext e ds xr l⟩
end
theorem RepL.length : ∀ {ds : List D} {vs : List V}, RepL w β H ds vs → ds.length = vs.length
  | [], _, h => by subst h; rfl
  | d :: ds, _, ⟨x, xr, r, h, l⟩ => by subst r; simp [RepL.length l]
theorem RepL.get : ∀ {ds : List D} {vs : List V} {i : Nat} {d : D}, RepL w β H ds vs → ds[i]? = some d → ∃ v, vs[i]? = some v ∧ Rep w β H d v
  | [], _, _, _, _, e => by simp at e
  | d :: ds, _, 0, _, ⟨x, xr, r, h, l⟩, e => by
    simp at e; subst e; subst r; exact ⟨x, rfl, h⟩
  | d :: ds, _, i + 1, _, ⟨x, xr, r, h, l⟩, e => by
    subst r
    obtain ⟨v, h1, h2⟩ := RepL.get (i := i) l (by simpa using e)
    exact ⟨v, by simpa using h1, h2⟩
theorem RepL.set (h : Rep w β H d v) : ∀ {ds : List D} {vs : List V} (i : Nat), RepL w β H ds vs → RepL w β H (ds.set i d) (vs.set i v)
  | [], _, _, h => by subst h; exact rfl
  | d' :: ds, _, 0, ⟨x, xr, r, h', l⟩ => by subst r; exact ⟨v, xr, rfl, h, l⟩
  | d' :: ds, _, i + 1, ⟨x, xr, r, h', l⟩ => by subst r; exact ⟨x, xr.set i v, rfl, h', RepL.set h i l⟩
theorem RepL.append : ∀ {ds es : List D} {vs us : List V}, RepL w β H ds vs → RepL w β H es us → RepL w β H (ds ++ es) (vs ++ us)
  | [], _, _, _, h, l => by subst h; exact l
  | d :: ds, _, _, _, ⟨x, xr, r, h', l⟩, k => by subst r; exact ⟨x, _, rfl, h', RepL.append l k⟩
theorem RepL.mem : ∀ {ds : List D} {vs : List V}, RepL w β H ds vs → ∀ (i : Nat) (d : D), ds[i]? = some d → ∃ v, vs[i]? = some v ∧ Rep w β H d v := fun l _ _ e => l.get e

/-- the mutable lists as they stand -/
structure SOk (w : Wo) (β : Bt) (H : Hp) (S : Sto) : Prop where
  tabs : LamX.Tabs w.T H
  nodup : β.l.Nodup
  hid : ∀ a ∈ β.h, (∃ xs, H a = some (.lst xs)) ∧ a ∉ β.l
  len : β.l.length = S.length
  at_ : ∀ (n : Nat) (a : Addr) (ds : List D), β.l[n]? = some a → S[n]? = some ds → ∃ xs, H a = some (.lst xs) ∧ RepL w β H ds xs
theorem SOk.get {S : Sto} (k : SOk w β H S) {n : Nat} {a : Addr} (h : β.l[n]? = some a) : ∃ ds xs, S[n]? = some ds ∧ H a = some (.lst xs) ∧ RepL w β H ds xs := by
  have hl : n < S.length := by rw [← k.len]; exact (List.getElem?_eq_some_iff.mp h).1
  obtain ⟨xs, h1, h2⟩ := k.at_ n a S[n] h (by simp [hl])
  exact ⟨S[n], xs, by simp [hl], h1, h2⟩
theorem SOk.new {S : Sto} {p : Addr} {o : HO} (k : SOk w β H S) (h : H p = none) : SOk w β (upd H p o) S :=
  ⟨k.tabs.ext (same_upd h), k.nodup, fun a ha => ⟨(k.hid a ha).1.imp fun xs e => same_upd h _ _ e, (k.hid a ha).2⟩, k.len, fun n a ds e1 e2 => by
    obtain ⟨xs, h1, h2⟩ := k.at_ n a ds e1 e2
    exact ⟨xs, same_upd h _ _ h1, RepL.ext (Ext.new h).toExtW ds xs h2⟩⟩

/-- the slots -/
def RepE (w : Wo) (β : Bt) (H : Hp) (ρ : Env) (σ : St) : Prop := σ.length = ρ.length ∧ ∀ (i : Nat) (d : D), ρ[i]? = some (some d) → ∃ v, σ[i]? = some (some v) ∧ Rep w β H d v
theorem RepE.ext {ρ : Env} {σ : St} (k : RepE w β H ρ σ) (e : ExtW β H β' H') : RepE w β' H' ρ σ := ⟨k.1, fun i d h => by
  obtain ⟨v, h1, h2⟩ := k.2 i d h
  exact ⟨v, h1, Rep.ext e d v h2⟩⟩
theorem RepE.set {ρ : Env} {σ : St} (k : RepE w β H ρ σ) (h : Rep w β H d v) (i : Nat) : RepE w β H (ρ.set i (some d)) (σ.set i (some v)) := by
  refine ⟨by simp [k.1], fun j d' e => ?_⟩
  by_cases hj : i = j
  · subst hj
    have hl : i < ρ.length := by
      have := (List.getElem?_eq_some_iff.mp e).1
      simpa using this
    rw [List.getElem?_set_self hl] at e
    cases e
    exact ⟨v, List.getElem?_set_self (by rw [k.1]; exact hl), h⟩
  · rw [List.getElem?_set_ne hj] at e
    rw [List.getElem?_set_ne hj]
    exact k.2 j d' e
theorem RepE.unset {ρ : Env} {σ : St} (k : RepE w β H ρ σ) (i : Nat) : RepE w β H (ρ.set i none) (σ.set i none) := by
  refine ⟨by simp [k.1], fun j d' e => ?_⟩
  by_cases hj : i = j
  · subst hj
    by_cases hl : i < ρ.length
    · rw [List.getElem?_set_self hl] at e; cases e
    · rw [List.getElem?_eq_none (by simpa using hl)] at e; cases e
  · rw [List.getElem?_set_ne hj] at e
    rw [List.getElem?_set_ne hj]
    exact k.2 j d' e
theorem RepE.wipe {ρ : Env} {σ : St} (k : RepE w β H ρ σ) : ∀ vs : List Nat, RepE w β H (wipeE ρ vs) (wipe σ vs)
  | [] => k
  | v :: vs => (RepE.wipe k vs).unset v
end

/-! ### readings -/
/-- what is wanted of an exception: its class by name, its value -/
abbrev WD := WX
/-- behind a step: Q of the value, W of an exception -/
def post (w : Wo) (W : WX) (σ : St) (β : Bt) (H : Hp) (r : R D) (Q : VK) : Prop := match r with
  | .ok d S => ∀ v β' H', Ext β H β' H' → SOk w β' H' S → Rep w β' H' d v → Q v H'
  | .exc c d S => ∀ C dx v β' H', Ext β H β' H' → SOk w β' H' S → w.mg c = some (.ref C) → H' dx = some (.xd [(("value" : Str), v)]) → Rep w β' H' d v → W (.ref C) (some dx) σ H'
  | .bad => False
def postT (w : Wo) (W : WX) (σ : St) (β : Bt) (H : Hp) (r : R Bool) (Q : Bool → Hp → Prop) : Prop := match r with
  | .ok d S => ∀ β' H', Ext β H β' H' → SOk w β' H' S → Q d H'
  | .exc c d S => ∀ C dx v β' H', Ext β H β' H' → SOk w β' H' S → w.mg c = some (.ref C) → H' dx = some (.xd [(("value" : Str), v)]) → Rep w β' H' d v → W (.ref C) (some dx) σ H'
  | .bad => False
def postA (w : Wo) (W : WX) (σ : St) (β : Bt) (H : Hp) (r : R (List D)) (Q : List V → Hp → Prop) : Prop := match r with
  | .ok d S => ∀ v β' H', Ext β H β' H' → SOk w β' H' S → RepL w β' H' d v → Q v H'
  | .exc c d S => ∀ C dx v β' H', Ext β H β' H' → SOk w β' H' S → w.mg c = some (.ref C) → H' dx = some (.xd [(("value" : Str), v)]) → Rep w β' H' d v → W (.ref C) (some dx) σ H'
  | .bad => False
section
variable {w : Wo} {W : WX} {σ : St} {β β' : Bt} {H H' : Hp}
theorem post.ext {r : R D} {Q : VK} (p : post w W σ β H r Q) (e : Ext β H β' H') : post w W σ β' H' r Q := by
  cases r with
  | ok d S => exact fun v β2 H2 e2 => p v β2 H2 (e.trans e2)
  | exc c d S => exact fun C dx v β2 H2 e2 => p C dx v β2 H2 (e.trans e2)
  | bad => exact p
theorem postT.ext {r : R Bool} {Q : Bool → Hp → Prop} (p : postT w W σ β H r Q) (e : Ext β H β' H') : postT w W σ β' H' r Q := by
  cases r with
  | ok d S => exact fun β2 H2 e2 => p β2 H2 (e.trans e2)
  | exc c d S => exact fun C dx v β2 H2 e2 => p C dx v β2 H2 (e.trans e2)
  | bad => exact p
theorem postA.ext {r : R (List D)} {Q : List V → Hp → Prop} (p : postA w W σ β H r Q) (e : Ext β H β' H') : postA w W σ β' H' r Q := by
  cases r with
  | ok d S => exact fun v β2 H2 e2 => p v β2 H2 (e.trans e2)
  | exc c d S => exact fun C dx v β2 H2 e2 => p C dx v β2 H2 (e.trans e2)
  | bad => exact p
end
/-- the reading of an expression by its mirror -/
def tE (w : Wo) (W : WX) (f : EF) : TE := fun σ H Q => ∃ β ρ S, SOk w β H S ∧ RepE w β H ρ σ ∧ post w W σ β H (f ρ S) Q
def tT (w : Wo) (W : WX) (f : TF) : TT := fun σ H Q => ∃ β ρ S, SOk w β H S ∧ RepE w β H ρ σ ∧ postT w W σ β H (f ρ S) Q
def tA (w : Wo) (W : WX) (f : AF) : TA := fun σ H Q => ∃ β ρ S, SOk w β H S ∧ RepE w β H ρ σ ∧ postA w W σ β H (f ρ S) Q

section
variable {w : Wo} {W : WX} {σ : St} {β : Bt} {H : Hp} {ρ : Env} {S : Sto}
/-- the first step of two -/
theorem tE_bind {f : EF} {g : D → Sto → R D} {Q : VK} {Z : VK} (hs : SOk w β H S) (he : RepE w β H ρ σ) (h : post w W σ β H ((f ρ S).bind g) Q)
    (k : ∀ d S1 v β1 H1, Ext β H β1 H1 → SOk w β1 H1 S1 → RepE w β1 H1 ρ σ → Rep w β1 H1 d v → post w W σ β1 H1 (g d S1) Q → Z v H1) : tE w W f σ H Z := by
  refine ⟨β, ρ, S, hs, he, ?_⟩
  cases e : f ρ S with
  | ok d S1 =>
    rw [e] at h
    exact fun v β1 H1 x k1 r => k d S1 v β1 H1 x k1 (he.ext x) r (post.ext h x)
  | exc c d S1 => rw [e] at h; exact h
  | bad => rw [e] at h; exact h
theorem tE_bindT {f : EF} {g : D → Sto → R Bool} {Q : Bool → Hp → Prop} {Z : VK} (hs : SOk w β H S) (he : RepE w β H ρ σ) (h : postT w W σ β H ((f ρ S).bind g) Q)
    (k : ∀ d S1 v β1 H1, Ext β H β1 H1 → SOk w β1 H1 S1 → RepE w β1 H1 ρ σ → Rep w β1 H1 d v → postT w W σ β1 H1 (g d S1) Q → Z v H1) : tE w W f σ H Z := by
  refine ⟨β, ρ, S, hs, he, ?_⟩
  cases e : f ρ S with
  | ok d S1 =>
    rw [e] at h
    exact fun v β1 H1 x k1 r => k d S1 v β1 H1 x k1 (he.ext x) r (postT.ext h x)
  | exc c d S1 => rw [e] at h; exact h
  | bad => rw [e] at h; exact h
theorem tE_bindA {f : EF} {g : D → Sto → R (List D)} {Q : List V → Hp → Prop} {Z : VK} (hs : SOk w β H S) (he : RepE w β H ρ σ) (h : postA w W σ β H ((f ρ S).bind g) Q)
    (k : ∀ d S1 v β1 H1, Ext β H β1 H1 → SOk w β1 H1 S1 → RepE w β1 H1 ρ σ → Rep w β1 H1 d v → postA w W σ β1 H1 (g d S1) Q → Z v H1) : tE w W f σ H Z := by
  refine ⟨β, ρ, S, hs, he, ?_⟩
  cases e : f ρ S with
  | ok d S1 =>
    rw [e] at h
    exact fun v β1 H1 x k1 r => k d S1 v β1 H1 x k1 (he.ext x) r (postA.ext h x)
  | exc c d S1 => rw [e] at h; exact h
  | bad => rw [e] at h; exact h
theorem tT_bind {f : TF} {g : Bool → Sto → R D} {Q : VK} {Z : Bool → Hp → Prop} (hs : SOk w β H S) (he : RepE w β H ρ σ) (h : post w W σ β H ((f ρ S).bind g) Q)
    (k : ∀ d S1 β1 H1, Ext β H β1 H1 → SOk w β1 H1 S1 → RepE w β1 H1 ρ σ → post w W σ β1 H1 (g d S1) Q → Z d H1) : tT w W f σ H Z := by
  refine ⟨β, ρ, S, hs, he, ?_⟩
  cases e : f ρ S with
  | ok d S1 =>
    rw [e] at h
    exact fun β1 H1 x k1 => k d S1 β1 H1 x k1 (he.ext x) (post.ext h x)
  | exc c d S1 => rw [e] at h; exact h
  | bad => rw [e] at h; exact h
theorem tT_bindT {f : TF} {g : Bool → Sto → R Bool} {Q : Bool → Hp → Prop} {Z : Bool → Hp → Prop} (hs : SOk w β H S) (he : RepE w β H ρ σ) (h : postT w W σ β H ((f ρ S).bind g) Q)
    (k : ∀ d S1 β1 H1, Ext β H β1 H1 → SOk w β1 H1 S1 → RepE w β1 H1 ρ σ → postT w W σ β1 H1 (g d S1) Q → Z d H1) : tT w W f σ H Z := by
  refine ⟨β, ρ, S, hs, he, ?_⟩
  cases e : f ρ S with
  | ok d S1 =>
    rw [e] at h
    exact fun β1 H1 x k1 => k d S1 β1 H1 x k1 (he.ext x) (postT.ext h x)
  | exc c d S1 => rw [e] at h; exact h
  | bad => rw [e] at h; exact h
theorem tA_bind {f : AF} {g : List D → Sto → R D} {Q : VK} {Z : List V → Hp → Prop} (hs : SOk w β H S) (he : RepE w β H ρ σ) (h : post w W σ β H ((f ρ S).bind g) Q)
    (k : ∀ d S1 v β1 H1, Ext β H β1 H1 → SOk w β1 H1 S1 → RepE w β1 H1 ρ σ → RepL w β1 H1 d v → post w W σ β1 H1 (g d S1) Q → Z v H1) : tA w W f σ H Z := by
  refine ⟨β, ρ, S, hs, he, ?_⟩
  cases e : f ρ S with
  | ok d S1 =>
    rw [e] at h
    exact fun v β1 H1 x k1 r => k d S1 v β1 H1 x k1 (he.ext x) r (post.ext h x)
  | exc c d S1 => rw [e] at h; exact h
  | bad => rw [e] at h; exact h
theorem tA_bindA {f : AF} {g : List D → Sto → R (List D)} {Q : List V → Hp → Prop} {Z : List V → Hp → Prop} (hs : SOk w β H S) (he : RepE w β H ρ σ) (h : postA w W σ β H ((f ρ S).bind g) Q)
    (k : ∀ d S1 v β1 H1, Ext β H β1 H1 → SOk w β1 H1 S1 → RepE w β1 H1 ρ σ → RepL w β1 H1 d v → postA w W σ β1 H1 (g d S1) Q → Z v H1) : tA w W f σ H Z := by
  refine ⟨β, ρ, S, hs, he, ?_⟩
  cases e : f ρ S with
  | ok d S1 =>
    rw [e] at h
    exact fun v β1 H1 x k1 r => k d S1 v β1 H1 x k1 (he.ext x) r (postA.ext h x)
  | exc c d S1 => rw [e] at h; exact h
  | bad => rw [e] at h; exact h
/-- a value that is a scalar, or stands already -/
theorem post.val {d : D} {v : V} {Q : VK} (h : post w W σ β H (.ok d S) Q) (hs : SOk w β H S) (r : Rep w β H d v) : Q v H := h v β H (.refl _ _) hs r
theorem postT.val {c : Bool} {Q : Bool → Hp → Prop} (h : postT w W σ β H (.ok c S) Q) (hs : SOk w β H S) : Q c H := h β H (.refl _ _) hs
end

/-! ### judgements -/
def wo (X : Cx) (T : List (Addr × Str)) : Wo := ⟨X.K, X.mg, T⟩
/-- e is what its mirror says, whatever is wanted of exceptions -/
structure PX (T : List (Addr × Str)) (X : Cx) (e : Expr) (f : EF) : Prop where
  run : ∀ W, Takes X W → PE X e (tE (wo X T) W f)
structure PXT (T : List (Addr × Str)) (X : Cx) (e : Expr) (f : TF) : Prop where
  run : ∀ W, Takes X W → PT X e (tT (wo X T) W f)
structure PXW (T : List (Addr × Str)) (X : Cx) (e : Expr) (f : TF) : Prop where
  run : ∀ W, Takes X W → PW X e (tT (wo X T) W f)
structure PXA (T : List (Addr × Str)) (X : Cx) (es : List Expr) (f : AF) : Prop where
  run : ∀ W, Takes X W → PA X es (tA (wo X T) W f)
section
variable {X : Cx}
theorem PE.weak {e : Expr} {t t' : TE} (h : PE X e t) (k : ∀ σ H Q, t' σ H Q → t σ H Q) : PE X e t' := ⟨fun pins s σ H Q I q => h.run pins s σ H Q I (k σ H Q q)⟩
theorem PT.weak {e : Expr} {t t' : TT} (h : PT X e t) (k : ∀ σ H Q, t' σ H Q → t σ H Q) : PT X e t' := ⟨fun pins s σ H Q I q => h.run pins s σ H Q I (k σ H Q q)⟩
theorem PW.weak {e : Expr} {t t' : TT} (h : PW X e t) (k : ∀ σ H Q, t' σ H Q → t σ H Q) : PW X e t' := ⟨fun wh pins s σ H Q I q => h.run wh pins s σ H Q I (k σ H Q q)⟩
theorem PA.weak {e : List Expr} {t t' : TA} (h : PA X e t) (k : ∀ σ H Q, t' σ H Q → t σ H Q) : PA X e t' := ⟨fun p pins s σ H Q I q => h.run p pins s σ H Q I (k σ H Q q)⟩
theorem PS.weak {e : Stmt} {t t' : TS} (h : PS X e t) (k : ∀ D σ H, t' D σ H → t D σ H) : PS X e t' := ⟨fun pins s σ H D I q => h.run pins s σ H D I (k D σ H q)⟩
theorem PSs.weak {e : List Stmt} {t t' : TS} (h : PSs X e t) (k : ∀ D σ H, t' D σ H → t D σ H) : PSs X e t' := ⟨fun pins s σ H D I q => h.run pins s σ H D I (k D σ H q)⟩
end

section
variable {T : List (Addr × Str)} {X : Cx} {a b c : Expr} {fa fb fc : EF} {pos : Pos} {W : WX}

/-! ### names, constants -/
theorem px_of_pe {te : TE} (h : PE X a te) (k : ∀ W σ H Q, tE (wo X T) W fa σ H Q → te σ H Q) : PX T X a fa := ⟨fun W _ => PE.weak h (k W)⟩
theorem px_var (i : Nat) {x : Str} (hN : X.N[i]? = some x := by rfl) (hv : Vis X.env.scope x := by first | exact Or.inl rfl | exact Or.inr (Or.inl rfl) | exact Or.inr (Or.inr rfl)) (hd : (x == ("__debug__" : Str)) = false := by decide)
    (hcd : (x == ("__classdict__" : Str)) = false := by decide) : PX T X (.Name x pos) (eVar i) := px_of_pe (pe_var hN hv hd hcd) fun W σ H Q ⟨β, ρ, S, hs, he, h⟩ => by
  unfold eVar at h
  cases q : ρ[i]? with
  | none => rw [q] at h; exact h.elim
  | some o =>
    rw [q] at h
    cases o with
    | none => exact h.elim
    | some d =>
      obtain ⟨v, h1, h2⟩ := he.2 i d q
      exact ⟨v, h1, post.val h hs h2⟩
theorem px_const {v : V} {d : D} (h : PE X a (tC v)) (r : ∀ β H, Rep (wo X T) β H d v) : PX T X a (eC d) := px_of_pe h fun W σ H Q ⟨β, ρ, S, hs, he, h⟩ => post.val h hs (r β H)
theorem px_int {i : Int} {j : Nat} : PX T X (.Constant (.int i) j pos) (eC (.int i)) := px_const pe_int fun _ _ => rfl
theorem px_bl {i : Bool} {j : Nat} : PX T X (.Constant (.bool i) j pos) (eC (.bl i)) := px_const pe_bl fun _ _ => rfl
theorem px_non {j : Nat} : PX T X (.Constant .none j pos) (eC .non) := px_const pe_non fun _ _ => rfl
theorem px_str {x : Str} {j : Nat} : PX T X (.Constant (.str x) j pos) (eC (.str x)) := px_const pe_str fun _ _ => rfl

/-! ### two values, one value -/
/-- what an operation's reading asks is what the mirror's operation gives -/
def BinOk (T : List (Addr × Str)) (X : Cx) (r : R2) (g : D → D → Sto → R D) : Prop := ∀ (W : WX) (σ : St) (β : Bt) (H : Hp) (S : Sto) (x y : D) (v u : V) (Q : VK),
  SOk (wo X T) β H S → Rep (wo X T) β H x v → Rep (wo X T) β H y u → post (wo X T) W σ β H (g x y S) Q → r v u H Q
def UnOk (T : List (Addr × Str)) (X : Cx) (r : V → Hp → VK → Prop) (g : D → Sto → R D) : Prop := ∀ (W : WX) (σ : St) (β : Bt) (H : Hp) (S : Sto) (x : D) (v : V) (Q : VK),
  SOk (wo X T) β H S → Rep (wo X T) β H x v → post (wo X T) W σ β H (g x S) Q → r v H Q
def CallOk (T : List (Addr × Str)) (X : Cx) (r : List V → Hp → VK → Prop) (g : FN) : Prop := ∀ (W : WX) (σ : St) (β : Bt) (H : Hp) (S : Sto) (xs : List D) (vs : List V) (Q : VK),
  SOk (wo X T) β H S → RepL (wo X T) β H xs vs → post (wo X T) W σ β H (g xs S) Q → r vs H Q
theorem two {ta tb : TE} {r : R2} {g : D → D → Sto → R D} (hr : BinOk T X r g) (W : WX) {σ : St} {H : Hp} {Q : VK} (h : tE (wo X T) W (eBin g fa fb) σ H Q) : tOp r (tE (wo X T) W fa) (tE (wo X T) W fb) σ H Q := by
  obtain ⟨β, ρ, S, hs, he, h⟩ := h
  refine tE_bind hs he h fun d S1 v β1 H1 x1 k1 e1 r1 q1 => ?_
  refine tE_bind k1 e1 q1 fun d2 S2 v2 β2 H2 x2 k2 e2 r2 q2 => ?_
  exact hr W σ β2 H2 S2 d d2 v v2 Q k2 (Rep.ext x2 d v r1) r2 q2
theorem px_op {op : Operator} {r : R2} {g : D → D → Sto → R D} (ho : OpR X (binaryOp op) r) (hr : BinOk T X r g) (ha : PX T X a fa) (hb : PX T X b fb) : PX T X (.BinOp a op b pos) (eBin g fa fb) :=
  ⟨fun W t => PE.weak (pe_op ho (ha.run W t) (hb.run W t)) fun _ _ _ h => two (ta := tE (wo X T) W fa) (tb := tE (wo X T) W fb) hr W h⟩
theorem px_un {op : UnaryOp} {r : V → Hp → VK → Prop} {g : D → Sto → R D} (ho : UnR X (unaryOp op) r) (hr : UnOk T X r g) (ha : PX T X a fa) : PX T X (.UnaryOp op a pos) (eUn g fa) :=
  ⟨fun W t => PE.weak (pe_un ho (ha.run W t)) fun σ H Q ⟨β, ρ, S, hs, he, h⟩ => tE_bind hs he h fun d S1 v β1 H1 x1 k1 e1 r1 q1 => hr W σ β1 H1 S1 d v Q k1 r1 q1⟩
theorem px_cmp {op : CmpOp} {r : R2} {g : D → D → Sto → R D} (ho : OpR X (compareOp op) r) (hr : BinOk T X r g) (ha : PX T X a fa) (hb : PX T X b fb) (hm : behindInMarks op b = false) : PX T X (.Compare a [op] [b] pos) (eBin g fa fb) :=
  ⟨fun W t => PE.weak (pe_cmpR ho (ha.run W t) (hb.run W t) hm) fun _ _ _ h => two (ta := tE (wo X T) W fa) (tb := tE (wo X T) W fb) hr W h⟩
/-- a test of a value that is a bool -/
theorem test_of {t : TE} {f : EF} {σ : St} {H : Hp} {Q : Bool → Hp → Prop} (k : ∀ Q', tE (wo X T) W f σ H Q' → t σ H Q') (h : tT (wo X T) W (tOf f) σ H Q) : tTest t σ H Q := by
  obtain ⟨β, ρ, S, hs, he, h⟩ := h
  refine k _ (tE_bindT hs he h fun d S1 v β1 H1 x1 k1 e1 r1 q1 => ?_)
  cases d with
  | bl c => exact ⟨c, r1, postT.val q1 k1⟩
  | _ => exact q1.elim
theorem pxt_cmp {op : CmpOp} {r : R2} {g : D → D → Sto → R D} (ho : OpR X (compareOp op) r) (hr : BinOk T X r g) (ha : PX T X a fa) (hb : PX T X b fb) (hm : behindInMarks op b = false) : PXT T X (.Compare a [op] [b] pos) (tOf (eBin g fa fb)) :=
  ⟨fun W t => PT.weak (pt_cmpR ho (ha.run W t) (hb.run W t) hm) fun _ _ _ h => test_of (fun _ h' => two (ta := tE (wo X T) W fa) (tb := tE (wo X T) W fb) hr W h') h⟩
theorem pxt_val (ha : PX T X a fa) (he : ∀ whole, isTrue a X.env whole = (do let v ← whole; standAt a.pos; holding [v] (truthy v)) := by intro _; rfl) : PXT T X a (tOf fa) :=
  ⟨fun W t => PT.weak (pt_val (ha.run W t) he) fun σ H Q h => test_of (t := tE (wo X T) W fa) (fun _ z => z) h⟩
theorem chain {r r' : R2} {g g' : D → D → Sto → R D} (hr : BinOk T X r g) (hr' : BinOk T X r' g') {σ : St} {H : Hp} {Q : VK} (h : tE (wo X T) W (eChain g g' fa fb fc) σ H Q) : tChain r r' (tE (wo X T) W fa) (tE (wo X T) W fb) (tE (wo X T) W fc) σ H Q := by
  obtain ⟨β, ρ, S, hs, he, h⟩ := h
  refine tE_bind hs he h fun d S1 v β1 H1 x1 k1 e1 r1 q1 => ?_
  refine tE_bind k1 e1 q1 fun d2 S2 v2 β2 H2 x2 k2 e2 r2 q2 => ?_
  refine hr W σ β2 H2 S2 d d2 v v2 _ k2 (Rep.ext x2 d v r1) r2 ?_
  cases q : g d d2 S2 with
  | ok k S3 =>
    rw [q] at q2
    intro z β3 H3 x3 k3 r3
    replace q2 := post.ext (r := (R.ok k S3).bind _) q2 x3
    cases k with
    | bl c =>
      refine ⟨c, r3, ?_⟩
      cases c with
      | true =>
        simp only [if_true]
        refine tE_bind k3 (e2.ext x3) q2 fun d4 S4 v4 β4 H4 x4 k4 e4 r4 q4 => ?_
        exact hr' W σ β4 H4 S4 d2 d4 v2 v4 Q k4 (Rep.ext (x3.trans x4) d2 v2 r2) r4 q4
      | false =>
        simp only [Bool.false_eq_true, if_false]
        exact post.val q2 k3 rfl
    | _ => exact q2.elim
  | exc c' v' S3 => rw [q] at q2; exact q2
  | bad => rw [q] at q2; exact q2
end
end DL


set_option linter.all false
set_option autoImplicit false
set_option Elab.async false
set_option maxRecDepth 100000
set_option maxHeartbeats 2000000
/-! DLw2: operations, tests, arguments, displays, subscripts. -/
namespace DL
open PySem PySem.Spec L2
open PyProof.Rows hiding St b2i

section
variable {T : List (Addr × Str)} {X : Cx} {a b c : Expr} {fa fb fc : EF} {pos : Pos} {W : WX} {rest : List Expr}

theorem le_line {n : Nat} (h : n ≤ 16777216) : n ≤ sizeLine := by rw [sizeLine_eq]; exact h
/-! ### ints -/
theorem ok_iBin (f : Int → Int → Int) : BinOk T X (rI0 fun i j => .int (f i j)) (iBin f) := fun W σ β H S x y v u Q hs rx ry h => by
  cases x with
  | int i =>
    cases y with
    | int j => exact ⟨i, j, rx, ry, post.val h hs rfl⟩
    | _ => exact h.elim
  | _ => cases y <;> exact h.elim
theorem ok_iCmp (f : Int → Int → Bool) : BinOk T X (rI0 fun i j => .bl (f i j)) (iCmp f) := fun W σ β H S x y v u Q hs rx ry h => by
  cases x with
  | int i =>
    cases y with
    | int j => exact ⟨i, j, rx, ry, post.val h hs rfl⟩
    | _ => exact h.elim
  | _ => cases y <;> exact h.elim
theorem px_add (ha : PX T X a fa) (hb : PX T X b fb) : PX T X (.BinOp a .Add b pos) (eBin dAdd fa fb) := px_op op_add (ok_iBin _) ha hb
theorem px_sub (ha : PX T X a fa) (hb : PX T X b fb) : PX T X (.BinOp a .Sub b pos) (eBin dSub fa fb) := px_op op_sub (ok_iBin _) ha hb
theorem ok_mul : BinOk T X (rI CMulW fun i j => .int (i * j)) dMul := fun W σ β H S x y v u Q hs rx ry h => by
  cases x with
  | int i =>
    cases y with
    | int j =>
      unfold dMul at h
      simp only at h
      split at h
      · rename_i k
        exact ⟨i, j, rx, ry, of_decide_eq_true (p := i.natAbs.log2 + j.natAbs.log2 < 1000000) k, post.val h hs rfl⟩
      · exact h.elim
    | _ => exact h.elim
  | _ => cases y <;> exact h.elim
theorem px_mul (ha : PX T X a fa) (hb : PX T X b fb) : PX T X (.BinOp a .Mult b pos) (eBin dMul fa fb) := px_op op_mulW ok_mul ha hb
def CDivA (_ j : Int) : Prop := j ≠ 0 ∧ j.natAbs.log2 < 9000
theorem op_fdivA : OpR X (binaryOp .FloorDiv) (rI CDivA fun i j => .int (i.fdiv j)) := opI fun i j _ _ _ _ _ hc q => floordiv_int hc.1 q (.inl (PyProof.noPylong_of_log2 hc.2))
theorem ok_div : BinOk T X (rI CDivA fun i j => .int (i.fdiv j)) dDiv := fun W σ β H S x y v u Q hs rx ry h => by
  cases x with
  | int i =>
    cases y with
    | int j =>
      unfold dDiv at h
      simp only at h
      split at h
      · rename_i k
        exact ⟨i, j, rx, ry, of_decide_eq_true (p := j ≠ 0 ∧ j.natAbs.log2 < 9000) k, post.val h hs rfl⟩
      · exact h.elim
    | _ => exact h.elim
  | _ => cases y <;> exact h.elim
theorem px_div (ha : PX T X a fa) (hb : PX T X b fb) : PX T X (.BinOp a .FloorDiv b pos) (eBin dDiv fa fb) := px_op op_fdivA ok_div ha hb
theorem ok_mod : BinOk T X (rI (fun _ j => j ≠ 0) fun i j => .int (i.fmod j)) dMod := fun W σ β H S x y v u Q hs rx ry h => by
  cases x with
  | int i =>
    cases y with
    | int j =>
      unfold dMod at h
      simp only at h
      split at h
      · rename_i k
        exact ⟨i, j, rx, ry, k, post.val h hs rfl⟩
      · exact h.elim
    | _ => exact h.elim
  | _ => cases y <;> exact h.elim
theorem px_mod (ha : PX T X a fa) (hb : PX T X b fb) : PX T X (.BinOp a .Mod b pos) (eBin dMod fa fb) := px_op op_modN ok_mod ha hb
def CPowA (i j : Int) : Prop := 0 ≤ j ∧ (Builtin.Int.intBits i : Int) * j ≤ 2 ^ 27
theorem op_powA : OpR X (binaryOp .Pow) (rI CPowA fun i j => .int (i ^ j.toNat)) := opI fun i j _ _ _ _ _ hc q => pow_int hc.1 hc.2 q
theorem ok_pow : BinOk T X (rI CPowA fun i j => .int (i ^ j.toNat)) dPow := fun W σ β H S x y v u Q hs rx ry h => by
  cases x with
  | int i =>
    cases y with
    | int j =>
      unfold dPow at h
      simp only at h
      split at h
      · rename_i k
        exact ⟨i, j, rx, ry, k, post.val h hs rfl⟩
      · exact h.elim
    | _ => exact h.elim
  | _ => cases y <;> exact h.elim
theorem px_pow (ha : PX T X a fa) (hb : PX T X b fb) : PX T X (.BinOp a .Pow b pos) (eBin dPow fa fb) := px_op op_powA ok_pow ha hb
/-- x - y of ints or of bools -/
def rSubB : R2 := fun x y H Q => (∃ i j, x = .int i ∧ y = .int j ∧ Q (.int (i - j)) H) ∨ ∃ i j, x = .bl i ∧ y = .bl j ∧ Q (.int (b2i i - b2i j)) H
theorem op_subB : OpR X (binaryOp .Sub) rSubB := by
  intro pins s σ H x y v u Q I rx ry h
  rcases h with h | h
  · exact op_sub pins s σ H x y v u Q I rx ry h
  · obtain ⟨i, j, rfl, rfl, q⟩ := h
    cases (show v = Value.bool i from rx)
    cases (show u = Value.bool j from ry)
    exact sub_bool ⟨.int _, H, I.tok _, ⟨_, rfl⟩, q⟩
theorem px_subB (ha : PX T X a fa) (hb : PX T X b fb) : PX T X (.BinOp a .Sub b pos) (eBin dSubB fa fb) := px_op op_subB (fun W σ β H S x y v u Q hs rx ry h => by
  cases x with
  | int i =>
    cases y with
    | int j => exact .inl ⟨i, j, rx, ry, post.val h hs rfl⟩
    | _ => exact h.elim
  | bl i =>
    cases y with
    | bl j => exact .inr ⟨i, j, rx, ry, post.val h hs rfl⟩
    | _ => exact h.elim
  | _ => cases y <;> exact h.elim) ha hb
theorem px_neg (ha : PX T X a fa) : PX T X (.UnaryOp .USub a pos) (eUn dNeg fa) := px_un un_neg (fun W σ β H S x v Q hs rx h => by
  cases x with
  | int i => exact ⟨i, rx, post.val h hs rfl⟩
  | _ => exact h.elim) ha

/-! ### data compared -/
mutual
theorem dp_of {w : Wo} {β : Bt} {H : Hp} : ∀ (d : D) (v : V) (p : PyData), Rep w β H d v → d.pd = some p → Dp w.K H v p
  | .non, _, _, r, e => by simp only [D.pd, Option.some.injEq] at e; subst e; subst r; exact .non
  | .bl b, _, _, r, e => by simp only [D.pd, Option.some.injEq] at e; subst e; subst r; exact .bl b
  | .int b, _, _, r, e => by simp only [D.pd, Option.some.injEq] at e; subst e; subst r; exact .int b
  | .str b, _, _, r, e => by simp only [D.pd, Option.some.injEq] at e; subst e; subst r; exact .str b
  | .tup ds, _, _, ⟨a, xs, r, h, l⟩, e => by
    simp only [D.pd, Option.map_eq_some_iff] at e
    obtain ⟨ps, e1, rfl⟩ := e
    subst r
    exact .tup h (dpL_of ds xs ps l e1)
  | .lst ds, _, _, ⟨a, xs, r, h, l⟩, e => by
    simp only [D.pd, Option.map_eq_some_iff] at e
    obtain ⟨ps, e1, rfl⟩ := e
    subst r
    exact .lst h.sq (dpL_of ds xs ps l e1)
  | .loc _, _, _, _, e => by simp [D.pd] at e
  | .exo _ _, _, _, _, e => by simp [D.pd] at e
  | .ty _, _, _, _, e => by simp [D.pd] at e
  | .cls _, _, _, _, e => by simp [D.pd] at e
  | .fn _, _, _, _, e => by simp [D.pd] at e
theorem dpL_of {w : Wo} {β : Bt} {H : Hp} : ∀ (ds : List D) (vs : List V) (ps : List PyData), RepL w β H ds vs → D.pdL ds = some ps → DpAll w.K H vs ps
  | [], _, _, r, e => by simp only [D.pdL, Option.some.injEq] at e; subst e; subst r; exact .nil
  | d :: ds, _, _, ⟨x, xr, r, h, l⟩, e => by
    simp only [D.pdL, Option.bind_eq_some_iff, Option.map_eq_some_iff] at e
    obtain ⟨p, e1, ps, e2, rfl⟩ := e
    subst r
    exact .cons (dp_of d x p h e1) (dpL_of ds xr ps l e2)
end
theorem ok_eq : BinOk T X (rEqD X.K) dEq := fun W σ β H S x y v u Q hs rx ry h => by
  unfold dEq eqD at h
  cases ex : x.pd with
  | none => rw [ex] at h; exact h.elim
  | some p =>
    cases ey : y.pd with
    | none => rw [ex, ey] at h; exact h.elim
    | some q =>
      rw [ex, ey] at h
      simp only [Option.bind_some] at h
      split at h
      · rename_i c e
        split at e
        · rename_i k
          cases e
          rw [Bool.and_eq_true] at k
          exact ⟨p, q, dp_of x v p rx ex, dp_of y u q ry ey, k.1, k.2, post.val h hs rfl⟩
        · cases e
      · exact h.elim
theorem ok_ne : BinOk T X (rNeD X.K) dNe := fun W σ β H S x y v u Q hs rx ry h => by
  unfold dNe eqD at h
  cases ex : x.pd with
  | none => rw [ex] at h; exact h.elim
  | some p =>
    cases ey : y.pd with
    | none => rw [ex, ey] at h; exact h.elim
    | some q =>
      rw [ex, ey] at h
      simp only [Option.bind_some] at h
      split at h
      · rename_i c e
        split at e
        · rename_i k
          cases e
          rw [Bool.and_eq_true] at k
          exact ⟨p, q, dp_of x v p rx ex, dp_of y u q ry ey, k.1, k.2, post.val h hs rfl⟩
        · cases e
      · exact h.elim
def rInQ (K : PySem.W.Frag) (neg : Bool) : R2 := fun x y H Q => ∃ d ds, Dp K H x d ∧ (Dp K H y (.list ds) ∧ SeqAt.shaped (.list ds) = true ∨ Dp K H y (.tuple ds) ∧ SeqAt.shaped (.tuple ds) = true) ∧ SeqAt.shaped d = true ∧ Q (.bl (neg != (ds.any fun z => PyData.eqv z d))) H
theorem room_in {A : Around} {ds : List PyData} {d : PyData} (h : SeqAt.shaped d = true) (hu : A.units + 65 < cLine) : A.units + 1 + min (PyData.depthAll ds) d.depth < cLine := by
  have h1 := SeqAt.depth_of_shaped h
  have h2 : min (PyData.depthAll ds) d.depth ≤ d.depth := Nat.min_le_right _ _
  omega
theorem op_inQ (hu : X.A.units + 65 < cLine) : OpR X (compareOp .In) (rInQ X.K false) := by
  intro pins s σ H x y v u Q I rx ry h
  obtain ⟨d, ds, hd, he, sd, q⟩ := h
  obtain ⟨as, r1⟩ := Dp.reads I d x v hd rx
  rcases he with ⟨he, se⟩ | ⟨he, se⟩
  · obtain ⟨bs, r2⟩ := Dp.reads I (.list ds) y u he ry
    exact SeqAt.in_list_reads r2 r1 (SeqAt.canLay_of_shaped se) (SeqAt.canLay_of_shaped sd) (room_in sd hu) ⟨.bl _, H, I, rfl, by simpa using q⟩
  · obtain ⟨bs, r2⟩ := Dp.reads I (.tuple ds) y u he ry
    exact SeqAt.in_tuple_reads r2 r1 (SeqAt.canLay_of_shaped se) (SeqAt.canLay_of_shaped sd) (room_in sd hu) ⟨.bl _, H, I, rfl, by simpa using q⟩
theorem op_notInQ (hu : X.A.units + 65 < cLine) : OpR X (compareOp .NotIn) (rInQ X.K true) := by
  intro pins s σ H x y v u Q I rx ry h
  obtain ⟨d, ds, hd, he, sd, q⟩ := h
  obtain ⟨as, r1⟩ := Dp.reads I d x v hd rx
  rcases he with ⟨he, se⟩ | ⟨he, se⟩
  · obtain ⟨bs, r2⟩ := Dp.reads I (.list ds) y u he ry
    exact SeqAt.notIn_list_reads r2 r1 (SeqAt.canLay_of_shaped se) (SeqAt.canLay_of_shaped sd) (room_in sd hu) ⟨.bl _, H, I, rfl, by simpa using q⟩
  · obtain ⟨bs, r2⟩ := Dp.reads I (.tuple ds) y u he ry
    exact SeqAt.notIn_tuple_reads r2 r1 (SeqAt.canLay_of_shaped se) (SeqAt.canLay_of_shaped sd) (room_in sd hu) ⟨.bl _, H, I, rfl, by simpa using q⟩
theorem in_facts {β : Bt} {H : Hp} {x y : D} {v u : V} {c : Bool} (rx : Rep (wo X T) β H x v) (ry : Rep (wo X T) β H y u) (h : inD x y = some c) :
    ∃ d ds, Dp X.K H v d ∧ (Dp X.K H u (.list ds) ∧ SeqAt.shaped (.list ds) = true ∨ Dp X.K H u (.tuple ds) ∧ SeqAt.shaped (.tuple ds) = true) ∧ SeqAt.shaped d = true ∧ c = ds.any fun z => PyData.eqv z d := by
  unfold inD at h
  simp only [Option.bind_eq_some_iff] at h
  obtain ⟨p, ex, q, ey, h⟩ := h
  have hx := dp_of x v p rx ex
  have hy := dp_of y u q ry ey
  cases q with
  | tuple bs =>
    simp only at h
    split at h
    · rename_i k
      rw [Bool.and_eq_true] at k
      cases h
      exact ⟨p, bs, hx, .inr ⟨hy, k.2⟩, k.1, rfl⟩
    · cases h
  | list bs =>
    simp only at h
    split at h
    · rename_i k
      rw [Bool.and_eq_true] at k
      cases h
      exact ⟨p, bs, hx, .inl ⟨hy, k.2⟩, k.1, rfl⟩
    · cases h
  | _ => cases h
theorem ok_in : BinOk T X (rInQ X.K false) dIn := fun W σ β H S x y v u Q hs rx ry h => by
  unfold dIn at h
  cases e : inD x y with
  | none => rw [e] at h; exact h.elim
  | some c =>
    rw [e] at h
    obtain ⟨d, ds, h1, h2, h3, rfl⟩ := in_facts rx ry e
    exact ⟨d, ds, h1, h2, h3, post.val h hs (by simp [Rep])⟩
theorem ok_notIn : BinOk T X (rInQ X.K true) dNotIn := fun W σ β H S x y v u Q hs rx ry h => by
  unfold dNotIn at h
  cases e : inD x y with
  | none => rw [e] at h; exact h.elim
  | some c =>
    rw [e] at h
    obtain ⟨d, ds, h1, h2, h3, rfl⟩ := in_facts rx ry e
    exact ⟨d, ds, h1, h2, h3, post.val h hs (by simp [Rep])⟩
theorem rep_non {w : Wo} {β : Bt} {H : Hp} {d : D} {v : V} (r : Rep w β H d v) : decide (v = .non) = d.isNon := by
  cases d with
  | non => subst r; rfl
  | bl b => subst r; rfl
  | int b => subst r; rfl
  | str b => subst r; rfl
  | tup b => obtain ⟨a, xs, r, _⟩ := r; subst r; rfl
  | lst b => obtain ⟨a, xs, r, _⟩ := r; subst r; rfl
  | loc b => obtain ⟨a, r, _⟩ := r; subst r; rfl
  | exo b c => obtain ⟨a, _, _, _, r, _⟩ := r; subst r; rfl
  | ty b => subst r; rfl
  | cls b => obtain ⟨C, r, _⟩ := r; subst r; rfl
  | fn b => exact r.elim
theorem ok_isN : BinOk T X (fun x y H Q => y = .non ∧ Q (.bl (decide (x = .non))) H) dIsN := fun W σ β H S x y v u Q hs rx ry h => by
  unfold dIsN at h
  split at h
  · rename_i k
    cases y with
    | non => exact ⟨ry, post.val h hs (by rw [rep_non rx]; rfl)⟩
    | _ => cases k
  · exact h.elim
theorem ok_notN : BinOk T X (fun x y H Q => y = .non ∧ Q (.bl (!decide (x = .non))) H) dNotN := fun W σ β H S x y v u Q hs rx ry h => by
  unfold dNotN at h
  split at h
  · rename_i k
    cases y with
    | non => exact ⟨ry, post.val h hs (by rw [rep_non rx]; rfl)⟩
    | _ => cases k
  · exact h.elim
theorem ok_isB : BinOk T X rIsB dIsB := fun W σ β H S x y v u Q hs rx ry h => by
  cases x with
  | bl i =>
    cases y with
    | bl j => exact ⟨i, j, rx, ry, post.val h hs (by rw [Bool.beq_eq_decide_eq]; rfl)⟩
    | _ => exact h.elim
  | _ => cases y <;> exact h.elim
theorem ok_notB : BinOk T X rNotB dNotB := fun W σ β H S x y v u Q hs rx ry h => by
  cases x with
  | bl i =>
    cases y with
    | bl j => exact ⟨i, j, rx, ry, post.val h hs (by rw [Bool.beq_eq_decide_eq]; rfl)⟩
    | _ => exact h.elim
  | _ => cases y <;> exact h.elim

/-! ### and, or, not, if, chains -/
theorem px_one {op} {f : EF} (h : PX T X a f) : PX T X (.BoolOp op [a] pos) f := ⟨fun W t => pe_one (h.run W t)⟩
theorem px_and (ha : PX T X a fa) (hb : PX T X (.BoolOp .And (b :: rest) pos) fb) : PX T X (.BoolOp .And (a :: b :: rest) pos) (eAnd fa fb) :=
  ⟨fun W t => PE.weak (pe_and (ha.run W t) (hb.run W t)) fun σ H Q ⟨β, ρ, S, hs, he, h⟩ => tE_bind hs he h fun d S1 v β1 H1 x1 k1 e1 r1 q1 => by
    cases d with
    | bl c =>
      refine ⟨c, r1, ?_⟩
      cases c with
      | true => simp only [if_true]; exact ⟨β1, ρ, S1, k1, e1, q1⟩
      | false => simp only [Bool.false_eq_true, if_false]; exact post.val q1 k1 rfl
    | _ => exact q1.elim⟩
theorem px_or (ha : PX T X a fa) (hb : PX T X (.BoolOp .Or (b :: rest) pos) fb) : PX T X (.BoolOp .Or (a :: b :: rest) pos) (eOr fa fb) :=
  ⟨fun W t => PE.weak (pe_or (ha.run W t) (hb.run W t)) fun σ H Q ⟨β, ρ, S, hs, he, h⟩ => tE_bind hs he h fun d S1 v β1 H1 x1 k1 e1 r1 q1 => by
    cases d with
    | bl c =>
      refine ⟨c, r1, ?_⟩
      cases c with
      | true => simp only [if_true]; exact post.val q1 k1 rfl
      | false => simp only [Bool.false_eq_true, if_false]; exact ⟨β1, ρ, S1, k1, e1, q1⟩
    | _ => exact q1.elim⟩
theorem px_not (ha : PX T X a fa) : PX T X (.UnaryOp .Not a pos) (eNot fa) :=
  ⟨fun W t => PE.weak (pe_not (ha.run W t)) fun σ H Q ⟨β, ρ, S, hs, he, h⟩ => tE_bind hs he h fun d S1 v β1 H1 x1 k1 e1 r1 q1 => by
    cases d with
    | bl c => exact ⟨c, r1, post.val q1 k1 rfl⟩
    | _ => exact q1.elim⟩
theorem px_ifExp {t : TF} (hc : PXT T X c t) (ha : PX T X a fa) (hb : PX T X b fb) : PX T X (.IfExp c a b pos) (eIf t fa fb) :=
  ⟨fun W tk => PE.weak (pe_ifExp (hc.run W tk) (ha.run W tk) (hb.run W tk)) fun σ H Q ⟨β, ρ, S, hs, he, h⟩ => tT_bind hs he h fun d S1 β1 H1 x1 k1 e1 q1 => by
    cases d with
    | true => simp only [if_true]; exact ⟨β1, ρ, S1, k1, e1, q1⟩
    | false => simp only [Bool.false_eq_true, if_false]; exact ⟨β1, ρ, S1, k1, e1, q1⟩⟩
theorem px_chain {op op' : CmpOp} {r r' : R2} {g g' : D → D → Sto → R D} (ho : OpR X (compareOp op) r) (ho' : OpR X (compareOp op') r') (hr : BinOk T X r g) (hr' : BinOk T X r' g') (ha : PX T X a fa) (hb : PX T X b fb) (hc : PX T X c fc)
    (hm : lastMarks [op, op'] [b, c] = false := by with_unfolding_all rfl) : PX T X (.Compare a [op, op'] [b, c] pos) (eChain g g' fa fb fc) :=
  ⟨fun W t => PE.weak (pe_chain ho ho' (ha.run W t) (hb.run W t) (hc.run W t) hm) fun _ _ _ h => chain hr hr' h⟩
theorem pxt_chain {op op' : CmpOp} {r r' : R2} {g g' : D → D → Sto → R D} (ho : OpR X (compareOp op) r) (ho' : OpR X (compareOp op') r') (hr : BinOk T X r g) (hr' : BinOk T X r' g') (ha : PX T X a fa) (hb : PX T X b fb) (hc : PX T X c fc)
    (hm : lastMarks [op, op'] [b, c] = false := by with_unfolding_all rfl) : PXT T X (.Compare a [op, op'] [b, c] pos) (tOf (eChain g g' fa fb fc)) :=
  ⟨fun W t => PT.weak (pt_chain ho ho' (ha.run W t) (hb.run W t) (hc.run W t) hm) fun _ _ _ h => test_of (fun _ h' => chain hr hr' h') h⟩
/-! tests -/
variable {ta tb : TF}
theorem PXW.t (h : PXW T X a ta) : PXT T X a ta := ⟨fun W t => (h.run W t).pt⟩
theorem pxw_and1 (h : PXT T X a ta) : PXW T X (.BoolOp .And [a] pos) ta := ⟨fun W t => pw_and1 (h.run W t)⟩
theorem pxw_or1 (h : PXT T X a ta) : PXW T X (.BoolOp .Or [a] pos) ta := ⟨fun W t => pw_or1 (h.run W t)⟩
theorem pxw_and (ha : PXT T X a ta) (hb : PXW T X (.BoolOp .And (b :: rest) pos) tb) : PXW T X (.BoolOp .And (a :: b :: rest) pos) (DL.tAnd ta tb) :=
  ⟨fun W t => PW.weak (pw_and (ha.run W t) (hb.run W t)) fun σ H Q ⟨β, ρ, S, hs, he, h⟩ => tT_bindT hs he h fun d S1 β1 H1 x1 k1 e1 q1 => by
    cases d with
    | true => simp only [if_true]; exact ⟨β1, ρ, S1, k1, e1, q1⟩
    | false => simp only [Bool.false_eq_true, if_false]; exact postT.val q1 k1⟩
theorem pxw_or (ha : PXT T X a ta) (hb : PXW T X (.BoolOp .Or (b :: rest) pos) tb) : PXW T X (.BoolOp .Or (a :: b :: rest) pos) (DL.tOr ta tb) :=
  ⟨fun W t => PW.weak (pw_or (ha.run W t) (hb.run W t)) fun σ H Q ⟨β, ρ, S, hs, he, h⟩ => tT_bindT hs he h fun d S1 β1 H1 x1 k1 e1 q1 => by
    cases d with
    | true => simp only [if_true]; exact postT.val q1 k1
    | false => simp only [Bool.false_eq_true, if_false]; exact ⟨β1, ρ, S1, k1, e1, q1⟩⟩
theorem pxt_not (ha : PXT T X a ta) : PXT T X (.UnaryOp .Not a pos) (DL.tNot ta) :=
  ⟨fun W t => PT.weak (pt_not (ha.run W t)) fun σ H Q ⟨β, ρ, S, hs, he, h⟩ => tT_bindT hs he h fun d S1 β1 H1 x1 k1 e1 q1 => postT.val q1 k1⟩
theorem RepL.isEmpty {w : Wo} {β : Bt} {H : Hp} {ds : List D} {vs : List V} (l : RepL w β H ds vs) : (!vs.isEmpty) = !ds.isEmpty := by
  cases ds with
  | nil => subst l; rfl
  | cons d ds => obtain ⟨x, xr, r, _⟩ := l; subst r; rfl
theorem truV_of {β : Bt} {H : Hp} {S : Sto} {d : D} {v : V} {k : Bool} (hs : SOk (wo X T) β H S) (r : Rep (wo X T) β H d v) (h : truD S d = some k) : TruV X.K v H k := by
  cases d with
  | non => subst r; cases h; rfl
  | bl b => subst r; cases h; rfl
  | int b => subst r; cases h; rfl
  | str b =>
    subst r
    have h' : (if b.length ≤ 16777216 then some (b.length != 0) else none) = some k := h
    by_cases hz : b.length ≤ 16777216
    · rw [if_pos hz] at h'
      cases h'
      refine ⟨le_line hz, ?_⟩
      rw [Bool.eq_iff_iff]
      simp
    · rw [if_neg hz] at h'
      cases h'
  | tup b => obtain ⟨a, xs, rfl, h1, l⟩ := r; cases h; exact .inr (.inl ⟨xs, h1, l.isEmpty.symm⟩)
  | lst b => obtain ⟨a, xs, rfl, h1, l⟩ := r; cases h; exact .inl ⟨xs, h1.sq, l.isEmpty.symm⟩
  | loc n =>
    obtain ⟨a, rfl, h1⟩ := r
    obtain ⟨ds, xs, h2, h3, l⟩ := hs.get h1
    simp only [truD, h2, Option.map_some, Option.some.injEq] at h
    subst h
    exact .inl ⟨xs, .of h3, l.isEmpty.symm⟩
  | _ => cases h
theorem pxt_truth (ha : PX T X a fa) (he : ∀ whole, isTrue a X.env whole = (do let v ← whole; standAt a.pos; holding [v] (truthy v)) := by intro _; rfl) : PXT T X a (tTru fa) :=
  ⟨fun W t => PT.weak (pt_truth (ha.run W t) he) fun σ H Q ⟨β, ρ, S, hs, he, h⟩ => tE_bindT hs he h fun d S1 v β1 H1 x1 k1 e1 r1 q1 => by
    cases e : truD S1 d with
    | none => rw [e] at q1; exact q1.elim
    | some k => rw [e] at q1; exact ⟨k, truV_of k1 r1 e, postT.val q1 k1⟩⟩

/-! ### arguments, displays -/
variable {es : List Expr} {ga : AF} {e : Expr}
theorem pxa_nil : PXA T X [] aNil := ⟨fun W t => PA.weak pa_nil fun σ H Q ⟨β, ρ, S, hs, he, h⟩ => h [] β H (.refl _ _) hs rfl⟩
theorem pxa_cons (ha : PX T X e fa) (hr : PXA T X es ga) (hs : starEach (e :: es) X.env = (false, eval e X.env) :: starEach es X.env := by rfl) : PXA T X (e :: es) (aCons fa ga) :=
  ⟨fun W t => PA.weak (pa_cons (ha.run W t) (hr.run W t) hs) fun σ H Q ⟨β, ρ, S, hs, he, h⟩ => tE_bindA hs he h fun d S1 v β1 H1 x1 k1 e1 r1 q1 =>
    tA_bindA k1 e1 q1 fun ds S2 vs β2 H2 x2 k2 e2 r2 q2 => q2 (v :: vs) β2 H2 (.refl _ _) k2 ⟨v, vs, rfl, Rep.ext x2 d v r1, r2⟩⟩
theorem px_tup {k : Nat} (h : PXA T X es ga) : PX T X (.Tuple es k pos) (eTup ga) :=
  ⟨fun W t => PE.weak (pe_tup (h.run W t)) fun σ H Q ⟨β, ρ, S, hs, he, h⟩ => tA_bind hs he h fun ds S1 vs β1 H1 x1 k1 e1 r1 q1 => by
    split at q1
    · rename_i hz
      exact ⟨le_line (by rw [← r1.length]; exact hz), fun p hp => q1 (.ref p) β1 _ (.new hp) (k1.new hp) ⟨p, vs, rfl, .of upd_same, RepL.ext (Ext.new hp).toExtW ds vs r1⟩⟩
    · exact q1.elim⟩
theorem notin_of {w : Wo} {β : Bt} {H : Hp} {S : Sto} {p : Addr} (k : SOk w β H S) (h : H p = none) : p ∉ β.l ∧ p ∉ β.h := by
  refine ⟨fun hm => ?_, fun hm => by
    obtain ⟨xs, e⟩ := (k.hid p hm).1
    rw [h] at e
    cases e⟩
  obtain ⟨n, hn⟩ := List.getElem?_of_mem hm
  obtain ⟨_, _, _, e, _⟩ := k.get hn
  rw [h] at e
  cases e
theorem px_lst (h : PXA T X es ga) : PX T X (.List es pos) (eLst ga) :=
  ⟨fun W t => PE.weak (pe_lst (h.run W t)) fun σ H Q ⟨β, ρ, S, hs, he, h⟩ => tA_bind hs he h fun ds S1 vs β1 H1 x1 k1 e1 r1 q1 => by
    split at q1
    · rename_i hz
      exact ⟨le_line (by rw [← r1.length]; exact hz), fun p hp => q1 (.ref p) β1 _ (.new hp) (k1.new hp) ⟨p, vs, rfl, .inl ⟨upd_same, notin_of k1 hp⟩, RepL.ext (Ext.new hp).toExtW ds vs r1⟩⟩
    · exact q1.elim⟩
/-- a new mutable list -/
theorem Ext.newLoc {β : Bt} {H : Hp} {p : Addr} {o : HO} (h : H p = none) : Ext β H ⟨β.l ++ [p], β.h⟩ (upd H p o) :=
  ⟨⟨⟨[p], rfl, fun q hq => by rw [List.mem_singleton.mp hq]; exact .of h⟩, fun _ h => .inl h, (Ext.new (β := β) h).keep, (Ext.new h).lsts, (Ext.new (β := β) h).dom⟩, rfl⟩
theorem SOk.newLoc {w : Wo} {β : Bt} {H : Hp} {S : Sto} {p : Addr} {ds : List D} {vs : List V} (k : SOk w β H S) (h : H p = none) (r : RepL w β H ds vs) : SOk w ⟨β.l ++ [p], β.h⟩ (upd H p (.lst vs)) (S ++ [ds]) := by
  have x : Ext β H ⟨β.l ++ [p], β.h⟩ (upd H p (.lst vs)) := Ext.newLoc h
  refine ⟨k.tabs.ext (same_upd h), ?_, fun a ha => ⟨(k.hid a ha).1.imp fun xs e => same_upd h _ _ e, fun z => ?_⟩, by simp [k.len], fun n a es e1 e2 => ?_⟩
  · rw [List.nodup_append]
    exact ⟨k.nodup, by simp, fun a ha b hb => by rw [List.mem_singleton.mp hb]; exact fun z => (notin_of k h).1 (z ▸ ha)⟩
  · rcases List.mem_append.mp z with z | z
    · exact (k.hid a ha).2 z
    · rw [List.mem_singleton.mp z] at ha
      exact (notin_of k h).2 ha
  · by_cases hn : n < β.l.length
    · have e1 : (β.l ++ [p])[n]? = some a := e1
      rw [List.getElem?_append_left hn] at e1
      rw [List.getElem?_append_left (by rw [← k.len]; exact hn)] at e2
      obtain ⟨xs, h1, h2⟩ := k.at_ n a es e1 e2
      exact ⟨xs, same_upd h _ _ h1, RepL.ext x es xs h2⟩
    · have e1 : (β.l ++ [p])[n]? = some a := e1
      rw [List.getElem?_append_right (by omega)] at e1
      rw [List.getElem?_append_right (by rw [← k.len]; omega)] at e2
      have hn0 : n - β.l.length = 0 := by
        have := (List.getElem?_eq_some_iff.mp e1).1
        simp at this; omega
      rw [hn0] at e1
      rw [← k.len, hn0] at e2
      simp at e1 e2
      subst e1; subst e2
      exact ⟨vs, upd_same, RepL.ext x ds vs r⟩
theorem px_new (h : PXA T X es ga) : PX T X (.List es pos) (eNew ga) :=
  ⟨fun W t => PE.weak (pe_lst (h.run W t)) fun σ H Q ⟨β, ρ, S, hs, he, h⟩ => tA_bind hs he h fun ds S1 vs β1 H1 x1 k1 e1 r1 q1 => by
    split at q1
    · rename_i hz
      exact ⟨le_line (by rw [← r1.length]; exact hz), fun p hp => q1 (.ref p) ⟨β1.l ++ [p], β1.h⟩ _ (.newLoc hp) (k1.newLoc hp r1) ⟨p, rfl, by show (β1.l ++ [p])[S1.length]? = some p; rw [← k1.len]; simp⟩⟩
    · exact q1.elim⟩

/-! ### subscripts -/
theorem atI_rep {w : Wo} {β : Bt} {H : Hp} {ds : List D} {vs : List V} {i : Int} {d : D} (l : RepL w β H ds vs) (h : atI ds i = some d) : ∃ v, atI vs i = some v ∧ Rep w β H d v := by
  unfold atI at h ⊢
  rw [l.length] at h
  cases e : ixN vs.length i with
  | none => rw [e] at h; cases h
  | some j =>
    rw [e] at h
    exact l.get h
theorem px_ix (ha : PX T X a fa) (hb : PX T X b fb) (hs : PlainIx b := by exact fun _ _ => rfl) : PX T X (.Subscript a b pos) (eBin dIx fa fb) :=
  ⟨fun W t => PE.weak (pe_ix (IxR.or ix_tup ix_list) (ha.run W t) (hb.run W t) hs) fun σ H Q h => two (X := X) (ta := tE (wo X T) W fa) (tb := tE (wo X T) W fb) (g := dIx) (fun W σ β H S x y v u Q hs rx ry h => by
    cases y with
    | int i =>
      subst ry
      cases x with
      | tup ds =>
        obtain ⟨p, xs, rfl, h1, l⟩ := rx
        simp only [dIx] at h
        cases e : atI ds i with
        | none => rw [e] at h; exact h.elim
        | some d =>
          rw [e] at h
          obtain ⟨z, h2, h3⟩ := atI_rep l e
          exact .inl ⟨p, xs, i, z, rfl, rfl, h1, h2, post.val h hs h3⟩
      | lst ds =>
        obtain ⟨p, xs, rfl, h1, l⟩ := rx
        simp only [dIx] at h
        cases e : atI ds i with
        | none => rw [e] at h; exact h.elim
        | some d =>
          rw [e] at h
          obtain ⟨z, h2, h3⟩ := atI_rep l e
          exact .inr ⟨p, xs, i, z, rfl, rfl, h1.sq, h2, post.val h hs h3⟩
      | loc n =>
        obtain ⟨p, rfl, h1⟩ := rx
        obtain ⟨ds, xs, e1, h2, l⟩ := hs.get h1
        simp only [dIx, e1] at h
        cases e : atI ds i with
        | none => rw [e] at h; exact h.elim
        | some d =>
          rw [e] at h
          obtain ⟨z, h3, h4⟩ := atI_rep l e
          exact .inr ⟨p, xs, i, z, rfl, rfl, .of h2, h3, post.val h hs h4⟩
      | _ => exact h.elim
    | _ => exact h.elim) W h⟩

/-! ### built-ins -/
theorem px_blt {id : String} {x : Str} {r : List V → Hp → VK → Prop} {g : FN} {p : Pos} (hc : CallR X (.builtin id) r) (hk : CallOk T X r g) (hg : Gl X x) (hm : X.mg x = none) (hv : bootBuiltins x = some (.builtin id)) (ha : PXA T X (e :: es) ga)
    (hn : x ≠ "__name__" := by decide) (hdb : (x == ("__debug__" : Str)) = false := by decide) (he : starEach (e :: es) X.env = (false, eval e X.env) :: starEach es X.env := by rfl) (hpl : (backTo pos (starEach es X.env)).any (·.1) = false := by rfl) :
    PX T X (.Call (.Name x p) (e :: es) [] pos) (eCall g ga) :=
  ⟨fun W t => PE.weak (pe_callB hc hg hm hv (ha.run W t) hn hdb he hpl) fun σ H Q ⟨β, ρ, S, hs, he, h⟩ => tA_bind hs he h fun ds S1 vs β1 H1 x1 k1 e1 r1 q1 => hk W σ β1 H1 S1 ds vs Q k1 r1 q1⟩
theorem px_bty {id : String} {x : Str} {r : List V → Hp → VK → Prop} {g : FN} {p : Pos} (hc : CallR X (.type id) r) (hk : CallOk T X r g) (hg : Gl X x) (hm : X.mg x = none) (hv : bootBuiltins x = some (.type id)) (ha : PXA T X (e :: es) ga)
    (hn : x ≠ "__name__" := by decide) (hdb : (x == ("__debug__" : Str)) = false := by decide) (he : starEach (e :: es) X.env = (false, eval e X.env) :: starEach es X.env := by rfl) (hpl : (backTo pos (starEach es X.env)).any (·.1) = false := by rfl) :
    PX T X (.Call (.Name x p) (e :: es) [] pos) (eCall g ga) :=
  ⟨fun W t => PE.weak (pe_callTy hc hg hm hv (ha.run W t) hn hdb he hpl) fun σ H Q ⟨β, ρ, S, hs, he, h⟩ => tA_bind hs he h fun ds S1 vs β1 H1 x1 k1 e1 r1 q1 => hk W σ β1 H1 S1 ds vs Q k1 r1 q1⟩
theorem RepL.one {w : Wo} {β : Bt} {H : Hp} {d : D} {vs : List V} (l : RepL w β H [d] vs) : ∃ v, vs = [v] ∧ Rep w β H d v := by
  obtain ⟨x, xr, rfl, r, e⟩ := l
  have e' : xr = [] := e
  subst e'
  exact ⟨x, rfl, r⟩
theorem RepL.two {w : Wo} {β : Bt} {H : Hp} {d e : D} {vs : List V} (l : RepL w β H [d, e] vs) : ∃ v u, vs = [v, u] ∧ Rep w β H d v ∧ Rep w β H e u := by
  obtain ⟨x, xr, rfl, r, l⟩ := l
  obtain ⟨u, rfl, r2⟩ := RepL.one l
  exact ⟨x, u, rfl, r, r2⟩
theorem ok_abs : CallOk T X (fun xs H Q => ∃ i, xs = [.int i] ∧ Q (.int (if i < 0 then -i else i)) H) fAbs := fun W σ β H S xs vs Q hs l h => by
  unfold fAbs at h
  split at h
  · obtain ⟨v, rfl, r⟩ := RepL.one l
    exact ⟨_, by rw [show v = _ from r], post.val h hs rfl⟩
  · exact h.elim
theorem ok_int : CallOk T X (fun xs H Q => (∃ i, xs = [.int i] ∧ Q (.int i) H) ∨ ∃ k, xs = [.bl k] ∧ Q (.int (if k then 1 else 0)) H) fInt := fun W σ β H S xs vs Q hs l h => by
  unfold fInt at h
  split at h
  · obtain ⟨v, rfl, r⟩ := RepL.one l
    exact .inl ⟨_, by rw [show v = _ from r], post.val h hs rfl⟩
  · obtain ⟨v, rfl, r⟩ := RepL.one l
    exact .inr ⟨_, by rw [show v = _ from r], post.val h hs rfl⟩
  · exact h.elim
theorem ok_max : CallOk T X (fun xs H Q => ∃ i j, xs = [.int i, .int j] ∧ Q (.int (if j > i then j else i)) H) fMax := fun W σ β H S xs vs Q hs l h => by
  unfold fMax at h
  split at h
  · obtain ⟨v, u, rfl, r, r2⟩ := RepL.two l
    exact ⟨_, _, by rw [show v = _ from r, show u = _ from r2], post.val h hs rfl⟩
  · exact h.elim
theorem ok_min : CallOk T X (fun xs H Q => ∃ i j, xs = [.int i, .int j] ∧ Q (.int (if j < i then j else i)) H) fMin := fun W σ β H S xs vs Q hs l h => by
  unfold fMin at h
  split at h
  · obtain ⟨v, u, rfl, r, r2⟩ := RepL.two l
    exact ⟨_, _, by rw [show v = _ from r, show u = _ from r2], post.val h hs rfl⟩
  · exact h.elim
theorem lenV_of {β : Bt} {H : Hp} {S : Sto} {d : D} {v : V} {n : Nat} (hs : SOk (wo X T) β H S) (r : Rep (wo X T) β H d v) (h : lenD S d = some n) : LenV X.K v H n := by
  cases d with
  | str b =>
    subst r
    have h' : (if b.length ≤ 16777216 then some b.length else none) = some n := h
    by_cases hz : b.length ≤ 16777216
    · rw [if_pos hz] at h'
      cases h'
      exact ⟨le_line hz, rfl⟩
    · rw [if_neg hz] at h'
      cases h'
  | tup b => obtain ⟨a, xs, rfl, h1, l⟩ := r; cases h; exact .inr ⟨xs, h1, l.length⟩
  | lst b => obtain ⟨a, xs, rfl, h1, l⟩ := r; cases h; exact .inl ⟨xs, h1.sq, l.length⟩
  | loc n =>
    obtain ⟨a, rfl, h1⟩ := r
    obtain ⟨ds, xs, h2, h3, l⟩ := hs.get h1
    simp only [lenD, h2, Option.map_some, Option.some.injEq] at h
    subst h
    exact .inl ⟨xs, .of h3, l.length⟩
  | _ => cases h
theorem ok_len : CallOk T X (fun xs H Q => ∃ x n, xs = [x] ∧ LenV X.K x H n ∧ Q (.int n) H) fLen := fun W σ β H S xs vs Q hs l h => by
  unfold fLen at h
  split at h
  · split at h
    · rename_i d n e
      obtain ⟨v, rfl, r⟩ := RepL.one l
      exact ⟨v, n, rfl, lenV_of hs r e, post.val h hs rfl⟩
    · exact h.elim
  · exact h.elim
theorem repL_bools {w : Wo} {β : Bt} {H : Hp} : ∀ (ds : List D) (vs : List V) (bs : List Bool), RepL w β H ds vs → bools ds = some bs → vs = bs.map V.bl
  | [], vs, bs, l, e => by
    have e' : [] = bs := Option.some.inj e
    subst e'
    exact l
  | d :: ds, vs, bs, l, e => by
    obtain ⟨x, xr, rfl, h, l⟩ := l
    cases d with
    | bl b =>
      simp only [bools, Option.map_eq_some_iff] at e
      obtain ⟨cs, e1, rfl⟩ := e
      rw [show x = _ from h, repL_bools ds xr cs l e1]
      rfl
    | _ => cases e
theorem repL_ints {w : Wo} {β : Bt} {H : Hp} : ∀ (ds : List D) (vs : List V) (bs : List Int), RepL w β H ds vs → intsOf ds = some bs → vs = bs.map V.int
  | [], vs, bs, l, e => by
    have e' : [] = bs := Option.some.inj e
    subst e'
    exact l
  | d :: ds, vs, bs, l, e => by
    obtain ⟨x, xr, rfl, h, l⟩ := l
    cases d with
    | int b =>
      simp only [intsOf, Option.map_eq_some_iff] at e
      obtain ⟨cs, e1, rfl⟩ := e
      rw [show x = _ from h, repL_ints ds xr cs l e1]
      rfl
    | _ => cases e
theorem ok_all : CallOk T X (rAll X.K) fAll := fun W σ β H S xs vs Q hs l h => by
  unfold fAll at h
  split at h
  · split at h
    · rename_i ds bs e
      obtain ⟨v, rfl, a, ys, rfl, r, l⟩ := RepL.one l
      exact ⟨a, bs, rfl, by rw [← repL_bools _ _ _ l e]; exact r.sq, post.val h hs rfl⟩
    · exact h.elim
  · exact h.elim
theorem ok_any : CallOk T X (rAny X.K) fAny := fun W σ β H S xs vs Q hs l h => by
  unfold fAny at h
  split at h
  · split at h
    · rename_i ds bs e
      obtain ⟨v, rfl, a, ys, rfl, r, l⟩ := RepL.one l
      exact ⟨a, bs, rfl, by rw [← repL_bools _ _ _ l e]; exact r.sq, post.val h hs rfl⟩
    · exact h.elim
  · exact h.elim
theorem ok_sum : CallOk T X (rSum X.K) fSum := fun W σ β H S xs vs Q hs l h => by
  unfold fSum at h
  split at h
  · split at h
    · rename_i ds bs e
      obtain ⟨v, rfl, a, ys, rfl, r, l⟩ := RepL.one l
      exact ⟨a, bs, rfl, by rw [← repL_ints _ _ _ l e]; exact r.sq, post.val h hs rfl⟩
    · exact h.elim
  · exact h.elim
end
end DL


set_option linter.all false
set_option autoImplicit false
set_option Elab.async false
set_option maxRecDepth 100000
set_option maxHeartbeats 2000000
/-! DLw3: statements, targets, loops, comprehensions, defs and their calls. -/
namespace DL
open PySem PySem.Spec L2
open PyProof.Rows hiding St b2i

/-- behind a statement -/
def postS (w : Wo) (W : WX) (β : Bt) (H : Hp) (r : RS) (D : Ends) : Prop := match r with
  | .nx ρ S => ∀ σ' β' H', Ext β H β' H' → SOk w β' H' S → RepE w β' H' ρ σ' → D.nx σ' H'
  | .bk ρ S => ∀ σ' β' H', Ext β H β' H' → SOk w β' H' S → RepE w β' H' ρ σ' → D.bk σ' H'
  | .ct ρ S => ∀ σ' β' H', Ext β H β' H' → SOk w β' H' S → RepE w β' H' ρ σ' → D.ct σ' H'
  | .rt d S => ∀ v β' H', Ext β H β' H' → SOk w β' H' S → Rep w β' H' d v → D.rt v H'
  | .exc c d ρ S => ∀ C dx v σ' β' H', Ext β H β' H' → SOk w β' H' S → RepE w β' H' ρ σ' → w.mg c = some (.ref C) → H' dx = some (.xd [(("value" : Str), v)]) → Rep w β' H' d v → W (.ref C) (some dx) σ' H'
  | .bad => False
section
variable {w : Wo} {W : WX} {β β' : Bt} {H H' : Hp} {r : RS} {D D' : Ends}
theorem postS.ext (p : postS w W β H r D) (e : Ext β H β' H') : postS w W β' H' r D := by
  cases r with
  | nx ρ S => exact fun σ β2 H2 e2 => p σ β2 H2 (e.trans e2)
  | bk ρ S => exact fun σ β2 H2 e2 => p σ β2 H2 (e.trans e2)
  | ct ρ S => exact fun σ β2 H2 e2 => p σ β2 H2 (e.trans e2)
  | rt d S => exact fun v β2 H2 e2 => p v β2 H2 (e.trans e2)
  | exc c d ρ S => exact fun C dx v σ β2 H2 e2 => p C dx v σ β2 H2 (e.trans e2)
  | bad => exact p
end
def tS (w : Wo) (W : WX) (g : SF) : TS := fun D σ H => ∃ β ρ S, SOk w β H S ∧ RepE w β H ρ σ ∧ postS w W β H (g ρ S) D
section
variable {w : Wo} {W : WX} {σ : St} {β : Bt} {H : Hp} {ρ : Env} {S : Sto} {Y : Ends}
theorem tE_st {f : EF} {g : D → Sto → RS} {Z : VK} (hs : SOk w β H S) (he : RepE w β H ρ σ) (h : postS w W β H ((f ρ S).st ρ g) Y)
    (k : ∀ d S1 v β1 H1, Ext β H β1 H1 → SOk w β1 H1 S1 → RepE w β1 H1 ρ σ → Rep w β1 H1 d v → postS w W β1 H1 (g d S1) Y → Z v H1) : tE w W f σ H Z := by
  refine ⟨β, ρ, S, hs, he, ?_⟩
  cases e : f ρ S with
  | ok d S1 =>
    rw [e] at h
    exact fun v β1 H1 x k1 r => k d S1 v β1 H1 x k1 (he.ext x) r (postS.ext h x)
  | exc c d S1 =>
    rw [e] at h
    exact fun C dx v β1 H1 x k1 => h C dx v σ β1 H1 x k1 (he.ext x)
  | bad => rw [e] at h; exact h
theorem tT_st {f : TF} {g : Bool → Sto → RS} {Z : Bool → Hp → Prop} (hs : SOk w β H S) (he : RepE w β H ρ σ) (h : postS w W β H ((f ρ S).st ρ g) Y)
    (k : ∀ d S1 β1 H1, Ext β H β1 H1 → SOk w β1 H1 S1 → RepE w β1 H1 ρ σ → postS w W β1 H1 (g d S1) Y → Z d H1) : tT w W f σ H Z := by
  refine ⟨β, ρ, S, hs, he, ?_⟩
  cases e : f ρ S with
  | ok d S1 =>
    rw [e] at h
    exact fun β1 H1 x k1 => k d S1 β1 H1 x k1 (he.ext x) (postS.ext h x)
  | exc c d S1 =>
    rw [e] at h
    exact fun C dx v β1 H1 x k1 => h C dx v σ β1 H1 x k1 (he.ext x)
  | bad => rw [e] at h; exact h
theorem tA_st {f : AF} {g : List D → Sto → RS} {Z : List V → Hp → Prop} (hs : SOk w β H S) (he : RepE w β H ρ σ) (h : postS w W β H ((f ρ S).st ρ g) Y)
    (k : ∀ d S1 v β1 H1, Ext β H β1 H1 → SOk w β1 H1 S1 → RepE w β1 H1 ρ σ → RepL w β1 H1 d v → postS w W β1 H1 (g d S1) Y → Z v H1) : tA w W f σ H Z := by
  refine ⟨β, ρ, S, hs, he, ?_⟩
  cases e : f ρ S with
  | ok d S1 =>
    rw [e] at h
    exact fun v β1 H1 x k1 r => k d S1 v β1 H1 x k1 (he.ext x) r (postS.ext h x)
  | exc c d S1 =>
    rw [e] at h
    exact fun C dx v β1 H1 x k1 => h C dx v σ β1 H1 x k1 (he.ext x)
  | bad => rw [e] at h; exact h
theorem postS.nx_ (h : postS w W β H (.nx ρ S) Y) (hs : SOk w β H S) (he : RepE w β H ρ σ) : Y.nx σ H := h σ β H (.refl _ _) hs he
end
structure PXS (T : List (Addr × Str)) (X : Cx) (s : Stmt) (g : SF) : Prop where
  run : ∀ W, Takes X W → PS X s (tS (wo X T) W g)
structure PXSs (T : List (Addr × Str)) (X : Cx) (s : List Stmt) (g : SF) : Prop where
  run : ∀ W, Takes X W → PSs X s (tS (wo X T) W g)
/-- a target's reading: the slots out of ws stay -/
def Outof (ws : List Nat) (σ σ' : St) : Prop := σ'.length = σ.length ∧ ∀ i, i ∉ ws → σ'[i]? = σ[i]?
def tG (w : Wo) (g : TgF) (ws : List Nat) : TG := fun v σ H Q => ∃ β d ρ ρ', Rep w β H d v ∧ RepE w β H ρ σ ∧ g d ρ = some ρ' ∧ ∀ σ', RepE w β H ρ' σ' → Outof ws σ σ' → Q σ' H
def tGs (w : Wo) (g : TgsF) (ws : List Nat) : TGs := fun v σ H Q => ∃ β d ρ ρ', RepL w β H d v ∧ RepE w β H ρ σ ∧ g d ρ = some ρ' ∧ ∀ σ', RepE w β H ρ' σ' → Outof ws σ σ' → Q σ' H
structure PXG (T : List (Addr × Str)) (X : Cx) (tg : Expr) (g : TgF) (ws : List Nat) : Prop where
  run : PG X tg (tG (wo X T) g ws)
structure PXGs (T : List (Addr × Str)) (X : Cx) (tg : List Expr) (g : TgsF) (ws : List Nat) : Prop where
  run : PGs X tg (tGs (wo X T) g ws)
theorem PG.weak {X : Cx} {e : Expr} {t t' : TG} (h : PG X e t) (k : ∀ v σ H Q, t' v σ H Q → t v σ H Q) : PG X e t' := ⟨fun pins s σ H v u Q I r q => h.run pins s σ H v u Q I r (k v σ H Q q)⟩
theorem PGs.weak {X : Cx} {e : List Expr} {t t' : TGs} (h : PGs X e t) (k : ∀ v σ H Q, t' v σ H Q → t v σ H Q) : PGs X e t' := ⟨fun pins s σ H v u Q I r q => h.run pins s σ H v u Q I r (k v σ H Q q)⟩

section
variable {T : List (Addr × Str)} {X : Cx} {a b c e : Expr} {fa fb fc : EF} {ta : TF} {ga gb : SF} {pos : Pos} {st : Stmt} {rest sa sb : List Stmt}

/-! ### blocks -/
theorem pxs_nil : PXSs T X [] sNil := ⟨fun W t => PSs.weak pss_nil fun D σ H ⟨β, ρ, S, hs, he, h⟩ => h.nx_ hs he⟩
theorem pxs_cons (h1 : PXS T X st ga) (h2 : PXSs T X rest gb) : PXSs T X (st :: rest) (sSeq ga gb) :=
  ⟨fun W t => PSs.weak (pss_cons (h1.run W t) (h2.run W t)) fun D σ H ⟨β, ρ, S, hs, he, h⟩ => by
    refine ⟨β, ρ, S, hs, he, ?_⟩
    unfold sSeq at h
    cases q : ga ρ S with
    | nx ρ1 S1 => rw [q] at h; exact fun σ' β' H' x k r => ⟨β', ρ1, S1, k, r, postS.ext h x⟩
    | bk ρ1 S1 => rw [q] at h; exact h
    | ct ρ1 S1 => rw [q] at h; exact h
    | rt d S1 => rw [q] at h; exact h
    | exc c d ρ1 S1 => rw [q] at h; exact h
    | bad => rw [q] at h; exact h⟩
theorem pxs_one (h1 : PXS T X st ga) : PXSs T X [st] ga := ⟨fun W t => pss_one (h1.run W t)⟩
theorem px_doc {x : Str} {j : Nat} {pos' : Pos} : PXS T X (.Expr (.Constant (.str x) j pos) pos') sNil := ⟨fun W t => PS.weak ps_doc fun D σ H ⟨β, ρ, S, hs, he, h⟩ => h.nx_ hs he⟩
theorem px_pass : PXS T X (.Pass pos) sNil := ⟨fun W t => PS.weak ps_pass fun D σ H ⟨β, ρ, S, hs, he, h⟩ => h.nx_ hs he⟩
theorem px_break : PXS T X (.Break pos) sBreak := ⟨fun W t => PS.weak ps_break fun D σ H ⟨β, ρ, S, hs, he, h⟩ => h σ β H (.refl _ _) hs he⟩
theorem px_continue : PXS T X (.Continue pos) sCont := ⟨fun W t => PS.weak ps_continue fun D σ H ⟨β, ρ, S, hs, he, h⟩ => h σ β H (.refl _ _) hs he⟩
theorem px_expr (ha : PX T X e fa) (hs : swapsWith e none pos.line X.env = pure false := by rfl) : PXS T X (.Expr e pos) (sExpr fa) :=
  ⟨fun W t => PS.weak (ps_expr (ha.run W t) hs) fun D σ H ⟨β, ρ, S, hs, he, h⟩ => tE_st hs he h fun d S1 v β1 H1 x1 k1 e1 r1 q1 => q1.nx_ k1 e1⟩
theorem px_ret (ha : PX T X e fa) : PXS T X (.Return (some e) pos) (sRet fa) :=
  ⟨fun W t => PS.weak (ps_ret (ha.run W t)) fun D σ H ⟨β, ρ, S, hs, he, h⟩ => tE_st hs he h fun d S1 v β1 H1 x1 k1 e1 r1 q1 => q1 v β1 H1 (.refl _ _) k1 r1⟩
theorem px_retN : PXS T X (.Return none pos) sRetN := ⟨fun W t => PS.weak ps_retN fun D σ H ⟨β, ρ, S, hs, he, h⟩ => h .non β H (.refl _ _) hs rfl⟩
theorem px_if {t : Expr} (hc : PXT T X t ta) (ha : PXSs T X sa ga) (hb : PXSs T X sb gb) : PXS T X (.If t sa sb pos) (sIf ta ga gb) :=
  ⟨fun W t => PS.weak (ps_if (hc.run W t) (ha.run W t) (hb.run W t)) fun D σ H ⟨β, ρ, S, hs, he, h⟩ => tT_st hs he h fun d S1 β1 H1 x1 k1 e1 q1 => by
    cases d with
    | true => simp only [if_true]; exact ⟨β1, ρ, S1, k1, e1, q1⟩
    | false => simp only [Bool.false_eq_true, if_false]; exact ⟨β1, ρ, S1, k1, e1, q1⟩⟩
theorem px_never : PXS T X st sNever := ⟨fun W t => PS.weak ps_never fun D σ H ⟨β, ρ, S, hs, he, h⟩ => h⟩
theorem pxs_never : PXSs T X sa sNever := ⟨fun W t => PSs.weak pss_never fun D σ H ⟨β, ρ, S, hs, he, h⟩ => h⟩

/-! ### targets, assignments -/
theorem pxg_name (i : Nat) {x : Str} (hN : X.N.Nodup) (hi : X.N[i]? = some x := by rfl) (hx : Loc X.env.scope x := by first | exact Or.inl rfl | exact Or.inr rfl) (hf : X.fn x = true ∨ X.env.scope.names.lookup x = some .local := by first | exact .inl rfl | exact .inr rfl | assumption) : PXG T X (.Name x pos) (gSet i) [i] :=
  ⟨PG.weak (pg_name hN hi hx hf) fun v σ H Q ⟨β, d, ρ, ρ', r, he, e, k⟩ => by
    cases e
    exact k _ (he.set r i) ⟨by simp, fun j hj => List.getElem?_set_ne (fun z => hj (by rw [z]; exact List.mem_singleton.mpr rfl))⟩⟩
theorem pxgs_nil : PXGs T X [] gsNil [] := ⟨PGs.weak pgs_nil fun v σ H Q ⟨β, d, ρ, ρ', r, he, e, k⟩ => by
  cases d with
  | nil => cases e; exact ⟨r, k _ he ⟨rfl, fun _ _ => rfl⟩⟩
  | cons x xs => cases e⟩
theorem pxgs_cons {es : List Expr} {g : TgF} {gs : TgsF} {ws us : List Nat} (h1 : PXG T X e g ws) (h2 : PXGs T X es gs us) (hs : (assignEach (e :: es) X.env).map (·.2) = assign e X.env :: (assignEach es X.env).map (·.2) := by rfl) : PXGs T X (e :: es) (gsCons g gs) (ws ++ us) := by
  refine ⟨PGs.weak (pgs_cons h1.run h2.run hs) fun v σ H Q ⟨β, d, ρ, ρ', r, he, e, k⟩ => ?_⟩
  cases d with
  | nil => cases e
  | cons x xs =>
    obtain ⟨z, zr, rfl, r1, r2⟩ := r
    simp only [gsCons, Option.bind_eq_some_iff] at e
    obtain ⟨ρ1, e1, e2⟩ := e
    refine ⟨z, zr, rfl, β, x, ρ, ρ1, r1, he, e1, fun σ1 he1 o1 => ⟨β, xs, ρ1, ρ', r2, he1, e2, fun σ2 he2 o2 => k σ2 he2 ⟨o2.1.trans o1.1, fun i hi => ?_⟩⟩⟩
    rw [List.mem_append, not_or] at hi
    exact (o2.2 i hi.2).trans (o1.2 i hi.1)
theorem pxg_tup {es : List Expr} {k : Nat} {gs : TgsF} {n : Nat} {ws : List Nat} (hc : X.calm = true) (h : PXGs T X es gs ws) (hl : ∀ ds ρ ρ', gs ds ρ = some ρ' → ds.length = n)
    (hn : (assignEach es X.env).length = n := by rfl) (hst : (assignEach es X.env).findIdx? (·.1) = none := by rfl) : PXG T X (.Tuple es k pos) (gTupD gs) ws :=
  ⟨PG.weak (pg_tup hc h.run hn hst) fun v σ H Q ⟨β, d, ρ, ρ', r, he, e, k⟩ => by
    cases d with
    | tup ds =>
      obtain ⟨a, xs, rfl, h1, l⟩ := r
      exact ⟨a, xs, rfl, h1, by rw [← l.length]; exact hl ds ρ ρ' e, β, ds, ρ, ρ', l, he, e, k⟩
    | _ => cases e⟩
theorem gsl_nil : ∀ ds ρ ρ', gsNil ds ρ = some ρ' → ds.length = 0 := fun ds ρ ρ' e => by
  cases ds with
  | nil => rfl
  | cons x xs => cases e
theorem gsl_cons {g : TgF} {gs : TgsF} {n : Nat} (h : ∀ ds ρ ρ', gs ds ρ = some ρ' → ds.length = n) : ∀ ds ρ ρ', gsCons g gs ds ρ = some ρ' → ds.length = n + 1 := fun ds ρ ρ' e => by
  cases ds with
  | nil => cases e
  | cons x xs =>
    simp only [gsCons, Option.bind_eq_some_iff] at e
    obtain ⟨ρ1, _, e2⟩ := e
    rw [List.length_cons, h xs ρ1 ρ' e2]
theorem px_set (i : Nat) {x : Str} {pos' : Pos} (hN : X.N.Nodup) (he : PX T X e fa) (hi : X.N[i]? = some x := by rfl) (hx : Loc X.env.scope x := by first | exact Or.inl rfl | exact Or.inr rfl) (hs : swapsWith e (some (.Name x pos')) pos.line X.env = pure false := by rfl)
    (hf : X.fn x = true ∨ X.env.scope.names.lookup x = some .local := by first | exact .inl rfl | exact .inr rfl | assumption) : PXS T X (.Assign [.Name x pos'] e pos) (sSet i fa) :=
  ⟨fun W t => PS.weak (ps_set hN hi hx (he.run W t) hs hf) fun D σ H ⟨β, ρ, S, hs, he, h⟩ => tE_st hs he h fun d S1 v β1 H1 x1 k1 e1 r1 q1 => q1.nx_ k1 (e1.set r1 i)⟩
theorem px_asg {tg : Expr} {g : TgF} {ws : List Nat} (he : PX T X e fa) (hg : PXG T X tg g ws) (hs : swapsWithSole [tg] e pos.line X.env = pure false := by rfl) (hw : swappedStores [tg] e X.env = pure none := by rfl)
    (h1 : (assignEach [tg] X.env).map (·.2) = [assign tg X.env] := by rfl) : PXS T X (.Assign [tg] e pos) (sAsg g fa) :=
  ⟨fun W t => PS.weak (ps_asg (he.run W t) hg.run hs hw h1) fun D σ H ⟨β, ρ, S, hs, he, h⟩ => tE_st hs he h fun d S1 v β1 H1 x1 s1 e1 r1 q1 => by
    cases q : g d ρ with
    | none => rw [q] at q1; exact q1.elim
    | some ρ' =>
      rw [q] at q1
      exact ⟨β1, d, ρ, ρ', r1, e1, q, fun σ' he' _ => q1.nx_ s1 he'⟩⟩
theorem px_par (i j : Nat) {x y : Str} {px py pt pt2 : Pos} {kt k2 : Nat} {ga : AF} (hc : X.calm = true) (hN : X.N.Nodup) (hij : i ≠ j) (ha : PXA T X [a, b] ga) (hi : X.N[i]? = some x := by rfl) (hj : X.N[j]? = some y := by rfl)
    (hx : X.env.scope.names.lookup x = some .local := by rfl) (hy : X.env.scope.names.lookup y = some .local := by rfl)
    (hw : swappedStores [.Tuple [.Name x px, .Name y py] kt pt] (.Tuple [a, b] k2 pt2) X.env = pure (some [x, y]) := by rfl)
    (hs : swapsWithSole [.Tuple [.Name x px, .Name y py] kt pt] (.Tuple [a, b] k2 pt2) pos.line X.env = pure false := by rfl) :
    PXS T X (.Assign [.Tuple [.Name x px, .Name y py] kt pt] (.Tuple [a, b] k2 pt2) pos) (sPar i j ga) :=
  ⟨fun W t => PS.weak (ps_par hc hN hi hj hij hx hy (ha.run W t) hw hs) fun D σ H ⟨β, ρ, S, hs, he, h⟩ => tA_st hs he h fun ds S1 vs β1 H1 x1 k1 e1 r1 q1 => by
    match ds, r1, q1 with
    | [d1, d2], r1, q1 =>
      obtain ⟨v, u, rfl, r, r'⟩ := RepL.two r1
      exact ⟨v, u, rfl, q1.nx_ k1 ((e1.set r i).set r' j)⟩
    | [], _, q1 => exact q1.elim
    | [_], _, q1 => exact q1.elim
    | _ :: _ :: _ :: _, _, q1 => exact q1.elim⟩
theorem RepL.three {w : Wo} {β : Bt} {H : Hp} {d e f : D} {vs : List V} (l : RepL w β H [d, e, f] vs) : ∃ v u z, vs = [v, u, z] ∧ Rep w β H d v ∧ Rep w β H e u ∧ Rep w β H f z := by
  obtain ⟨x, xr, rfl, r, l⟩ := l
  obtain ⟨u, z, rfl, r2, r3⟩ := RepL.two l
  exact ⟨x, u, z, rfl, r, r2, r3⟩
theorem px_par3 (i j l : Nat) {x y z : Str} {px py pz pt pt2 : Pos} {kt k2 : Nat} {ga : AF} (hc : X.calm = true) (hN : X.N.Nodup) (hij : i ≠ j) (hil : i ≠ l) (hjl : j ≠ l) (ha : PXA T X [a, b, c] ga) (hi : X.N[i]? = some x := by rfl) (hj : X.N[j]? = some y := by rfl) (hl : X.N[l]? = some z := by rfl)
    (hx : X.env.scope.names.lookup x = some .local := by rfl) (hy : X.env.scope.names.lookup y = some .local := by rfl) (hz : X.env.scope.names.lookup z = some .local := by rfl)
    (hw : swappedStores [.Tuple [.Name x px, .Name y py, .Name z pz] kt pt] (.Tuple [a, b, c] k2 pt2) X.env = pure (some [x, y, z]) := by rfl)
    (hs : swapsWithSole [.Tuple [.Name x px, .Name y py, .Name z pz] kt pt] (.Tuple [a, b, c] k2 pt2) pos.line X.env = pure false := by rfl) :
    PXS T X (.Assign [.Tuple [.Name x px, .Name y py, .Name z pz] kt pt] (.Tuple [a, b, c] k2 pt2) pos) (sPar3 i j l ga) :=
  ⟨fun W t => PS.weak (ps_par3 hc hN hi hj hl hij hil hjl hx hy hz (ha.run W t) hw hs) fun D σ H ⟨β, ρ, S, hs, he, h⟩ => tA_st hs he h fun ds S1 vs β1 H1 x1 k1 e1 r1 q1 => by
    match ds, r1, q1 with
    | [d1, d2, d3], r1, q1 =>
      obtain ⟨v, u, z, rfl, r, r', r''⟩ := RepL.three r1
      exact ⟨v, u, z, rfl, q1.nx_ k1 (((e1.set r i).set r' j).set r'' l)⟩
    | [], _, q1 => exact q1.elim
    | [_], _, q1 => exact q1.elim
    | [_, _], _, q1 => exact q1.elim
    | _ :: _ :: _ :: _ :: _, _, q1 => exact q1.elim⟩
/-- name op= e -/
theorem px_aug (i : Nat) {x : Str} {op : Operator} {ti : TIp} {g : D → D → Sto → R D} {pos' : Pos} (hN : X.N.Nodup) (he : PX T X e fa) (ho : PIp X op ti) (hr : BinOk T X ti g) (hi : X.N[i]? = some x := by rfl) (hx : Loc X.env.scope x := by first | exact Or.inl rfl | exact Or.inr rfl)
    (hf : X.fn x = true ∨ X.env.scope.names.lookup x = some .local := by first | exact .inl rfl | exact .inr rfl | assumption) : PXS T X (.AugAssign (.Name x pos') op e pos) (sAug i g fa) :=
  ⟨fun W t => PS.weak (ps_aug hN hi hx (he.run W t) ho hf) fun D σ H ⟨β, ρ, S, hs, he, h⟩ => by
    unfold sAug at h
    cases q : ρ[i]? with
    | none => rw [q] at h; exact h.elim
    | some o =>
      cases o with
      | none => rw [q] at h; exact h.elim
      | some d0 =>
        rw [q] at h
        obtain ⟨v0, h1, h2⟩ := he.2 i d0 q
        refine ⟨v0, h1, tE_st hs he h fun d S1 v β1 H1 x1 k1 e1 r1 q1 => ?_⟩
        refine hr W σ β1 H1 S1 d0 d v0 v _ k1 (Rep.ext x1 d0 v0 h2) r1 ?_
        cases q2 : g d0 d S1 with
        | ok z S2 =>
          rw [q2] at q1
          exact fun u β2 H2 x2 k2 r2 => (postS.ext q1 x2).nx_ k2 ((e1.ext x2).set r2 i)
        | exc c' v' S2 =>
          rw [q2] at q1
          exact fun C dx u β2 H2 x2 k2 => q1 C dx u σ β2 H2 x2 k2 (e1.ext x2)
        | bad => rw [q2] at q1; exact q1⟩
/-- a list of the store changes -/
theorem Ext.chg {β : Bt} {H : Hp} {p : Addr} {xs ys : List V} (h : H p = some (.lst xs)) (hp : p ∈ β.l) : Ext β H β (upd H p (.lst ys)) :=
  ⟨⟨⟨[], by simp, fun _ z => nomatch z⟩, fun _ h => .inl h, fun a o e n1 n2 => by
    have ne : a ≠ p := fun z => by
      rw [z, h] at e
      exact n1 xs (Option.some.inj e).symm
    rw [upd_ne ne]; exact e, fun a zs e n => by
    have ne : a ≠ p := fun z => n (z ▸ hp)
    rw [upd_ne ne]; exact e, fun a n o e => by
    by_cases z : a = p
    · obtain ⟨ps, q⟩ := n (.lst ys) (by rw [z, upd_same])
      cases q
    · exact n o (by rw [upd_ne z]; exact e)⟩, rfl⟩
theorem TabS.chg {H : Hp} {P p : Addr} {q : Str} {xs ys : List V} (t : LamX.TabS H P q) (h : H p = some (.lst xs)) : LamX.TabS (upd H p (.lst ys)) P q := by
  obtain ⟨ps, h1, h2, h3⟩ := t
  have ne : P ≠ p := fun z => by
    rw [z, h] at h1
    cases h1
  refine ⟨ps, by rw [upd_ne ne]; exact h1, h2, fun pos cv hc => ?_⟩
  obtain ⟨c, e1, e2⟩ := h3 pos cv hc
  refine ⟨c, e1, ?_⟩
  have ne2 : c ≠ p := fun z => by
    rw [z, h] at e2
    unfold LamX.CodeO at e2
    cases e2
  rw [upd_ne ne2]; exact e2
theorem SOk.chg {w : Wo} {β : Bt} {H : Hp} {S : Sto} {n : Nat} {p : Addr} {xs ys : List V} {ds : List D} (k : SOk w β H S) (hn : β.l[n]? = some p) (h : H p = some (.lst xs)) (r : RepL w β H ds ys) : SOk w β (upd H p (.lst ys)) (S.set n ds) := by
  have x : Ext β H β (upd H p (.lst ys)) := Ext.chg h (List.mem_of_getElem? hn)
  refine ⟨fun q hq => TabS.chg (k.tabs q hq) h, k.nodup, fun a ha => ⟨(k.hid a ha).1.imp fun zs e => x.lsts a zs e (k.hid a ha).2, (k.hid a ha).2⟩, by rw [List.length_set]; exact k.len, fun m a es e1 e2 => ?_⟩
  by_cases hm : n = m
  · subst hm
    have ea : p = a := Option.some.inj (hn.symm.trans e1)
    subst ea
    have hl : n < S.length := by
      have := (List.getElem?_eq_some_iff.mp e2).1
      simpa using this
    rw [List.getElem?_set_self hl] at e2
    cases e2
    exact ⟨ys, upd_same, RepL.ext x _ ys r⟩
  · rw [List.getElem?_set_ne hm] at e2
    obtain ⟨zs, h1, h2⟩ := k.at_ m a es e1 e2
    have ne : a ≠ p := fun z => by
      subst z
      exact hm ((List.getElem?_inj (List.getElem?_eq_some_iff.mp hn).1 k.nodup).mp (hn.trans e1.symm))
    exact ⟨zs, by rw [upd_ne ne]; exact h1, RepL.ext x es zs h2⟩
theorem px_sub_set {o i : Expr} {fo fi : EF} {p1 : Pos} (he : PX T X e fa) (ho : PX T X o fo) (hi : PX T X i fi) (hs : swapsWithSole [.Subscript o i p1] e pos.line X.env = pure false := by rfl) (hw : swappedStores [.Subscript o i p1] e X.env = pure none := by rfl)
    (h1 : (assignEach [.Subscript o i p1] X.env).map (·.2) = [assign (.Subscript o i p1) X.env] := by rfl)
    (has : ∀ v, assign (.Subscript o i p1) X.env v = (do
      let ov ← holding [v] (eval o X.env)
      let iv ← holding [v, ov] (eval i X.env)
      standAt p1
      holding [v, ov, iv] (setItem ov iv v)
      release [v, ov, iv] []) := by intro _; rfl) : PXS T X (.Assign [.Subscript o i p1] e pos) (sSub fo fi fa) :=
  ⟨fun W t => PS.weak (ps_asg (he.run W t) (pg_sub (ho.run W t) (hi.run W t) set_list has) hs hw h1) fun D σ H ⟨β, ρ, S, hs, he, h⟩ => tE_st hs he h fun d S1 v β1 H1 x1 k1 e1 r1 q1 =>
    tE_st k1 e1 q1 fun d2 S2 v2 β2 H2 x2 k2 e2 r2 q2 => tE_st k2 e2 q2 fun d3 S3 v3 β3 H3 x3 k3 e3 r3 q3 => by
      have r1' := Rep.ext (x2.trans x3).toExtW d v r1
      have r2' := Rep.ext x3.toExtW d2 v2 r2
      cases d2 with
      | loc n =>
        cases d3 with
        | int k =>
          obtain ⟨p, rfl, hn⟩ := r2'
          obtain ⟨ds, xs, g1, g2, l⟩ := k3.get hn
          simp only [setD, g1] at q3
          cases g3 : ixN ds.length k with
          | none => rw [g3] at q3; exact q3.elim
          | some j =>
            rw [g3] at q3
            exact ⟨p, xs, k, j, rfl, r3, g2, by rw [← l.length]; exact g3, q3 σ β3 _ (.chg g2 (List.mem_of_getElem? hn)) (k3.chg hn g2 (RepL.set r1' j l)) (e3.ext (Ext.chg g2 (List.mem_of_getElem? hn)).toExtW)⟩
        | _ => exact q3.elim
      | _ => cases d3 <;> exact q3.elim⟩

/-! ### while -/
theorem px_while {t : Expr} {body : List Stmt} (hp : PassesOwn (model X.prog X.w) X.A X.env X.xe) (hc : PXT T X t ta) (hb : PXSs T X body ga) : PXS T X (.While t body [] pos) (sWhile ta ga) :=
  ⟨fun W tk => PS.weak (ps_while hp (hc.run W tk) (hb.run W tk)) fun D σ H ⟨β, ρ, S, hs, he, h⟩ => by
    have hne : sWhile ta ga ρ S ≠ .bad := fun z => by rw [z] at h; exact h
    obtain ⟨n, hn⟩ := sWhile_some hne
    rw [← hn] at h
    refine ⟨fun m σ H => ∃ β ρ S, SOk (wo X T) β H S ∧ RepE (wo X T) β H ρ σ ∧ postS (wo X T) W β H (wIter ta ga m ρ S) D, ⟨n, β, ρ, S, hs, he, h⟩, fun m σ1 H1 ⟨β1, ρ1, S1, k1, e1, q1⟩ => ?_⟩
    cases m with
    | zero => exact q1.elim
    | succ m =>
      unfold wIter at q1
      refine tT_st k1 e1 q1 fun d S2 β2 H2 x2 k2 e2 q2 => ?_
      cases d with
      | false => simp only [Bool.false_eq_true, if_false]; exact q2.nx_ k2 e2
      | true =>
        simp only [if_true]
        refine ⟨fun σ' H' => ∃ β ρ S, SOk (wo X T) β H' S ∧ RepE (wo X T) β H' ρ σ' ∧ postS (wo X T) W β H' (wIter ta ga m ρ S) D, fun σ' H' z => ⟨m, Nat.lt_succ_self m, z⟩, β2, ρ1, S2, k2, e2, ?_⟩
        simp only at q2
        cases q3 : ga ρ1 S2 with
        | nx ρ3 S3 => rw [q3] at q2; exact fun σ3 β3 H3 x3 k3 e3 => ⟨β3, ρ3, S3, k3, e3, postS.ext q2 x3⟩
        | ct ρ3 S3 => rw [q3] at q2; exact fun σ3 β3 H3 x3 k3 e3 => ⟨β3, ρ3, S3, k3, e3, postS.ext q2 x3⟩
        | bk ρ3 S3 => rw [q3] at q2; exact q2
        | rt d3 S3 => rw [q3] at q2; exact q2
        | exc c3 d3 ρ3 S3 => rw [q3] at q2; exact q2
        | bad => rw [q3] at q2; exact q2⟩
end

/-! ### what is walked -/
/-- the turns of J yield what ds stands for, whatever new comes in between -/
structure Walks (w : Wo) (J : It) (β : Bt) (H : Hp) (ds : List D) : Prop where
  go : ∀ (i : Nat) (d : D), ds[i]? = some d → ∀ β' H', ExtW β H β' H' → J.go i H'
  yld : ∀ (i : Nat) (d : D), ds[i]? = some d → ∀ β' H', ExtW β H β' H' → ∀ x H'', J.yld i H' x H'' → Same H' H'' ∧ Rep w β' H'' d x
  stop : ∀ β' H', ExtW β H β' H' → J.stop ds.length H'
theorem SOk.same {w : Wo} {β : Bt} {H H' : Hp} {S : Sto} (k : SOk w β H S) (h : Same H H') : SOk w β H' S :=
  ⟨k.tabs.ext h, k.nodup, fun a ha => ⟨(k.hid a ha).1.imp fun xs e => h _ _ e, (k.hid a ha).2⟩, k.len, fun n a ds e1 e2 => by
    obtain ⟨xs, h1, h2⟩ := k.at_ n a ds e1 e2
    exact ⟨xs, h _ _ h1, RepL.ext (Ext.same h).toExtW ds xs h2⟩⟩
theorem Walks.ext {w : Wo} {J : It} {β β' : Bt} {H H' : Hp} {ds : List D} (k : Walks w J β H ds) (e : ExtW β H β' H') : Walks w J β' H' ds :=
  ⟨fun i d q β2 H2 e2 => k.go i d q β2 H2 (e.trans e2), fun i d q β2 H2 e2 => k.yld i d q β2 H2 (e.trans e2), fun β2 H2 e2 => k.stop β2 H2 (e.trans e2)⟩
/-- the same for a heap in which one more list may change, that was not there -/
def postI (w : Wo) (W : WX) (σ : St) (β : Bt) (H : Hp) (r : R (List D)) (Z : It → Hp → Prop) : Prop := match r with
  | .ok ds S => ∀ J β' H', Ext β H β' H' → SOk w β' H' S → Walks w J β' H' ds → Z J H'
  | .exc c d S => ∀ C dx v β' H', Ext β H β' H' → SOk w β' H' S → w.mg c = some (.ref C) → H' dx = some (.xd [(("value" : Str), v)]) → Rep w β' H' d v → W (.ref C) (some dx) σ H'
  | .bad => False
def tI (w : Wo) (W : WX) (it : AF) : TI := fun σ H Z => ∃ β ρ S, SOk w β H S ∧ RepE w β H ρ σ ∧ postI w W σ β H (it ρ S) Z
structure PXI (T : List (Addr × Str)) (X : Cx) (tg iter : Expr) (it : AF) : Prop where
  run : ∀ W, Takes X W → PI X tg iter (tI (wo X T) W it)
theorem PI.weak {X : Cx} {tg e : Expr} {t t' : TI} (h : PI X tg e t) (k : ∀ σ H Z, t' σ H Z → t σ H Z) : PI X tg e t' := ⟨fun pins s σ H Z I q => h.run pins s σ H Z I (k σ H Z q)⟩
section
variable {T : List (Addr × Str)} {X : Cx} {tg a b e : Expr} {fa : EF} {pos : Pos}
theorem walks_lst {w : Wo} {β : Bt} {H : Hp} {p : Addr} {xs : List V} {ds : List D} (h : FzL w.K β H p xs) (l : RepL w β H ds xs) : Walks w (Itl w.K p) β H ds :=
  ⟨fun i d q β' H' x => by
    obtain ⟨v, h1, _⟩ := l.get q
    exact ⟨xs, v, (x.fz h).sq, h1⟩, fun i d q β' H' x v H'' y => by
    obtain ⟨e, y⟩ := y
    subst e
    obtain ⟨u, h1, h2⟩ := l.get q
    have e2 : some u = some v := h1.symm.trans (y xs (x.fz h).sq)
    rw [← Option.some.inj e2]
    exact ⟨fun _ _ z => z, Rep.ext x d u h2⟩, fun β' H' x => ⟨xs, (x.fz h).sq, by rw [l.length]; exact Nat.le_refl _⟩⟩
theorem rngL_get : ∀ (n : Nat) (lo : Int) (i : Nat) (d : D), (rngL lo n)[i]? = some d → i < n ∧ d = .int (lo + i)
  | 0, _, _, _, e => by simp [rngL] at e
  | n + 1, lo, 0, d, e => by
    simp [rngL] at e
    exact ⟨by omega, by rw [← e]; simp⟩
  | n + 1, lo, i + 1, d, e => by
    simp only [rngL, List.getElem?_cons_succ] at e
    obtain ⟨h1, h2⟩ := rngL_get n (lo + 1) i d e
    exact ⟨by omega, by rw [h2]; congr 1; omega⟩
theorem rngL_length : ∀ (n : Nat) (lo : Int), (rngL lo n).length = n
  | 0, _ => rfl
  | n + 1, lo => by simp [rngL, rngL_length n]
theorem walks_rng {w : Wo} {β : Bt} {H : Hp} {lo : Int} {n : Nat} : Walks w (Itr lo n) β H (rngL lo n) :=
  ⟨fun i d q β' H' x => (rngL_get n lo i d q).1, fun i d q β' H' x v H'' y => by
    obtain ⟨e, y⟩ := y
    subst e
    subst y
    rw [(rngL_get n lo i d q).2]
    exact ⟨fun _ _ z => z, rfl⟩, fun β' H' x => by rw [rngL_length]; exact Nat.le_refl n⟩
/-- a tuple -/
theorem pxi_tup (ha : PX T X a fa) : PXI T X tg a (wTup fa) := ⟨fun W t => PI.weak (pi_tup (ha.run W t)) fun σ H Z ⟨β, ρ, S, hs, he, h⟩ => by
  refine ⟨β, ρ, S, hs, he, ?_⟩
  unfold wTup at h
  cases q : fa ρ S with
  | ok d S1 =>
    rw [q] at h
    cases d with
    | tup ds =>
      intro v β1 H1 x1 k1 r1
      obtain ⟨p, xs, rfl, h1, l⟩ := r1
      exact ⟨p, rfl, ⟨xs, h1⟩, h _ β1 H1 x1 k1 ⟨fun i d q β' H' x => by
        obtain ⟨v, g1, _⟩ := l.get q
        exact ⟨xs, v, x.tup h1, g1⟩, fun i d q β' H' x v H'' y => by
        obtain ⟨e, y⟩ := y
        subst e
        obtain ⟨u, g1, g2⟩ := l.get q
        have e2 : some u = some v := g1.symm.trans (y xs (x.tup h1))
        rw [← Option.some.inj e2]
        exact ⟨fun _ _ z => z, Rep.ext x d u g2⟩, fun β' H' x => ⟨xs, x.tup h1, by rw [l.length]; exact Nat.le_refl _⟩⟩⟩
    | _ => exact h.elim
  | exc c d S1 => rw [q] at h; exact h
  | bad => rw [q] at h; exact h⟩
/-- a list that is never changed -/
theorem pxi_lst (ha : PX T X a fa) : PXI T X tg a (wLst fa) := ⟨fun W t => PI.weak (pi_list (ha.run W t)) fun σ H Z ⟨β, ρ, S, hs, he, h⟩ => by
  refine ⟨β, ρ, S, hs, he, ?_⟩
  unfold wLst at h
  cases q : fa ρ S with
  | ok d S1 =>
    rw [q] at h
    cases d with
    | lst ds =>
      intro v β1 H1 x1 k1 r1
      obtain ⟨p, xs, rfl, h1, l⟩ := r1
      exact ⟨p, rfl, ⟨xs, h1.sq⟩, h _ β1 H1 x1 k1 (walks_lst (w := wo X T) h1 l)⟩
    | _ => exact h.elim
  | exc c d S1 => rw [q] at h; exact h
  | bad => rw [q] at h; exact h⟩
theorem pxi_range1 {p : Pos} {ga : AF} (hg : Gl X "range") (hm : X.mg "range" = none) (ha : PXA T X [a] ga) (hs : starEach [a] X.env = [(false, eval a X.env)] := by rfl) : PXI T X tg (.Call (.Name "range" p) [a] [] pos) (fRange1 ga) :=
  ⟨fun W t => PI.weak (pi_range1 hg hm (ha.run W t) hs) fun σ H Z ⟨β, ρ, S, hs, he, h⟩ => by
    refine ⟨β, ρ, S, hs, he, ?_⟩
    unfold fRange1 at h
    cases q : ga ρ S with
    | ok ds S1 =>
      rw [q] at h
      simp only [bind_ok] at h
      intro vs β1 H1 x1 k1 r1
      split at h
      · rename_i j
        obtain ⟨v, rfl, r⟩ := RepL.one r1
        split at h
        · rename_i hj
          refine ⟨j, by rw [show v = _ from r], hj.1, hj.2, h _ β1 H1 x1 k1 ?_⟩
          exact walks_rng
        · exact h.elim
      · exact h.elim
    | exc c d S1 => rw [q] at h; exact h
    | bad => rw [q] at h; exact h⟩
theorem pxi_range2 {p : Pos} {ga : AF} (hg : Gl X "range") (hm : X.mg "range" = none) (ha : PXA T X [a, b] ga) (hs : starEach [a, b] X.env = [(false, eval a X.env), (false, eval b X.env)] := by rfl) (hs2 : starEach [b] X.env = [(false, eval b X.env)] := by rfl) :
    PXI T X tg (.Call (.Name "range" p) [a, b] [] pos) (fRange2 ga) :=
  ⟨fun W t => PI.weak (pi_range2 hg hm (ha.run W t) hs hs2) fun σ H Z ⟨β, ρ, S, hs, he, h⟩ => by
    refine ⟨β, ρ, S, hs, he, ?_⟩
    unfold fRange2 at h
    cases q : ga ρ S with
    | ok ds S1 =>
      rw [q] at h
      simp only [bind_ok] at h
      intro vs β1 H1 x1 k1 r1
      split at h
      · rename_i i j
        obtain ⟨v, u, rfl, r, r2⟩ := RepL.two r1
        split at h
        · rename_i hj
          refine ⟨i, j, by rw [show v = _ from r, show u = _ from r2], hj, h _ β1 H1 x1 k1 ?_⟩
          exact walks_rng
        · exact h.elim
      · exact h.elim
    | exc c d S1 => rw [q] at h; exact h
    | bad => rw [q] at h; exact h⟩
/-! ### for -/
theorem px_for {iter : Expr} {body : List Stmt} {it : AF} {g : TgF} {gb : SF} (hp : PassesOwn (model X.prog X.w) X.A X.env X.xe) (hc : X.calm = true) {ws : List Nat} (hi : PXI T X tg iter it) (hg : PXG T X tg g ws) (hb : PXSs T X body gb)
    (hs : ∀ x, foldedSetIterable iter X.env x = pure x := by intro _; rfl) : PXS T X (.For tg iter body [] pos) (sFor it g gb) := by
  refine ⟨fun W tk => PS.weak (ps_for hp hc (hi.run W tk) hg.run (hb.run W tk) hs) fun D σ H ⟨β, ρ, S, hs, he, h⟩ => ?_⟩
  refine ⟨β, ρ, S, hs, he, ?_⟩
  unfold sFor at h
  cases q : it ρ S with
  | exc c d S1 => rw [q] at h; exact fun C dx v β1 H1 x k => h C dx v σ β1 H1 x k (he.ext x)
  | bad => rw [q] at h; exact h
  | ok ds S1 =>
    rw [q] at h
    intro J β1 H1 x1 k1 wk
    have h1 : postS (wo X T) W β1 H1 (forL g gb ds ρ S1) D := postS.ext h x1
    refine ⟨fun i m σ' H' => m = ds.length - i ∧ i ≤ ds.length ∧ ∃ β' ρ' S', Ext β1 H1 β' H' ∧ SOk (wo X T) β' H' S' ∧ RepE (wo X T) β' H' ρ' σ' ∧ postS (wo X T) W β' H' (forL g gb (ds.drop i) ρ' S') D,
      ⟨ds.length, by simp, Nat.zero_le _, β1, ρ, S1, .refl _ _, k1, he.ext x1, by simpa using h1⟩, ?_⟩
    rintro i m σ2 H2 ⟨rfl, hi2, β2, ρ2, S2, x2, k2, e2, q2⟩
    by_cases hlt : i < ds.length
    · have hd : ds[i]? = some ds[i] := List.getElem?_eq_getElem hlt
      rw [List.drop_eq_getElem_cons hlt] at q2
      simp only [forL] at q2
      cases qg : g ds[i] ρ2 with
      | none => rw [qg] at q2; exact q2.elim
      | some ρ3 =>
        rw [qg] at q2
        simp only at q2
        refine .inr ⟨wk.go i _ hd β2 H2 x2.toExtW, fun σ' H' => ∃ β' ρ' S', Ext β1 H1 β' H' ∧ SOk (wo X T) β' H' S' ∧ RepE (wo X T) β' H' ρ' σ' ∧ postS (wo X T) W β' H' (forL g gb (ds.drop (i + 1)) ρ' S') D,
          fun σ' H' z => ⟨ds.length - (i + 1), by omega, rfl, hlt, z⟩, fun x H' y => ?_⟩
        obtain ⟨sm, rx⟩ := wk.yld i _ hd β2 H2 x2.toExtW x H' y
        have xs : Ext β2 H2 β2 H' := .same sm
        refine ⟨β2, ds[i], ρ2, ρ3, rx, e2.ext xs.toExtW, qg, fun σ3 e3 _ => ⟨β2, ρ3, S2, k2.same sm, e3, ?_⟩⟩
        cases q3 : gb ρ3 S2 with
        | nx ρ4 S4 => rw [q3] at q2; exact fun σ4 β4 H4 x4 k4 e4 => ⟨β4, ρ4, S4, (x2.trans xs).trans x4, k4, e4, postS.ext q2 (xs.trans x4)⟩
        | ct ρ4 S4 => rw [q3] at q2; exact fun σ4 β4 H4 x4 k4 e4 => ⟨β4, ρ4, S4, (x2.trans xs).trans x4, k4, e4, postS.ext q2 (xs.trans x4)⟩
        | bk ρ4 S4 => rw [q3] at q2; exact postS.ext q2 xs
        | rt d4 S4 => rw [q3] at q2; exact postS.ext q2 xs
        | exc c4 d4 ρ4 S4 => rw [q3] at q2; exact postS.ext q2 xs
        | bad => rw [q3] at q2; exact q2
    · have e0 : i = ds.length := by omega
      subst e0
      rw [List.drop_length] at q2
      exact .inl ⟨wk.stop β2 H2 x2.toExtW, q2.nx_ k2 e2⟩
end
end DL


set_option linter.all false
set_option autoImplicit false
set_option Elab.async false
set_option maxRecDepth 100000
set_option maxHeartbeats 2000000
/-! DLw4: comprehensions; defs, their calls. -/
namespace DL
open PySem PySem.Spec L2
open PyProof.Rows hiding St b2i

section
variable {w : Wo} {β β' : Bt} {H H' : Hp} {p : Addr} {acc ys : List V}
/-! ### a hidden list changes -/
theorem FzL.hid {K : PySem.W.Frag} {a : Addr} {xs : List V} (hp : p ∈ β.h) (h : FzL K β H a xs) (hl : H p = some (.lst acc)) : FzL K β (upd H p (.lst ys)) a xs := by
  rcases h with ⟨h, n, n2⟩ | ⟨o, h⟩ | h
  · exact .inl ⟨by rw [upd_ne (fun z : a = p => n2 (z ▸ hp))]; exact h, n, n2⟩
  · exact .inr (.inl ⟨o, by rw [upd_ne (fun z => by rw [z, hl] at h; cases h)]; exact h⟩)
  · exact .inr (.inr h)
theorem SqT.chg {K : PySem.W.Frag} {a : Addr} {xs : List V} (h : SqT K H a xs) (hl : H p = some (.lst acc)) : SqT K (upd H p (.lst ys)) a xs := by
  rcases h with (h | ⟨o, h⟩) | h
  · exact .inl (.inl (by rw [upd_ne (fun z => by rw [z, hl] at h; cases h)]; exact h))
  · exact .inl (.inr ⟨o, by rw [upd_ne (fun z => by rw [z, hl] at h; cases h)]; exact h⟩)
  · exact .inr h
mutual
theorem Rep.hid (hp : p ∈ β.h) (hl : H p = some (.lst acc)) : ∀ (d : D) (v : V), Rep w β H d v → Rep w β (upd H p (.lst ys)) d v
  | .non, _, h => h
  | .bl _, _, h => h
  | .int _, _, h => h
  | .str _, _, h => h
  | .tup ds, _, ⟨a, xs, r, h, l⟩ => ⟨a, xs, r, SqT.chg h hl, RepL.hid hp hl ds xs l⟩
  | .lst ds, _, ⟨a, xs, r, h, l⟩ => ⟨a, xs, r, FzL.hid hp h hl, RepL.hid hp hl ds xs l⟩
  | .loc n, _, h => h
  | .exo c d, _, ⟨a, C, dx, x, r, h1, h2, h3, h4⟩ => ⟨a, C, dx, x, r, h1, by rw [upd_ne (fun z => by rw [z, hl] at h2; unfold ExV at h2; cases h2)]; exact h2, by rw [upd_ne (fun z => by rw [z, hl] at h3; cases h3)]; exact h3, Rep.hid hp hl d x h4⟩
  | .ty _, _, h => h
  | .cls _, _, h => h
  | .fn _, _, h => h
theorem RepL.hid (hp : p ∈ β.h) (hl : H p = some (.lst acc)) : ∀ (ds : List D) (vs : List V), RepL w β H ds vs → RepL w β (upd H p (.lst ys)) ds vs
  | [], _, h => h
  | d :: ds, _, ⟨x, xr, r, h, l⟩ => ⟨x, xr, r, Rep.hid hp hl d x h, RepL.hid hp hl ds xr l⟩
end
theorem SOk.hide {S : Sto} (k : SOk w β H S) (hp : p ∈ β.h) (hl : H p = some (.lst acc)) : SOk w β (upd H p (.lst ys)) S := by
  have np := (k.hid p hp).2
  refine ⟨fun q hq => TabS.chg (k.tabs q hq) hl, k.nodup, fun a ha => ⟨?_, (k.hid a ha).2⟩, k.len, fun n a ds e1 e2 => ?_⟩
  · by_cases z : a = p
    · exact ⟨ys, by rw [z, upd_same]⟩
    · obtain ⟨zs, e⟩ := (k.hid a ha).1
      exact ⟨zs, by rw [upd_ne z]; exact e⟩
  · obtain ⟨xs, h1, h2⟩ := k.at_ n a ds e1 e2
    refine ⟨xs, ?_, RepL.hid hp hl ds xs h2⟩
    rw [upd_ne (fun z : a = p => np (z ▸ List.mem_of_getElem? e1))]
    exact h1
theorem RepE.hide {ρ : Env} {σ : St} (k : RepE w β H ρ σ) (hp : p ∈ β.h) (hl : H p = some (.lst acc)) : RepE w β (upd H p (.lst ys)) ρ σ := ⟨k.1, fun i d h => by
  obtain ⟨v, h1, h2⟩ := k.2 i d h
  exact ⟨v, h1, Rep.hid hp hl d v h2⟩⟩
theorem wipe_of {σ σ' : St} : ∀ {vs : List Nat} {ws : List Nat}, Outof ws σ σ' → (∀ i ∈ ws, i ∈ vs) → wipe σ' vs = wipe σ vs := by
  intro vs ws o hw
  have key : ∀ (us : List Nat) (τ : St) (i : Nat), (wipe τ us)[i]? = if i ∈ us then (if i < τ.length then some none else none) else τ[i]? := by
    intro us
    induction us with
    | nil => intro τ i; simp [wipe]
    | cons u us ih =>
      intro τ i
      unfold wipe
      by_cases hu : u = i
      · subst hu
        by_cases hl : u < (wipe τ us).length
        · rw [List.getElem?_set_self hl]
          rw [wipe_length] at hl
          simp [hl]
        · rw [List.getElem?_eq_none (by simpa using hl)]
          rw [wipe_length] at hl
          simp [hl]
      · rw [List.getElem?_set_ne hu, ih]
        have : (i ∈ u :: us) ↔ i ∈ us := by simp [Ne.symm hu]
        simp only [this]
  apply List.ext_getElem?
  intro i
  rw [key, key]
  split
  · rw [o.1]
  · rename_i h
    exact o.2 i (fun z => h (hw i z))
end

section
variable {T : List (Addr × Str)} {X : Cx} {elt tg iter : Expr} {ifs : List Expr} {scope : Scope} {own : List (Str × Nat)} {pos : Pos} {it : AF} {g : TgF} {t : TF} {f : EF} {ws : List Nat}
/-- tests of a clause -/
structure PXTs (T : List (Addr × Str)) (X : Cx) (ifs : List Expr) (t : TF) : Prop where
  run : ∀ W, Takes X W → PTs X ifs (tT (wo X T) W t)
theorem PTs.weak {X : Cx} {e : List Expr} {t t' : TT} (h : PTs X e t) (k : ∀ σ H Q, t' σ H Q → t σ H Q) : PTs X e t' := ⟨fun pins s σ H Q I q => h.run pins s σ H Q I (k σ H Q q)⟩
theorem pxts_nil : PXTs T X [] DL.tYes := ⟨fun W _ => PTs.weak pts_nil fun σ H Q ⟨β, ρ, S, hs, he, h⟩ => postT.val h hs⟩
theorem pxts_one {c : Expr} (h : PXT T X c t) : PXTs T X [c] t := ⟨fun W tk => pts_one (h.run W tk)⟩
abbrev noW : WX := fun _ _ _ _ => False
theorem takesNo {X : Cx} : Takes X noW := fun _ _ x => by
  obtain ⟨_, _, _, _, _, _, _, _, _, _, _, _, _, _, _, _, z⟩ := x
  exact z.elim
theorem comp_read {W : WX} {vs : List Nat} (hw : ∀ i ∈ ws, i ∈ vs) {σ : St} {H : Hp} {Q : VK} (h : tE (wo X T) W (eComp vs it g t f) σ H Q) :
    tLc (tI (wo X T) W it) (tG (wo X T) g ws) (tT (wo X T) noW t) (tE (wo X T) noW f) vs σ H Q := by
  obtain ⟨β, ρ, S, hs, he, h⟩ := h
  refine ⟨β, ρ, S, hs, he, ?_⟩
  unfold eComp at h
  cases q : it ρ S with
  | exc c d S1 => rw [q] at h; exact h
  | bad => rw [q] at h; exact h
  | ok ds S1 =>
    rw [q] at h
    simp only [bind_ok] at h
    intro J β1 H1 x1 k1 wk D hD
    split at h
    · rename_i hz
      have h1 := post.ext h x1
      have nD := notin_of k1 hD
      -- the state of the turns
      refine ⟨fun i m H' => m = ds.length - i ∧ i ≤ ds.length ∧ ∃ (β' : Bt) (S' : Sto) (ys : List DL.D) (acc : List V), β'.h = D :: β1.h ∧ Ext β1 H1 ⟨β'.l, β1.h⟩ H' ∧ SOk (wo X T) β' H' S' ∧ RepE (wo X T) β' H' ρ σ ∧
        H' D = some (.lst acc) ∧ RepL (wo X T) β' H' ys acc ∧ acc.length ≤ i ∧ post (wo X T) W σ β1 H1 ((compL vs g t f ρ (ds.drop i) S').bind fun zs S => .ok (.lst (ys ++ zs)) S) Q, ?_, ?_⟩
      · -- start
        have xn : Ext β1 H1 β1 (upd H1 D (.lst [])) := Ext.new hD
        have xw : ExtW β1 H1 ⟨β1.l, D :: β1.h⟩ (upd H1 D (.lst [])) := ⟨⟨[], by simp, fun _ z => nomatch z⟩, fun a ha => by
          rcases List.mem_cons.mp ha with z | z
          · exact .inr (by rw [z]; exact .of hD)
          · exact .inl z, xn.keep, xn.lsts, xn.dom⟩
        refine ⟨ds.length, by simp, Nat.zero_le _, ⟨β1.l, D :: β1.h⟩, S1, [], [], rfl, xn, ⟨k1.tabs.ext (same_upd hD), k1.nodup, fun a ha => ?_, k1.len, fun n a es e1 e2 => ?_⟩, (he.ext x1.toExtW).ext xw, upd_same, rfl, Nat.le_refl _, ?_⟩
        · rcases List.mem_cons.mp ha with z | z
          · rw [z, upd_same]; exact ⟨⟨[], rfl⟩, nD.1⟩
          · exact ⟨(k1.hid a z).1.imp fun zs e => xn.lsts a zs e (k1.hid a z).2, (k1.hid a z).2⟩
        · obtain ⟨xs, g1, g2⟩ := k1.at_ n a es e1 e2
          exact ⟨xs, same_upd hD _ _ g1, RepL.ext xw es xs g2⟩
        · simpa using h1
      · rintro i m H2 ⟨rfl, hi, β2, S2, ys, acc, hh, x2, k2, e2, hacc, racc, hle, q2⟩
        have mD : D ∈ β2.h := by rw [hh]; exact List.mem_cons_self
        have nD2 := (k2.hid D mD).2
        have w2 : ExtW β1 H1 β2 H2 := ⟨x2.pre, fun a ha => by
          rw [hh] at ha
          rcases List.mem_cons.mp ha with z | z
          · exact .inr (by rw [z]; exact .of hD)
          · exact .inl z, x2.keep, x2.lsts, x2.dom⟩
        by_cases hlt : i < ds.length
        · have hd : ds[i]? = some ds[i] := List.getElem?_eq_getElem hlt
          rw [List.drop_eq_getElem_cons hlt] at q2
          simp only [compL] at q2
          cases qg : g ds[i] (wipeE ρ vs) with
          | none => rw [qg] at q2; exact q2.elim
          | some ρ3 =>
            rw [qg] at q2
            simp only at q2
            refine .inr ⟨wk.go i _ hd β2 H2 w2, fun H' => i + 1 ≤ ds.length ∧ ∃ (β' : Bt) (S' : Sto) (ys : List DL.D) (acc : List V), β'.h = D :: β1.h ∧ Ext β1 H1 ⟨β'.l, β1.h⟩ H' ∧ SOk (wo X T) β' H' S' ∧ RepE (wo X T) β' H' ρ σ ∧
              H' D = some (.lst acc) ∧ RepL (wo X T) β' H' ys acc ∧ acc.length ≤ i + 1 ∧ post (wo X T) W σ β1 H1 ((compL vs g t f ρ (ds.drop (i + 1)) S').bind fun zs S => .ok (.lst (ys ++ zs)) S) Q,
              fun H' z => ⟨ds.length - (i + 1), by omega, rfl, z⟩, fun x H' y => ?_⟩
            obtain ⟨sm, rx⟩ := wk.yld i _ hd β2 H2 w2 x H' y
            have xs : Ext β2 H2 β2 H' := .same sm
            have xs' : Ext ⟨β2.l, β1.h⟩ H2 ⟨β2.l, β1.h⟩ H' := .same sm
            refine ⟨β2, ds[i], wipeE ρ vs, ρ3, rx, (e2.ext xs.toExtW).wipe vs, qg, fun σ3 e3 o3 => ?_⟩
            have hwp : wipe (wipe σ vs) vs = wipe σ vs := by
              refine wipe_of (ws := vs) ⟨wipe_length σ vs, fun j hj => ?_⟩ fun _ h => h
              exact wipe_out hj
            refine ⟨(wipe_of o3 hw).trans hwp, β2, ρ3, S2, k2.same sm, e3, ?_⟩
            have cont : ∀ (β4 : Bt) (H4 : Hp) (S4 : Sto), Ext β2 H' β4 H4 → β4.h = D :: β1.h ∧ Ext β1 H1 ⟨β4.l, β1.h⟩ H4 ∧ H4 D = some (.lst acc) ∧ RepE (wo X T) β4 H4 ρ σ ∧ Ext ⟨β2.l, β1.h⟩ H2 ⟨β4.l, β1.h⟩ H4 := fun β4 H4 S4 x4 => by
              have x24 := xs.trans x4
              have y4 : Ext ⟨β2.l, β1.h⟩ H2 ⟨β4.l, β1.h⟩ H4 := ⟨⟨x24.pre, fun a ha => .inl ha, x24.keep, x24.lsts, x24.dom⟩, rfl⟩
              exact ⟨x4.heq.trans hh, x2.trans y4, x24.lsts D acc hacc nD2, e2.ext x24.toExtW, y4⟩
            cases qt : t ρ3 S2 with
            | exc c d S3 => rw [qt] at q2; exact q2.elim
            | bad => rw [qt] at q2; exact q2.elim
            | ok b S3 =>
              rw [qt] at q2
              intro β3 H3 x3 k3
              cases b with
              | false =>
                simp only [Bool.false_eq_true, if_false]
                simp only at q2
                obtain ⟨a1, a2, a3, a4, a5⟩ := cont β3 H3 S3 x3
                exact ⟨hlt, β3, S3, ys, acc, a1, a2, k3, a4, a3, RepL.ext (xs.trans x3).toExtW ys acc racc, by omega, q2⟩
              | true =>
                simp only [if_true]
                simp only at q2
                refine ⟨β3, ρ3, S3, k3, e3.ext x3.toExtW, ?_⟩
                cases qf : f ρ3 S3 with
                | exc c d S4 => rw [qf] at q2; exact q2.elim
                | bad => rw [qf] at q2; exact q2.elim
                | ok y0 S4 =>
                  rw [qf] at q2
                  simp only at q2
                  intro v β4 H4 x4 k4 r4
                  obtain ⟨a1, a2, a3, a4, a5⟩ := cont β4 H4 S4 (x3.trans x4)
                  have m4 : D ∈ β4.h := by rw [a1]; exact List.mem_cons_self
                  have racc4 := RepL.ext (xs.trans (x3.trans x4)).toExtW ys acc racc
                  have nD4 := (k4.hid D m4).2
                  -- the list with one item more
                  have xu : Ext β1 H1 ⟨β4.l, β1.h⟩ (upd H4 D (.lst (acc ++ [v]))) := ⟨⟨a2.pre, fun a ha => .inl ha, fun a o e n1 n2 => by
                      rw [upd_ne (ne_of_none e hD)]; exact a2.keep a o e n1 n2, fun a zs e n => by
                      rw [upd_ne (ne_of_none e hD)]; exact a2.lsts a zs e n, fun a n o e => by
                      by_cases z : a = D
                      · rw [z, hD] at e; cases e
                      · exact a2.dom a (fun o e => n o (by rw [upd_ne z]; exact e)) o e⟩, rfl⟩
                  refine ⟨acc, a3, ?_, hlt, β4, S4, ys ++ [y0], acc ++ [v], a1, xu, k4.hide m4 a3, a4.hide m4 a3, upd_same, RepL.append (RepL.hid m4 a3 ys acc racc4) ⟨v, [], rfl, Rep.hid m4 a3 y0 v r4, rfl⟩, by simp; omega, ?_⟩
                  · rw [sizeLine_eq]; omega
                  · have q3 := q2
                    have eq : ((compL vs g t f ρ (ds.drop (i + 1)) S4).bind fun ys' S => .ok (y0 :: ys') S).bind (fun zs S => R.ok (DL.D.lst (ys ++ zs)) S) = (compL vs g t f ρ (ds.drop (i + 1)) S4).bind fun zs S => R.ok (DL.D.lst (ys ++ [y0] ++ zs)) S := by
                      cases compL vs g t f ρ (ds.drop (i + 1)) S4 <;> simp
                    rw [← eq]
                    exact q3
        · have e0 : i = ds.length := by omega
          subst e0
          rw [List.drop_length] at q2
          simp only [compL, bind_ok, List.append_nil] at q2
          have wf : ExtW β2 H2 ⟨β2.l, β1.h⟩ H2 := ⟨⟨[], by simp, fun _ z => nomatch z⟩, fun a ha => .inl (by rw [hh]; exact List.mem_cons_of_mem _ ha), fun _ _ e _ _ => e, fun _ _ e _ => e, fun _ e => e⟩
          refine .inl ⟨wk.stop β2 H2 w2, q2 (.ref D) ⟨β2.l, β1.h⟩ H2 x2 ⟨k2.tabs, k2.nodup, fun a ha => k2.hid a (by rw [hh]; exact List.mem_cons_of_mem _ ha), k2.len, fun n a es e1 e2 => ?_⟩ ⟨D, acc, rfl, .inl ⟨hacc, nD2, nD.2⟩, RepL.ext wf ys acc racc⟩⟩
          obtain ⟨xs, g1, g2⟩ := k2.at_ n a es e1 e2
          exact ⟨xs, g1, RepL.ext wf es xs g2⟩
    · exact h.elim
end
end DL


set_option linter.all false
set_option autoImplicit false
set_option Elab.async false
set_option maxRecDepth 100000
set_option maxHeartbeats 2000000
/-! DLw5: comprehensions as rules; defs and calls; forgetting lists. -/
namespace DL
open PySem PySem.Spec L2
open PyProof.Rows hiding St b2i

section
variable {T : List (Addr × Str)} {X : Cx} {elt tg iter : Expr} {ifs : List Expr} {scope : Scope} {own : List (Str × Nat)} {pos : Pos} {it : AF} {g : TgF} {t : TF} {f : EF} {ws : List Nat}
theorem px_comp (hc : X.calm = true) (hN : X.N.Nodup) (hi : PXI T X tg iter it) (ok : BlkOk X.N X.env.scope scope own)
    (hg : ∀ (s : Shared) (H : Hp) (C : Addr) (cl : List (Str × Addr)) (fp : List Addr), PXG T (X.blk s H scope (compEnvC scope cl C X.env) fp) tg g ws)
    (ht : ∀ (s : Shared) (H : Hp) (C : Addr) (cl : List (Str × Addr)) (fp : List Addr), PXTs T (X.blk s H scope (compEnvC scope cl C X.env) fp) ifs t)
    (he : ∀ (s : Shared) (H : Hp) (C : Addr) (cl : List (Str × Addr)) (fp : List Addr), PX T (X.blk s H scope (compEnvC scope cl C X.env) fp) elt f)
    (hw : ∀ i ∈ ws, i ∈ own.map (·.2)) (hs : ∀ x, foldedSetIterable iter X.env x = pure x := by intro _; rfl) : PX T X (.ListComp elt [⟨tg, iter, ifs, 0⟩] scope pos) (eComp (own.map (·.2)) it g t f) :=
  ⟨fun W tk => PE.weak (pe_lc hc hN (hi.run W tk) ok (fun s H C cl fp => (hg s H C cl fp).run) (fun s H C cl fp => (ht s H C cl fp).run noW takesNo) (fun s H C cl fp => (he s H C cl fp).run noW takesNo) hs) fun σ H Q h => comp_read hw h⟩
/-- name = [..] on one line -/
theorem px_setComp (i : Nat) {y : Str} {py spos : Pos} (hc : X.calm = true) (hN : X.N.Nodup) (hi : PXI T X tg iter it) (ok : BlkOk X.N X.env.scope scope own)
    (hg : ∀ (s : Shared) (H : Hp) (C : Addr) (cl : List (Str × Addr)) (fp : List Addr), PXG T (X.blk s H scope (compEnvC scope cl C X.env) fp) tg g ws)
    (ht : ∀ (s : Shared) (H : Hp) (C : Addr) (cl : List (Str × Addr)) (fp : List Addr), PXTs T (X.blk s H scope (compEnvC scope cl C X.env) fp) ifs t)
    (he : ∀ (s : Shared) (H : Hp) (C : Addr) (cl : List (Str × Addr)) (fp : List Addr), PX T (X.blk s H scope (compEnvC scope cl C X.env) fp) elt f)
    (hw : ∀ i ∈ ws, i ∈ own.map (·.2)) (hsw : swapsWith (.ListComp elt [⟨tg, iter, ifs, 0⟩] scope pos) (some (.Name y py)) spos.line X.env = pure true)
    (hy : X.N[i]? = some y := by rfl) (hyl : X.env.scope.names.lookup y = some .local := by rfl) (hs : ∀ x, foldedSetIterable iter X.env x = pure x := by intro _; rfl) :
    PXS T X (.Assign [.Name y py] (.ListComp elt [⟨tg, iter, ifs, 0⟩] scope pos) spos) (sSet i (eComp (own.map (·.2)) it g t f)) :=
  ⟨fun W tk => PS.weak (ps_setLc hc hN hy hyl hsw (hi.run W tk) ok (fun s H C cl fp => (hg s H C cl fp).run) (fun s H C cl fp => (ht s H C cl fp).run noW takesNo) (fun s H C cl fp => (he s H C cl fp).run noW takesNo) hs)
    fun D σ H ⟨β, ρ, S, hs, he, h⟩ => comp_read hw (tE_st hs he h fun d S1 v β1 H1 x1 k1 e1 r1 q1 => q1.nx_ k1 (e1.set r1 i))⟩
end

/-! ### defs -/
def postF (w : Wo) (β : Bt) (H : Hp) (r : R D) (Q : VK) (E : XK) : Prop := match r with
  | .ok d S => ∀ v β' H', Ext β H β' H' → SOk w β' H' S → Rep w β' H' d v → Q v H'
  | .exc c d S => ∀ C dx v β' H', Ext β H β' H' → SOk w β' H' S → w.mg c = some (.ref C) → H' dx = some (.xd [(("value" : Str), v)]) → Rep w β' H' d v → E (.ref C) (some dx) H'
  | .bad => False
def spD (w : Wo) (fn : FN) : Sp := fun vs H Q E => ∃ β ds S, SOk w β H S ∧ RepL w β H ds vs ∧ postF w β H (fn ds S) Q E
/-- a def's promise, where no repr is under way -/
structure FnG (P : Program) (w : World) (K : PySem.W.Frag) (mg : Str → Option Value) (base : Heap) (T : List (Addr × Str)) (gd : Bool) (k : Nat) (f : Addr) (fd : FuncData) (ps : List Str) (fn : FN) : Prop where
  len : ∀ ds S, fn ds S ≠ .bad → ds.length = ps.length
  run : ∀ (A : Around) (outer : List PySem.Env) (s : Shared) (H : Hp) (args : Args) (us : List Value) (vs : List V) (Q : VK) (E : XK), (gd = true → A.guards = some []) → Room k A → Env0 P w K mg base A outer s H → BindsTo s fd args (ps.zip us) → Vals vs us → spD ⟨K, mg, T⟩ fn vs H Q E →
    codeAny (model P w) A (.call (.ref f) args) (CR (L2.CX P w) outer P w H s Q E) s
theorem FnG.mono {P : Program} {w : World} {K : PySem.W.Frag} {mg : Str → Option Value} {base : Heap} {T : List (Addr × Str)} {gd : Bool} {j k : Nat} {f : Addr} {fd : FuncData} {ps : List Str} {fn : FN} (F : FnG P w K mg base T gd j f fd ps fn) (h : j ≤ k) : FnG P w K mg base T gd k f fd ps fn :=
  ⟨F.len, fun A outer s H args us vs Q E hg hr => F.run A outer s H args us vs Q E hg (hr.mono h)⟩
theorem rep_start {w : Wo} {β : Bt} {H : Hp} {n : Nat} {N : List Str} {ds : List D} {vs : List V} (hn : N.length = n) (l : RepL w β H ds vs) : RepE w β H (DL.start n ds) (L2.start N vs) := by
  have hl := l.length
  unfold DL.start L2.start
  rw [hn, ← hl]
  refine ⟨by simp [hl], fun i d e => ?_⟩
  by_cases hi : i < ds.length
  · rw [List.getElem?_append_left (by simpa using hi)] at e
    rw [List.getElem?_append_left (by simp; omega)]
    rw [List.getElem?_map] at e ⊢
    cases q : ds[i]? with
    | none => rw [q] at e; cases e
    | some d' =>
      rw [q] at e
      cases e
      obtain ⟨v, h1, h2⟩ := l.get q
      exact ⟨v, by rw [h1]; rfl, h2⟩
  · rw [List.getElem?_append_right (by simpa using hi)] at e
    have := List.mem_of_getElem? e
    rw [List.mem_replicate] at this
    cases this.2
section
variable {P : Program} {w : World} {K : PySem.W.Frag} {mg : Str → Option Value} {base : Heap} {T : List (Addr × Str)}
/-- a def by its body's mirror -/
theorem fnG_of {gd : Bool} {k : Nat} {f : Addr} {name qual : Str} {st : Stmt} {oc : Value} {od an : Option Addr} {osl : Array (Option Value)} {kV doc pm cdv ct : Value} {N ps : List Str} {m n : Nat} {g : SF}
    (lk : K.lookup f = some ⟨oc, od, .func (PySem.W.fnOf name qual (defArgs st) (defBody st) (defScope st) .none kV doc pm an cdv ct), osl⟩) (hcd : PySem.W.codeIn K cdv qual = true) (Sc : FnScope N ps (defScope st)) (hm : ps.length = m) (hn : N.length = n)
    (body : ∀ (A : Around) (outer : List PySem.Env) (s : Shared) (H : Hp) (E : XK), (gd = true → A.guards = some []) → Room k (A.deeper (envOfC qual (defScope st) s.heap.objs.size f cdv)) → PXSs T (cxOf (L2.CX P w) P w K mg base N qual (defScope st) f cdv A outer s H E) (defBody st) g) :
    FnG P w K mg base T gd (k + 1) f (PySem.W.fnOf name qual (defArgs st) (defBody st) (defScope st) .none kV doc pm an cdv ct) ps (mkFn m n g) := by
  have len : ∀ ds S, mkFn m n g ds S ≠ .bad → ds.length = m := fun ds S h => by
    unfold mkFn at h
    by_cases z : ds.length = m
    · exact z
    · rw [if_neg z] at h; exact absurd rfl h
  refine ⟨fun ds S h => (len ds S h).trans hm.symm, fun A outer s H args us vs Q E hg hr e0 hb r hs => ?_⟩
  obtain ⟨β, ds, S, hs, l, h⟩ := hs
  have hd : ds.length = m := len ds S fun z => by rw [z] at h; exact h
  refine LamX.run_ofS lk hcd Sc hr e0 hb r (by rw [← l.length, hd, hm]) fun hr' => ?_
  refine ⟨_, (body A outer s H E hg hr').run (fun cls d _ H => E cls d H) (takes_of rfl rfl rfl rfl), β, DL.start n ds, S, hs, rep_start hn l, ?_⟩
  unfold mkFn at h
  rw [if_pos hd] at h
  show postS ⟨K, mg, T⟩ _ β H (g (DL.start n ds) S) _
  cases q : g (DL.start n ds) S with
  | nx ρ S1 => rw [q] at h; exact fun σ' β' H' x k1 _ => h .non β' H' x k1 rfl
  | rt d S1 => rw [q] at h; exact h
  | exc c d ρ S1 => rw [q] at h; exact fun C dx v σ' β' H' x k1 _ => h C dx v β' H' x k1
  | bk ρ S1 => rw [q] at h; exact h.elim
  | ct ρ S1 => rw [q] at h; exact h.elim
  | bad => rw [q] at h; exact h.elim

/-! forgetting lists -/
theorem low_get {β : Bt} {n m : Nat} {a : Addr} (h : β.l[m]? = some a) (hm : m < n) : (β.l.take n)[m]? = some a := by
  rw [List.getElem?_take, if_pos hm]; exact h
theorem FzL.low {K : PySem.W.Frag} {β : Bt} {H : Hp} {a : Addr} {xs : List V} (n : Nat) (h : FzL K β H a xs) : FzL K ⟨β.l.take n, β.h⟩ H a xs := by
  rcases h with ⟨h, n1, n2⟩ | h
  · exact .inl ⟨h, fun z => n1 (List.mem_of_mem_take z), n2⟩
  · exact .inr h
mutual
theorem Rep.low {w : Wo} {β : Bt} {H : Hp} {n : Nat} : ∀ (d : D) (v : V), d.low n = true → Rep w β H d v → Rep w ⟨β.l.take n, β.h⟩ H d v
  | .non, _, _, h => h
  | .bl _, _, _, h => h
  | .int _, _, _, h => h
  | .str _, _, _, h => h
  | .tup ds, _, z, ⟨a, xs, r, h, l⟩ => ⟨a, xs, r, h, RepL.low ds xs (by simpa [D.low] using z) l⟩
  | .lst ds, _, z, ⟨a, xs, r, h, l⟩ => ⟨a, xs, r, FzL.low n h, RepL.low ds xs (by simpa [D.low] using z) l⟩
  | .loc m, _, z, ⟨a, r, h⟩ => ⟨a, r, low_get h (by simpa [D.low] using z)⟩
  | .exo c d, _, z, ⟨a, C, dx, x, r, h1, h2, h3, h4⟩ => ⟨a, C, dx, x, r, h1, h2, h3, Rep.low d x (by simpa [D.low] using z) h4⟩
  | .ty _, _, _, h => h
  | .cls _, _, _, h => h
  | .fn _, _, _, h => h
theorem RepL.low {w : Wo} {β : Bt} {H : Hp} {n : Nat} : ∀ (ds : List D) (vs : List V), D.lowL n ds = true → RepL w β H ds vs → RepL w ⟨β.l.take n, β.h⟩ H ds vs
  | [], _, _, h => h
  | d :: ds, _, z, ⟨x, xr, r, h, l⟩ => by
    simp only [D.lowL, Bool.and_eq_true] at z
    exact ⟨x, xr, r, Rep.low d x z.1 h, RepL.low ds xr z.2 l⟩
end
theorem SOk.low {w : Wo} {β : Bt} {H : Hp} {S : Sto} {n : Nat} (k : SOk w β H S) (hn : n ≤ S.length) (h : (S.take n).all (D.lowL n) = true) : SOk w ⟨β.l.take n, β.h⟩ H (S.take n) := by
  refine ⟨k.tabs, k.nodup.sublist (List.take_sublist n β.l), fun a ha => ⟨(k.hid a ha).1, fun z => (k.hid a ha).2 (List.mem_of_mem_take z)⟩, by simp [k.len], fun m a ds e1 e2 => ?_⟩
  have e1 : (β.l.take n)[m]? = some a := e1
  rw [List.getElem?_take] at e1
  split at e1
  · rename_i hm
    have hd : ds ∈ S.take n := List.mem_of_getElem? e2
    rw [List.getElem?_take, if_pos hm] at e2
    obtain ⟨xs, h1, h2⟩ := k.at_ m a ds e1 e2
    exact ⟨xs, h1, RepL.low ds xs (List.all_eq_true.mp h ds hd) h2⟩
  · cases e1
theorem Ext.low {β β' : Bt} {H H' : Hp} (e : Ext β H β' H') : Ext β H ⟨β'.l.take β.l.length, β'.h⟩ H' := by
  obtain ⟨ν, e1, f1⟩ := e.pre
  refine ⟨⟨⟨[], ?_, fun _ z => nomatch z⟩, e.hid, e.keep, e.lsts, e.dom⟩, e.heq⟩
  show β'.l.take β.l.length = β.l ++ []
  rw [e1]; simp
theorem Ext.len {β β' : Bt} {H H' : Hp} (e : Ext β H β' H') : β.l.length ≤ β'.l.length := by
  obtain ⟨ν, e1, _⟩ := e.pre
  rw [e1]; simp
theorem FnG.drop {gd : Bool} {k : Nat} {f : Addr} {fd : FuncData} {ps : List Str} {fn : FN} (F : FnG P w K mg base T gd k f fd ps fn) : FnG P w K mg base T gd k f fd ps (DL.drop fn) := by
  refine ⟨fun ds S h => F.len ds S fun z => h (by unfold DL.drop; rw [z]), fun A outer s H args us vs Q E hg hr e0 hb r hs => F.run A outer s H args us vs Q E hg hr e0 hb r ?_⟩
  obtain ⟨β, ds, S, hs, l, h⟩ := hs
  refine ⟨β, ds, S, hs, l, ?_⟩
  unfold DL.drop at h
  cases q : fn ds S with
  | ok d S1 =>
    rw [q] at h
    simp only at h
    split at h
    · rename_i z
      rw [Bool.and_eq_true] at z
      intro v β' H' x k1 r1
      have hl : S.length ≤ S1.length := by rw [← hs.len, ← k1.len]; exact x.len
      refine h v ⟨β'.l.take S.length, β'.h⟩ H' ?_ (k1.low hl z.2) (Rep.low d v z.1 r1)
      rw [← hs.len]
      exact x.low
    · exact h.elim
  | exc c d S1 =>
    rw [q] at h
    simp only at h
    split at h
    · rename_i z
      rw [Bool.and_eq_true] at z
      intro C dx v β' H' x k1 m1 m2 r1
      have hl : S.length ≤ S1.length := by rw [← hs.len, ← k1.len]; exact x.len
      refine h C dx v ⟨β'.l.take S.length, β'.h⟩ H' ?_ (k1.low hl z.2) m1 m2 (Rep.low d v z.1 r1)
      rw [← hs.len]
      exact x.low
    · exact h.elim
  | bad => rw [q] at h; exact h.elim
end

/-! ### calls -/
section
variable {T : List (Addr × Str)} {X : Cx} {gd : Bool} {k : Nat} {f : Addr} {fd : FuncData} {ps : List Str} {fn : FN} {x : Str} {p pos : Pos} {e : Expr} {es : List Expr} {ga : AF} {E : XK}
theorem run_fnG {pins : List (Addr × Obj)} {σ : St} {H : Hp} {s : Shared} {Q : VK} {us : List Value} {vs : List V} (F : FnG X.prog X.w X.K X.mg X.base T gd k f fd ps fn) (hr : Room k X.A) (hgd : gd = true → X.A.guards = some []) (hb : L2.Binds X.K fd ps []) (hx : PassesAt (L2.CX X.prog X.w) X σ E)
    (I : Inv X pins σ H s) (r : Vals vs us) (h : spD (wo X T) fn vs H Q E) : wpAny (model X.prog X.w) X.A (call (.ref f) us) (EP X pins σ Q) X.xe s := by
  have hl : us.length = ps.length := by
    obtain ⟨β, ds, S, hs, l, h⟩ := h
    rw [← r.length, ← l.length]
    exact F.len ds S fun z => by rw [z] at h; exact h
  have b := hb s us I.kIn (by rw [List.append_nil]; exact hl)
  rw [List.append_nil] at b
  refine wpAny_call (codeAny_mono (F.run X.A X.stack s H ⟨us, []⟩ us vs Q E hgd hr I.env0 b r h) fun r s' hq => ?_)
  match r, hq with
  | .error e, hq => exact hx pins H s e s' I hq
  | .ok (.ret u), hq => exact I.after hq
theorem px_call (F : FnG X.prog X.w X.K X.mg X.base T gd k f fd ps fn) (hr : Room k X.A) (hgd : gd = true → X.A.guards = some []) (hm : X.mg x = some (.ref f)) (hk : PySem.W.keepIn X.K (.ref f) = true) (hb : L2.Binds X.K fd ps [])
    (ha : PXA T X (e :: es) ga) (hg : Gl X x := by rfl) (hdb : (x == ("__debug__" : Str)) = false := by decide) (he : starEach (e :: es) X.env = (false, eval e X.env) :: starEach es X.env := by rfl) (hpl : (backTo pos (starEach es X.env)).any (·.1) = false := by rfl) :
    PX T X (.Call (.Name x p) (e :: es) [] pos) (eCall fn ga) := by
  refine ⟨fun W t => ⟨fun pins s σ H Q I h => ?_⟩⟩
  refine wpAny_Call_Name_kw (ld_glob I hg hm ?_ hdb)
  obtain ⟨β, ρ, S, hs, he', h⟩ := h
  have ha' := (ha.run W t).run pos pins s σ H (fun vs H1 => spD (wo X T) fn vs H1 Q (WE W σ)) I (tA_bind hs he' h fun ds S1 vs β1 H1 x1 k1 e1 r1 q1 => ⟨β1, ds, S1, k1, r1, by
    cases q : fn ds S1 with
    | ok d S2 => rw [q] at q1; exact q1
    | exc c d S2 => rw [q] at q1; exact q1
    | bad => rw [q] at q1; exact q1⟩)
  refine PySem.W.callWith_K (h₀ := X.base) I.ok.mod.kin hk (thn ha' fun us s1 ⟨vs, H1, I1, r, q⟩ => ⟨I1.kIn, ?_⟩) he hpl
  exact run_fnG F hr hgd hb (passAt t σ) I1 r q
end
end DL


set_option linter.all false
set_option autoImplicit false
set_option Elab.async false
set_option maxRecDepth 100000
set_option maxHeartbeats 2000000
/-! DLw6: built-ins: repr, isinstance, list(range), tuple, slices, append; names of the module. -/
namespace DL
open PySem PySem.Spec L2
open PyProof.Rows hiding St b2i

section
variable {T : List (Addr × Str)} {X : Cx} {a b c e : Expr} {fa fb fc : EF} {pos p : Pos} {ga : AF} {es : List Expr}

/-! ### repr -/
def rReprD (K : PySem.W.Frag) : List V → Hp → VK → Prop := fun xs H Q => ∃ x d, xs = [x] ∧ Dp K H x d ∧ d.showable = true ∧ d.canLay0 = true ∧ d.shown.length ≤ sizeLine ∧ d.depth ≤ 60 ∧ Q (.str d.shown) H
theorem call_reprD (hg : X.A.guards = some []) (hu : X.A.units + 64 < cLine) : CallR X (.builtin "repr") (rReprD X.K) := by
  intro pins s σ H xs us Q I r h
  obtain ⟨x, d, rfl, hd, h1, h2, h3, h4, q⟩ := h
  obtain ⟨u, rfl, rx⟩ := vals1 r
  obtain ⟨as, rd⟩ := Dp.reads I d x u hd rx
  cases hd with
  | non =>
    cases (show u = Value.none from rx)
    exact PySem.P.repr_of_none ⟨.str _, H, I.tok _, ⟨_, rfl⟩, q⟩
  | bl b =>
    cases (show u = Value.bool b from rx)
    exact PySem.P.repr_of_bool ⟨.str _, H, I.tok _, ⟨s.toks, by simp only [PyData.shown]⟩, q⟩
  | int i =>
    obtain ⟨t, rfl⟩ := rx
    exact PySem.P.repr_of_int (of_decide_eq_true (by simpa [PyData.showable] using h1)) ⟨.str _, H, I.tok _, ⟨s.toks, by simp only [PyData.shown]⟩, q⟩
  | str z =>
    obtain ⟨t, rfl⟩ := rx
    exact PySem.P.repr_of_str ⟨.str _, H, I.tok _, ⟨s.toks, by simp only [PyData.shown]⟩, q⟩ (by simpa [PyData.shown] using h3)
  | lst hs ha =>
    cases (show u = Value.ref _ from rx)
    exact repr_of_reads' rd h1 (PyData.noDict_hsm (PyData.hasDict_of_canLay _ h2)) hg (by omega) (fun _ _ z => z) (fun h' u tk hk => ⟨.str _, H, I.kept (t' := tk) hk, ⟨u, rfl⟩, q⟩) h3
  | tup hs ha =>
    cases (show u = Value.ref _ from rx)
    exact repr_of_reads' rd h1 (PyData.noDict_hsm (PyData.hasDict_of_canLay _ h2)) hg (by omega) (fun _ _ z => z) (fun h' u tk hk => ⟨.str _, H, I.kept (t' := tk) hk, ⟨u, rfl⟩, q⟩) h3
theorem ok_repr : CallOk T X (rReprD X.K) fRepr := fun W σ β H S xs vs Q hs l h => by
  match xs, l, h with
  | [], _, h => exact h.elim
  | _ :: _ :: _, _, h => exact h.elim
  | [x], l, h =>
    simp only [fRepr] at h
    cases ep : x.pd with
    | none => rw [ep] at h; exact h.elim
    | some p =>
      rw [ep] at h
      simp only at h
      split at h
      · rename_i z
        obtain ⟨v, rfl, r⟩ := RepL.one l
        simp only [Bool.and_eq_true, decide_eq_true_eq] at z
        exact ⟨v, p, rfl, dp_of x v p r ep, z.1.1.1, z.1.1.2, le_line z.1.2, z.2, post.val h hs rfl⟩
      · exact h.elim

/-! ### isinstance -/
/-- what is asked of the classes by name: which lie under which -/
def SubOk (X : Cx) (sub : Str → Str → Option Bool) : Prop := ∀ c c' b C C', sub c c' = some b → X.mg c = some (.ref C) → X.mg c' = some (.ref C') → PySem.W.kitOne X.K (.ref C) (.ref C') = some b
/-- isinstance(x, T) of a value that is no exception -/
def fIs (t : String) : FN := fun ds S => match ds with
  | [x, .ty T] => match (tyD x).bind fun t => L2.kitB t T with
    | some b => .ok (.bl b) S
    | none => .bad
  | _ => .bad
theorem tyX_of {β : Bt} {H : Hp} {S : Sto} {d : D} {v : V} {t : String} (hs : SOk (wo X T) β H S) (r : Rep (wo X T) β H d v) (h : tyD d = some t) : TyX X.K H v (.type t) := by
  cases d with
  | non => cases h; cases (show v = _ from r); exact .base .non
  | bl b => cases h; cases (show v = _ from r); exact .base (.bl b)
  | int b => cases h; cases (show v = _ from r); exact .base (.int b)
  | str b => cases h; cases (show v = _ from r); exact .base (.str b)
  | tup ds =>
    cases h
    obtain ⟨a, xs, rfl, h1, l⟩ := r
    rcases h1 with (h1 | ⟨o, h1⟩) | ⟨o, its, n, h1, h2, _⟩
    · exact .base (.tup h1)
    · exact .fTuple h1
    · exact .kTuple h1 h2
  | lst ds =>
    cases h
    obtain ⟨a, xs, rfl, h1, l⟩ := r
    rcases h1 with ⟨h1, _⟩ | ⟨o, h1⟩ | ⟨o, its, n, h1, h2, _⟩
    · exact .base (.lst h1)
    · exact .base (.frz h1)
    · exact .kList h1 h2
  | loc n =>
    cases h
    obtain ⟨a, rfl, h1⟩ := r
    obtain ⟨ds, xs, h2, h3, l⟩ := hs.get h1
    exact .base (.lst h3)
  | _ => cases h
theorem ok_isi (sub : Str → Str → Option Bool) (nosub : ∀ c c', sub c c' = none) : CallOk T X (rIsi X.K) (fIsi sub) := fun W σ β H S xs vs Q hs l h => by
  unfold fIsi at h
  split at h
  · rename_i _ x t
    cases eb : (tyD x).bind fun t' => L2.kitB t' t with
    | none => rw [eb] at h; exact h.elim
    | some b =>
      rw [eb] at h
      obtain ⟨v, u, rfl, r1, r2⟩ := RepL.two l
      simp only [Option.bind_eq_some_iff] at eb
      obtain ⟨t0, e1, e2⟩ := eb
      cases (show u = _ from r2)
      exact ⟨v, .ty t, .type t0, .type t, b, rfl, .ty t, tyX_of hs r1 e1, kit_ty e2, post.val h hs rfl⟩
  · rw [nosub] at h
    exact h.elim
  · exact h.elim

/-! ### list(range(..)), tuple(range(..)) -/
/-- an expression that makes a range, as data its ints -/
structure PXRg (T : List (Addr × Str)) (X : Cx) (e : Expr) (it : AF) : Prop where
  run : ∀ W, Takes X W → ∃ te, PRg X e te ∧ ∀ (σ : St) (H : Hp) (β : Bt) (ρ : Env) (S : Sto) (Z : Int → Int → Hp → Prop), SOk (wo X T) β H S → RepE (wo X T) β H ρ σ →
    (match it ρ S with
      | .ok ds S => ∀ i j β' H', ds = rngL i (j - i).toNat → (-(2 ^ 62) ≤ i ∧ i < 2 ^ 62 ∧ -(2 ^ 62) ≤ j ∧ j < 2 ^ 62) → Ext β H β' H' → SOk (wo X T) β' H' S → Z i j H'
      | .exc c d S => ∀ C dx v β' H', Ext β H β' H' → SOk (wo X T) β' H' S → X.mg c = some (.ref C) → H' dx = some (.xd [(("value" : Str), v)]) → Rep (wo X T) β' H' d v → W (.ref C) (some dx) σ H'
      | .bad => False) → te σ H Z
theorem pxr_1 (hm : X.mg "range" = none) (ha : PX T X a fa) (hg : Gl X "range" := by rfl) (na : starEach [a] X.env = (false, eval a X.env) :: starEach [] X.env := by rfl) : PXRg T X (.Call (.Name "range" p) [a] [] pos) (fRange1 (aCons fa aNil)) :=
  ⟨fun W t => ⟨_, prg_1 hg hm (ha.run W t) na, fun σ H β ρ S Z hs he h => by
    refine ⟨β, ρ, S, hs, he, ?_⟩
    unfold fRange1 aCons aNil at h
    cases q : fa ρ S with
    | ok d S1 =>
      rw [q] at h
      simp only [bind_ok] at h
      intro v β1 H1 x1 k1 r1
      cases d with
      | int j =>
        by_cases hj : -(2 ^ 62) ≤ j ∧ j < 2 ^ 62
        · simp only [if_pos hj] at h
          exact ⟨j, r1, h 0 j β1 H1 (by simp) ⟨by omega, by omega, hj.1, hj.2⟩ x1 k1⟩
        · simp only [if_neg hj] at h
      | _ => exact h.elim
    | exc c d S1 => rw [q] at h; exact h
    | bad => rw [q] at h; exact h⟩⟩
theorem pxr_2 (hm : X.mg "range" = none) (ha : PX T X a fa) (hb : PX T X b fb) (hg : Gl X "range" := by rfl) (na : starEach [a, b] X.env = (false, eval a X.env) :: starEach [b] X.env := by rfl)
    (nb : starEach [b] X.env = (false, eval b X.env) :: starEach [] X.env := by rfl) (hp : (backTo pos (starEach [b] X.env)).any (·.1) = false := by rfl) : PXRg T X (.Call (.Name "range" p) [a, b] [] pos) (fRange2 (aCons fa (aCons fb aNil))) :=
  ⟨fun W t => ⟨_, prg_2 hg hm (ha.run W t) (hb.run W t) na nb hp, fun σ H β ρ S Z hs he h => by
    refine ⟨β, ρ, S, hs, he, ?_⟩
    unfold fRange2 aCons aNil at h
    cases q : fa ρ S with
    | ok d S1 =>
      rw [q] at h
      simp only [bind_ok] at h
      intro v β1 H1 x1 k1 r1
      refine ⟨β1, ρ, S1, k1, he.ext x1.toExtW, ?_⟩
      cases q2 : fb ρ S1 with
      | ok d2 S2 =>
        rw [q2] at h
        simp only [bind_ok] at h
        intro v2 β2 H2 x2 k2 r2
        cases d with
        | int i =>
          cases d2 with
          | int j =>
            by_cases hj : -(2 ^ 62) ≤ i ∧ i < 2 ^ 62 ∧ -(2 ^ 62) ≤ j ∧ j < 2 ^ 62
            · simp only [if_pos hj] at h
              exact ⟨i, j, r1, r2, h i j β2 H2 rfl hj (x1.trans x2) k2⟩
            · simp only [if_neg hj] at h
          | _ => exact h.elim
        | _ => cases d2 <;> exact h.elim
      | exc c d S2 => rw [q2] at h; exact fun C dx v β2 H2 x2 k2 => h C dx v β2 H2 (x1.trans x2) k2
      | bad => rw [q2] at h; exact h
    | exc c d S1 => rw [q] at h; exact h
    | bad => rw [q] at h; exact h⟩⟩
theorem rep_rng {w : Wo} {β : Bt} {H : Hp} : ∀ (n : Nat) (lo : Int), RepL w β H (rngL lo n) ((List.range n).map fun i => V.int (lo + (i : Nat)))
  | 0, _ => rfl
  | n + 1, lo => by
    rw [List.range_succ_eq_map, List.map_cons, List.map_map]
    refine ⟨_, _, rfl, by show V.int _ = V.int _; simp, ?_⟩
    have h := rep_rng (w := w) (β := β) (H := H) n (lo + 1)
    have e : (List.map ((fun i => V.int (lo + (i : Nat))) ∘ Nat.succ) (List.range n)) = (List.range n).map fun i => V.int (lo + 1 + (i : Nat)) := by
      apply List.map_congr_left
      intro i _
      simp only [Function.comp, Nat.succ_eq_add_one]
      congr 1
      omega
    rw [e]
    exact h
theorem px_listRg {it : AF} (hc : X.calm = true) (hm : X.mg "list" = none) (h : PXRg T X e it) (hg : Gl X "list" := by rfl) (na : starEach [e] X.env = (false, eval e X.env) :: starEach [] X.env := by rfl) : PX T X (.Call (.Name "list" p) [e] [] pos) (eListRg it) := by
  refine ⟨fun W t => ?_⟩
  obtain ⟨te, h1, h2⟩ := h.run W t
  refine PE.weak (pe_listRg hc hg hm h1 na) fun σ H Q ⟨β, ρ, S, hs, he, h⟩ => h2 σ H β ρ S _ hs he ?_
  unfold eListRg at h
  cases q : it ρ S with
  | ok ds S1 =>
    rw [q] at h
    simp only [bind_ok] at h
    intro i j β1 H1 ed hb x1 k1
    by_cases hz : ds.length ≤ 16777216
    · rw [if_pos hz] at h
      subst ed
      rw [rngL_length] at hz
      exact ⟨⟨hb.1, hb.2.1, hb.2.2.1, hb.2.2.2, hz⟩, fun q hq => (post.ext h x1) (.ref q) β1 _ (.new hq) (k1.new hq) ⟨q, _, rfl, .inl ⟨upd_same, notin_of k1 hq⟩, rep_rng _ _⟩⟩
    · rw [if_neg hz] at h
      exact h.elim
  | exc c d S1 => rw [q] at h; exact h
  | bad => rw [q] at h; exact h

/-! ### tuple(x), list(x) -/
theorem items_of {β : Bt} {H : Hp} {S : Sto} {d : D} {v : V} {xs : List D} (hs : SOk (wo X T) β H S) (r : Rep (wo X T) β H d v) (h : items S d = some xs) : ∃ p ys, v = .ref p ∧ (SqL X.K H p ys ∨ SqT X.K H p ys) ∧ RepL (wo X T) β H xs ys := by
  cases d with
  | tup ds => cases h; obtain ⟨a, ys, rfl, h1, l⟩ := r; exact ⟨a, ys, rfl, .inr h1, l⟩
  | lst ds => cases h; obtain ⟨a, ys, rfl, h1, l⟩ := r; exact ⟨a, ys, rfl, .inl h1.sq, l⟩
  | loc n =>
    obtain ⟨a, rfl, h1⟩ := r
    obtain ⟨ds, ys, h2, h3, l⟩ := hs.get h1
    have h' : S[n]? = some xs := h
    rw [h2] at h'
    cases h'
    exact ⟨a, ys, rfl, .inl (.of h3), l⟩
  | _ => cases h
theorem ok_list : CallOk T X (fun xs H Q => ∃ p ys, xs = [.ref p] ∧ (SqL X.K H p ys ∨ SqT X.K H p ys) ∧ ∀ l, H l = none → Q (.ref l) (upd H l (.lst ys))) fList := fun W σ β H S xs vs Q hs l h => by
  match xs, l, h with
  | [], _, h => exact h.elim
  | _ :: _ :: _, _, h => exact h.elim
  | [x], l, h =>
    simp only [fList] at h
    cases e : items S x with
    | none => rw [e] at h; exact h.elim
    | some ds =>
      rw [e] at h
      obtain ⟨v, rfl, r⟩ := RepL.one l
      obtain ⟨p, ys, rfl, h1, h2⟩ := items_of hs r e
      exact ⟨p, ys, rfl, h1, fun q hq => h (.ref q) β _ (.new hq) (hs.new hq) ⟨q, ys, rfl, .inl ⟨upd_same, notin_of hs hq⟩, RepL.ext (Ext.new hq).toExtW ds ys h2⟩⟩
theorem ok_tuple : CallOk T X (fun xs H Q => ∃ p ys, xs = [.ref p] ∧ ((SqL X.K H p ys ∧ ∀ l, H l = none → Q (.ref l) (upd H l (.tup ys))) ∨ (SqT X.K H p ys ∧ Q (.ref p) H))) fTuple := fun W σ β H S xs vs Q hs l h => by
  match xs, l, h with
  | [], _, h => exact h.elim
  | _ :: _ :: _, _, h => exact h.elim
  | [x], l, h =>
    simp only [fTuple] at h
    cases e : items S x with
    | none => rw [e] at h; exact h.elim
    | some ds =>
      rw [e] at h
      obtain ⟨v, rfl, r⟩ := RepL.one l
      obtain ⟨p, ys, rfl, h1, h2⟩ := items_of hs r e
      rcases h1 with h1 | h1
      · exact ⟨p, ys, rfl, .inl ⟨h1, fun q hq => h (.ref q) β _ (.new hq) (hs.new hq) ⟨q, ys, rfl, .of upd_same, RepL.ext (Ext.new hq).toExtW ds ys h2⟩⟩⟩
      · exact ⟨p, ys, rfl, .inr ⟨h1, post.val h hs ⟨p, ys, rfl, h1, h2⟩⟩⟩

/-! ### slices -/
structure PXO (T : List (Addr × Str)) (X : Cx) (e : Option Expr) (f : OF) : Prop where
  run : ∀ W, Takes X W → PO X e (fun σ H Q => ∃ β ρ S, SOk (wo X T) β H S ∧ RepE (wo X T) β H ρ σ ∧ (match f ρ S with
    | .ok o S => ∀ β' H', Ext β H β' H' → SOk (wo X T) β' H' S → Q o H'
    | .exc c d S => ∀ C dx v β' H', Ext β H β' H' → SOk (wo X T) β' H' S → X.mg c = some (.ref C) → H' dx = some (.xd [(("value" : Str), v)]) → Rep (wo X T) β' H' d v → W (.ref C) (some dx) σ H'
    | .bad => False))
theorem PO.weak {e : Option Expr} {t t' : TO} (h : PO X e t) (k : ∀ σ H Q, t' σ H Q → t σ H Q) : PO X e t' := ⟨fun pins s σ H Q I q => h.run pins s σ H Q I (k σ H Q q)⟩
theorem pxo_none : PXO T X none oNone := ⟨fun W t => PO.weak po_none fun σ H Q ⟨β, ρ, S, hs, he, h⟩ => h β H (.refl _ _) hs⟩
theorem pxo_some (ha : PX T X a fa) : PXO T X (some a) (oSome fa) := ⟨fun W t => PO.weak (po_some (ha.run W t)) fun σ H Q ⟨β, ρ, S, hs, he, h⟩ => by
  refine ⟨β, ρ, S, hs, he, ?_⟩
  unfold oSome at h
  cases q : fa ρ S with
  | ok d S1 =>
    rw [q] at h
    simp only [bind_ok] at h
    intro v β1 H1 x1 k1 r1
    cases d with
    | int i => exact ⟨i, r1, h β1 H1 x1 k1⟩
    | _ => exact h.elim
  | exc c d S1 => rw [q] at h; exact h
  | bad => rw [q] at h; exact h⟩
theorem cut_rep {w : Wo} {β : Bt} {H : Hp} {ds : List D} {vs : List V} (l : RepL w β H ds vs) (lo hi : Option Int) : RepL w β H (cutD ds lo hi) (cutV vs lo hi) := by
  have dr : ∀ (n : Nat) {ds : List D} {vs : List V}, RepL w β H ds vs → RepL w β H (ds.drop n) (vs.drop n) := by
    intro n
    induction n with
    | zero => intro ds vs l; exact l
    | succ n ih =>
      intro ds vs l
      cases ds with
      | nil => cases (show vs = [] from l); exact rfl
      | cons d ds => obtain ⟨x, xr, rfl, _, l⟩ := l; exact ih l
  have tk : ∀ (n : Nat) {ds : List D} {vs : List V}, RepL w β H ds vs → RepL w β H (ds.take n) (vs.take n) := by
    intro n
    induction n with
    | zero => intro ds vs l; exact rfl
    | succ n ih =>
      intro ds vs l
      cases ds with
      | nil => cases (show vs = [] from l); exact rfl
      | cons d ds => obtain ⟨x, xr, rfl, r, l⟩ := l; exact ⟨x, _, rfl, r, ih l⟩
  unfold cutD cutV
  rw [l.length]
  exact tk _ (dr _ l)
theorem px_cut {lo hi : Option Expr} {fl fh : OF} {p2 : Pos} (ha : PX T X a fa) (hl : PXO T X lo fl) (hh : PXO T X hi fh) : PX T X (.Subscript a (.Slice lo hi none p2) pos) (eCut fa fl fh) :=
  ⟨fun W t => PE.weak (pe_slice (SlR.or sl_list sl_tupA) (ha.run W t) (hl.run W t) (hh.run W t)) fun σ H Q ⟨β, ρ, S, hs, he, h⟩ => tE_bind hs he h fun d S1 v β1 H1 x1 k1 e1 r1 q1 => by
    refine ⟨β1, ρ, S1, k1, e1, ?_⟩
    cases ql : fl ρ S1 with
    | bad => rw [ql] at q1; exact q1
    | exc c d S2 => rw [ql] at q1; exact q1
    | ok lo' S2 =>
      rw [ql] at q1
      simp only [bind_ok] at q1
      intro β2 H2 x2 k2
      refine ⟨β2, ρ, S2, k2, e1.ext x2.toExtW, ?_⟩
      replace q1 := post.ext q1 x2
      cases qh : fh ρ S2 with
      | bad => rw [qh] at q1; exact q1
      | exc c d S3 => rw [qh] at q1; exact q1
      | ok hi' S3 =>
        rw [qh] at q1
        simp only [bind_ok] at q1
        intro β3 H3 x3 k3
        replace q1 := post.ext q1 x3
        have r3 := Rep.ext (x2.trans x3).toExtW d v r1
        cases d with
        | lst ds =>
          obtain ⟨p, xs, rfl, h1, l⟩ := r3
          refine .inl ⟨p, xs, rfl, h1.sq, fun q hq => q1 (.ref q) β3 _ (.new hq) (k3.new hq) ⟨q, _, rfl, .inl ⟨upd_same, notin_of k3 hq⟩, RepL.ext (Ext.new hq).toExtW _ _ (cut_rep l lo' hi')⟩⟩
        | loc n =>
          obtain ⟨p, rfl, h1⟩ := r3
          obtain ⟨ds, xs, g1, g2, l⟩ := k3.get h1
          simp only [g1] at q1
          refine .inl ⟨p, xs, rfl, .of g2, fun q hq => q1 (.ref q) β3 _ (.new hq) (k3.new hq) ⟨q, _, rfl, .inl ⟨upd_same, notin_of k3 hq⟩, RepL.ext (Ext.new hq).toExtW _ _ (cut_rep l lo' hi')⟩⟩
        | tup ds =>
          obtain ⟨p, xs, rfl, h1, l⟩ := r3
          have cr := cut_rep l lo' hi'
          refine .inr ⟨p, xs, rfl, h1, fun wh => post.val q1 k3 ⟨p, xs, rfl, h1, ?_⟩, fun _ q hq => q1 (.ref q) β3 _ (.new hq) (k3.new hq) ⟨q, _, rfl, .of upd_same, RepL.ext (Ext.new hq).toExtW _ _ cr⟩⟩
          have e : cutV xs lo' hi' = xs := by
            unfold cutV
            rw [wh.1, wh.2]
            simp
          rw [e] at cr
          exact cr
        | _ => exact q1.elim⟩
theorem rep_rev {w : Wo} {β : Bt} {H : Hp} : ∀ {ds : List D} {vs : List V}, RepL w β H ds vs → RepL w β H ds.reverse vs.reverse
  | [], _, l => by cases (show _ = [] from l); exact rfl
  | d :: ds, _, ⟨x, xr, e, r, l⟩ => by
    subst e
    rw [List.reverse_cons, List.reverse_cons]
    exact RepL.append (rep_rev l) ⟨x, [], rfl, r, rfl⟩
theorem px_rev {k : Nat} {p1 p2 p3 : Pos} (ha : PX T X a fa) : PX T X (.Subscript a (.Slice none none (some (.UnaryOp .USub (.Constant (.int 1) k p1) p2)) p3) pos) (eRev fa) :=
  ⟨fun W t => PE.weak (pe_revL (ha.run W t)) fun σ H Q ⟨β, ρ, S, hs, he, h⟩ => tE_bind hs he h fun d S1 v β1 H1 x1 k1 e1 r1 q1 => by
    cases d with
    | lst ds =>
      obtain ⟨p, xs, rfl, h1, l⟩ := r1
      exact ⟨p, xs, rfl, h1.sq, fun q hq => q1 (.ref q) β1 _ (.new hq) (k1.new hq) ⟨q, _, rfl, .inl ⟨upd_same, notin_of k1 hq⟩, RepL.ext (Ext.new hq).toExtW _ _ (rep_rev l)⟩⟩
    | loc n =>
      obtain ⟨p, rfl, h1⟩ := r1
      obtain ⟨ds, xs, g1, g2, l⟩ := k1.get h1
      simp only [g1] at q1
      exact ⟨p, xs, rfl, .of g2, fun q hq => q1 (.ref q) β1 _ (.new hq) (k1.new hq) ⟨q, _, rfl, .inl ⟨upd_same, notin_of k1 hq⟩, RepL.ext (Ext.new hq).toExtW _ _ (rep_rev l)⟩⟩
    | _ => exact q1.elim⟩
/-! ### append -/
theorem px_append {apos : Pos} (ha : PX T X a fa) (hb : PX T X b fb) (hbase : attributeBase a "append" X.env (eval a X.env) = eval a X.env := by rfl)
    (hfew : ((backTo pos (starEach [b] X.env)).all (fun x => !x.1) && (backToKw pos (keywordEach [] X.env)).all (fun x => x.1.isSome) && decide ([b].length + ([] : List Keyword).length + (if ([] : List Keyword).isEmpty then 0 else 1) < 30)) = true := by rfl)
    (hline : (apos.endLine == pos.line) = true := by rfl) (hs : starEach [b] X.env = (false, eval b X.env) :: starEach [] X.env := by rfl) (hplain : (backTo pos (starEach [] X.env)).any (·.1) = false := by rfl) :
    PX T X (.Call (.Attribute a "append" apos) [b] [] pos) (eAppend fa fb) :=
  ⟨fun W t => PE.weak (pe_bm PySem.F.plainAttrs_list PySem.F.slot_list_append PySem.F.type_list_append mt_append (ha.run W t) (pa_cons (hb.run W t) pa_nil hs) hbase hfew hline hs hplain) fun σ H Q ⟨β, ρ, S, hs, he, h⟩ => tE_bind hs he h fun d S1 v β1 H1 x1 k1 e1 r1 q1 => by
    cases d with
    | loc n =>
      obtain ⟨p, rfl, h1⟩ := r1
      obtain ⟨ds0, xs0, g01, g02, l0⟩ := k1.get h1
      refine ⟨.inl ⟨rfl, xs0, .of g02⟩, tE_bind k1 e1 q1 fun d2 S2 v2 β2 H2 x2 k2 e2 r2 q2 => ?_⟩
      have h2 : β2.l[n]? = some p := x2.toExtW.get h1
      obtain ⟨ds, xs, g1, g2, l⟩ := k2.get h2
      simp only [g1] at q2
      by_cases hz : ds.length < 16777216
      · rw [if_pos hz] at q2
        exact ⟨p, xs, v2, rfl, rfl, g2, by rw [sizeLine_eq, ← l.length]; exact hz, q2 .non β2 _ (.chg g2 (List.mem_of_getElem? h2)) (k2.chg h2 g2 (RepL.append l ⟨v2, [], rfl, r2, rfl⟩)) rfl⟩
      · rw [if_neg hz] at q2
        exact q2.elim
    | _ => exact q1.elim⟩
end
end DL


set_option linter.all false
set_option autoImplicit false
set_option Elab.async false
set_option maxRecDepth 100000
set_option maxHeartbeats 2000000
/-! DLw7: the module's names; short rules for the derivations that are printed. -/
namespace DL
open PySem PySem.Spec L2
open PyProof.Rows hiding St b2i

/-- a def of the text as it stands behind the top -/
structure DefIn (K : PySem.W.Frag) (mg : Str → Option Value) (x : Str) (st : Stmt) : Prop where
  ex : ∃ (f : Addr) (oc : Value) (od : Option Addr) (kV doc pm : Value) (an : Option Addr) (cdv ct : Value) (osl : Array (Option Value)),
    mg x = some (.ref f) ∧ K.lookup f = some ⟨oc, od, .func (PySem.W.fnOf x x (defArgs st) (defBody st) (defScope st) .none kV doc pm an cdv ct), osl⟩ ∧ PySem.W.codeIn K cdv x = true ∧ PySem.W.keepIn K (.ref f) = true
/-- .. with its promise -/
structure Callee (P : Program) (w : World) (K : PySem.W.Frag) (mg : Str → Option Value) (base : Heap) (T : List (Addr × Str)) (gd : Bool) (k : Nat) (x : Str) (ps : List Str) (fn : FN) : Prop where
  ex : ∃ f fd, FnG P w K mg base T gd k f fd ps fn ∧ mg x = some (.ref f) ∧ PySem.W.keepIn K (.ref f) = true ∧ L2.Binds K fd ps []
/-- a constant of the module -/
structure Cst (K : PySem.W.Frag) (mg : Str → Option Value) (x : Str) (d : D) : Prop where
  ex : ∃ u v, mg x = some u ∧ RelV v u ∧ ∀ T β H, Rep ⟨K, mg, T⟩ β H d v
theorem Callee.mono {P : Program} {w : World} {K : PySem.W.Frag} {mg : Str → Option Value} {base : Heap} {T : List (Addr × Str)} {gd : Bool} {j k : Nat} {x : Str} {ps : List Str} {fn : FN} (c : Callee P w K mg base T gd j x ps fn) (h : j ≤ k) : Callee P w K mg base T gd k x ps fn := by
  obtain ⟨f, fd, F, a, b, d⟩ := c.ex
  exact ⟨f, fd, F.mono h, a, b, d⟩
theorem Callee.drop {P : Program} {w : World} {K : PySem.W.Frag} {mg : Str → Option Value} {base : Heap} {T : List (Addr × Str)} {gd : Bool} {k : Nat} {x : Str} {ps : List Str} {fn : FN} (c : Callee P w K mg base T gd k x ps fn) : Callee P w K mg base T gd k x ps (DL.drop fn) := by
  obtain ⟨f, fd, F, a, b, d⟩ := c.ex
  exact ⟨f, fd, F.drop, a, b, d⟩
section
variable {P : Program} {w : World} {K : PySem.W.Frag} {mg : Str → Option Value} {base : Heap} {T : List (Addr × Str)} {gd : Bool} {k : Nat} {x : Str} {st : Stmt} {N ps : List Str} {m n : Nat} {g : SF}
theorem callee_of (D : DefIn K mg x st) (Sc : FnScope N ps (defScope st)) (hm : ps.length = m) (hn : N.length = n)
    (hb : ∀ (kV doc pm : Value) (an : Option Addr) (cdv ct : Value) (us : List Value), us.length = ps.length → bindArgs (PySem.W.fnOf x x (defArgs st) (defBody st) (defScope st) .none kV doc pm an cdv ct) ⟨us, []⟩ = pure (ps.zip us))
    (body : ∀ (f : Addr) (cdv : Value) (A : Around) (outer : List PySem.Env) (s : Shared) (H : Hp) (E : XK), (gd = true → A.guards = some []) → Room k (A.deeper (envOfC x (defScope st) s.heap.objs.size f cdv)) → PXSs T (cxOf (L2.CX P w) P w K mg base N x (defScope st) f cdv A outer s H E) (defBody st) g) :
    Callee P w K mg base T gd (k + 1) x ps (mkFn m n g) := by
  obtain ⟨f, oc, od, kV, doc, pm, an, cdv, ct, osl, h1, h2, h3, h4⟩ := D.ex
  exact ⟨f, _, fnG_of h2 h3 Sc hm hn fun A outer s H E hg hr => body f cdv A outer s H E hg hr, h1, h4, .all (hb kV doc pm an cdv ct)⟩
end
section
variable {T : List (Addr × Str)} {X : Cx} {a b c e : Expr} {fa fb fc : EF} {pos p : Pos} {ga : AF} {es : List Expr} {x : Str}
theorem Room.u64 {k : Nat} {A : Around} (r : Room k A) : A.units + 64 < cLine := r.units
theorem Room.u65 {k : Nat} {A : Around} (r : Room k A) : A.units + 65 < cLine := by have := r.un; omega
theorem px_fn {gd : Bool} {k j : Nat} {ps : List Str} {fn : FN} (c : Callee X.prog X.w X.K X.mg X.base T gd k x ps fn) (hr : Room j X.A) (hj : k ≤ j) (hgd : gd = true → X.A.guards = some []) (ha : PXA T X (e :: es) ga) (hg : Gl X x := by rfl) (hdb : (x == ("__debug__" : Str)) = false := by decide)
    (he : starEach (e :: es) X.env = (false, eval e X.env) :: starEach es X.env := by rfl) (hpl : (backTo pos (starEach es X.env)).any (·.1) = false := by rfl) : PX T X (.Call (.Name x p) (e :: es) [] pos) (eCall fn ga) := by
  obtain ⟨f, fd, F, h1, h2, h3⟩ := c.ex
  exact px_call F (hr.mono hj) hgd h1 h2 h3 ha hg hdb he hpl
theorem px_cst {d : D} (c : Cst X.K X.mg x d) (hg : Gl X x := by rfl) (hd : (x == ("__debug__" : Str)) = false := by decide) : PX T X (.Name x pos) (eC d) := by
  obtain ⟨u, v, h1, h2, h3⟩ := c.ex
  exact px_const (pe_glob hg h1 h2 hd) fun β H => h3 T β H
theorem px_ty {t : String} (hm : X.mg x = none) (hv : bootBuiltins x = some (.type t)) (hg : Gl X x := by rfl) (hn : x ≠ "__name__" := by decide) (hd : (x == ("__debug__" : Str)) = false := by decide) : PX T X (.Name x pos) (eC (.ty t)) :=
  px_const (pe_bltn (v := .ty t) hg hm hv rfl hn hd) fun β H => rfl
theorem px_cls (hm : ∃ C, X.mg x = some (.ref C)) (hg : Gl X x := by rfl) (hd : (x == ("__debug__" : Str)) = false := by decide) : PX T X (.Name x pos) (eC (.cls x)) :=
  hm.elim fun C hm => px_const (pe_glob (v := .ref C) hg hm rfl hd) fun β H => ⟨C, rfl, hm⟩
theorem px_lt (ha : PX T X a fa) (hb : PX T X b fb) : PX T X (.Compare a [.Lt] [b] pos) (eBin dLt fa fb) := px_cmp op_lt (ok_iCmp _) ha hb (nomark _)
theorem px_le (ha : PX T X a fa) (hb : PX T X b fb) : PX T X (.Compare a [.LtE] [b] pos) (eBin dLe fa fb) := px_cmp op_le (ok_iCmp _) ha hb (nomark _)
theorem px_gt (ha : PX T X a fa) (hb : PX T X b fb) : PX T X (.Compare a [.Gt] [b] pos) (eBin dGt fa fb) := px_cmp op_gt (ok_iCmp _) ha hb (nomark _)
theorem px_ge (ha : PX T X a fa) (hb : PX T X b fb) : PX T X (.Compare a [.GtE] [b] pos) (eBin dGe fa fb) := px_cmp op_ge (ok_iCmp _) ha hb (nomark _)
theorem px_eq {j : Nat} (hr : Room j X.A) (ha : PX T X a fa) (hb : PX T X b fb) : PX T X (.Compare a [.Eq] [b] pos) (eBin dEq fa fb) := px_cmp (op_eqD (Room.u64 hr)) ok_eq ha hb (nomark _)
theorem px_ne {j : Nat} (hr : Room j X.A) (ha : PX T X a fa) (hb : PX T X b fb) : PX T X (.Compare a [.NotEq] [b] pos) (eBin dNe fa fb) := px_cmp (op_neD (Room.u64 hr)) ok_ne ha hb (nomark _)
theorem px_isN (ha : PX T X a fa) (hb : PX T X b fb) : PX T X (.Compare a [.Is] [b] pos) (eBin dIsN fa fb) := px_cmp op_isN ok_isN ha hb (nomark _)
theorem px_notN (ha : PX T X a fa) (hb : PX T X b fb) : PX T X (.Compare a [.IsNot] [b] pos) (eBin dNotN fa fb) := px_cmp op_notN ok_notN ha hb (nomark _)
theorem px_isB (ha : PX T X a fa) (hb : PX T X b fb) : PX T X (.Compare a [.Is] [b] pos) (eBin dIsB fa fb) := px_cmp op_isBl ok_isB ha hb (nomark _)
theorem px_notB (ha : PX T X a fa) (hb : PX T X b fb) : PX T X (.Compare a [.IsNot] [b] pos) (eBin dNotB fa fb) := px_cmp op_notBl ok_notB ha hb (nomark _)
theorem px_in {j : Nat} (hr : Room j X.A) (ha : PX T X a fa) (hb : PX T X b fb) (hm : behindInMarks .In b = false := by rfl) : PX T X (.Compare a [.In] [b] pos) (eBin dIn fa fb) := px_cmp (op_inQ (Room.u65 hr)) ok_in ha hb hm
theorem px_notIn {j : Nat} (hr : Room j X.A) (ha : PX T X a fa) (hb : PX T X b fb) (hm : behindInMarks .NotIn b = false := by rfl) : PX T X (.Compare a [.NotIn] [b] pos) (eBin dNotIn fa fb) := px_cmp (op_notInQ (Room.u65 hr)) ok_notIn ha hb hm
theorem pxt_lt (ha : PX T X a fa) (hb : PX T X b fb) : PXT T X (.Compare a [.Lt] [b] pos) (tOf (eBin dLt fa fb)) := pxt_cmp op_lt (ok_iCmp _) ha hb (nomark _)
theorem pxt_le (ha : PX T X a fa) (hb : PX T X b fb) : PXT T X (.Compare a [.LtE] [b] pos) (tOf (eBin dLe fa fb)) := pxt_cmp op_le (ok_iCmp _) ha hb (nomark _)
theorem pxt_gt (ha : PX T X a fa) (hb : PX T X b fb) : PXT T X (.Compare a [.Gt] [b] pos) (tOf (eBin dGt fa fb)) := pxt_cmp op_gt (ok_iCmp _) ha hb (nomark _)
theorem pxt_ge (ha : PX T X a fa) (hb : PX T X b fb) : PXT T X (.Compare a [.GtE] [b] pos) (tOf (eBin dGe fa fb)) := pxt_cmp op_ge (ok_iCmp _) ha hb (nomark _)
theorem pxt_eq {j : Nat} (hr : Room j X.A) (ha : PX T X a fa) (hb : PX T X b fb) : PXT T X (.Compare a [.Eq] [b] pos) (tOf (eBin dEq fa fb)) := pxt_cmp (op_eqD (Room.u64 hr)) ok_eq ha hb (nomark _)
theorem pxt_ne {j : Nat} (hr : Room j X.A) (ha : PX T X a fa) (hb : PX T X b fb) : PXT T X (.Compare a [.NotEq] [b] pos) (tOf (eBin dNe fa fb)) := pxt_cmp (op_neD (Room.u64 hr)) ok_ne ha hb (nomark _)
theorem pxt_isN (ha : PX T X a fa) (hb : PX T X b fb) : PXT T X (.Compare a [.Is] [b] pos) (tOf (eBin dIsN fa fb)) := pxt_cmp op_isN ok_isN ha hb (nomark _)
theorem pxt_notN (ha : PX T X a fa) (hb : PX T X b fb) : PXT T X (.Compare a [.IsNot] [b] pos) (tOf (eBin dNotN fa fb)) := pxt_cmp op_notN ok_notN ha hb (nomark _)
theorem pxt_isB (ha : PX T X a fa) (hb : PX T X b fb) : PXT T X (.Compare a [.Is] [b] pos) (tOf (eBin dIsB fa fb)) := pxt_cmp op_isBl ok_isB ha hb (nomark _)
theorem pxt_notB (ha : PX T X a fa) (hb : PX T X b fb) : PXT T X (.Compare a [.IsNot] [b] pos) (tOf (eBin dNotB fa fb)) := pxt_cmp op_notBl ok_notB ha hb (nomark _)
theorem pxt_in {j : Nat} (hr : Room j X.A) (ha : PX T X a fa) (hb : PX T X b fb) (hm : behindInMarks .In b = false := by rfl) : PXT T X (.Compare a [.In] [b] pos) (tOf (eBin dIn fa fb)) := pxt_cmp (op_inQ (Room.u65 hr)) ok_in ha hb hm
theorem pxt_notIn {j : Nat} (hr : Room j X.A) (ha : PX T X a fa) (hb : PX T X b fb) (hm : behindInMarks .NotIn b = false := by rfl) : PXT T X (.Compare a [.NotIn] [b] pos) (tOf (eBin dNotIn fa fb)) := pxt_cmp (op_notInQ (Room.u65 hr)) ok_notIn ha hb hm
/-! built-ins -/
theorem pb_abs (hm : X.mg "abs" = none) (ha : PXA T X (e :: es) ga) (hg : Gl X "abs" := by rfl) (he : starEach (e :: es) X.env = (false, eval e X.env) :: starEach es X.env := by rfl) (hpl : (backTo pos (starEach es X.env)).any (·.1) = false := by rfl) :
    PX T X (.Call (.Name "abs" p) (e :: es) [] pos) (eCall fAbs ga) := px_blt call_abs ok_abs hg hm (by decide +kernel) ha (by decide) (by decide) he hpl
theorem pb_len (hm : X.mg "len" = none) (ha : PXA T X (e :: es) ga) (hg : Gl X "len" := by rfl) (he : starEach (e :: es) X.env = (false, eval e X.env) :: starEach es X.env := by rfl) (hpl : (backTo pos (starEach es X.env)).any (·.1) = false := by rfl) :
    PX T X (.Call (.Name "len" p) (e :: es) [] pos) (eCall fLen ga) := px_blt call_len ok_len hg hm (by decide +kernel) ha (by decide) (by decide) he hpl
theorem pb_int (hm : X.mg "int" = none) (ha : PXA T X (e :: es) ga) (hg : Gl X "int" := by rfl) (he : starEach (e :: es) X.env = (false, eval e X.env) :: starEach es X.env := by rfl) (hpl : (backTo pos (starEach es X.env)).any (·.1) = false := by rfl) :
    PX T X (.Call (.Name "int" p) (e :: es) [] pos) (eCall fInt ga) := px_bty call_int1 ok_int hg hm (by decide +kernel) ha (by decide) (by decide) he hpl
theorem pb_max (hc : X.calm = true) (hm : X.mg "max" = none) (ha : PXA T X (e :: es) ga) (hg : Gl X "max" := by rfl) (he : starEach (e :: es) X.env = (false, eval e X.env) :: starEach es X.env := by rfl) (hpl : (backTo pos (starEach es X.env)).any (·.1) = false := by rfl) :
    PX T X (.Call (.Name "max" p) (e :: es) [] pos) (eCall fMax ga) := px_blt (call_max2 hc) ok_max hg hm (by decide +kernel) ha (by decide) (by decide) he hpl
theorem pb_min (hc : X.calm = true) (hm : X.mg "min" = none) (ha : PXA T X (e :: es) ga) (hg : Gl X "min" := by rfl) (he : starEach (e :: es) X.env = (false, eval e X.env) :: starEach es X.env := by rfl) (hpl : (backTo pos (starEach es X.env)).any (·.1) = false := by rfl) :
    PX T X (.Call (.Name "min" p) (e :: es) [] pos) (eCall fMin ga) := px_blt (call_min2 hc) ok_min hg hm (by decide +kernel) ha (by decide) (by decide) he hpl
theorem pb_all (hc : X.calm = true) (hm : X.mg "all" = none) (ha : PXA T X (e :: es) ga) (hg : Gl X "all" := by rfl) (he : starEach (e :: es) X.env = (false, eval e X.env) :: starEach es X.env := by rfl) (hpl : (backTo pos (starEach es X.env)).any (·.1) = false := by rfl) :
    PX T X (.Call (.Name "all" p) (e :: es) [] pos) (eCall fAll ga) := px_blt (cr_all hc) ok_all hg hm (by decide +kernel) ha (by decide) (by decide) he hpl
theorem pb_any (hc : X.calm = true) (hm : X.mg "any" = none) (ha : PXA T X (e :: es) ga) (hg : Gl X "any" := by rfl) (he : starEach (e :: es) X.env = (false, eval e X.env) :: starEach es X.env := by rfl) (hpl : (backTo pos (starEach es X.env)).any (·.1) = false := by rfl) :
    PX T X (.Call (.Name "any" p) (e :: es) [] pos) (eCall fAny ga) := px_blt (cr_any hc) ok_any hg hm (by decide +kernel) ha (by decide) (by decide) he hpl
theorem pb_sum (hc : X.calm = true) (hm : X.mg "sum" = none) (ha : PXA T X (e :: es) ga) (hg : Gl X "sum" := by rfl) (he : starEach (e :: es) X.env = (false, eval e X.env) :: starEach es X.env := by rfl) (hpl : (backTo pos (starEach es X.env)).any (·.1) = false := by rfl) :
    PX T X (.Call (.Name "sum" p) (e :: es) [] pos) (eCall fSum ga) := px_blt (cr_sum hc) ok_sum hg hm (by decide +kernel) ha (by decide) (by decide) he hpl
theorem pb_repr {j : Nat} (hr : Room j X.A) (hgd : X.A.guards = some []) (hm : X.mg "repr" = none) (ha : PXA T X (e :: es) ga) (hg : Gl X "repr" := by rfl) (he : starEach (e :: es) X.env = (false, eval e X.env) :: starEach es X.env := by rfl) (hpl : (backTo pos (starEach es X.env)).any (·.1) = false := by rfl) :
    PX T X (.Call (.Name "repr" p) (e :: es) [] pos) (eCall fRepr ga) := px_blt (call_reprD hgd (Room.u64 hr)) ok_repr hg hm (by decide +kernel) ha (by decide) (by decide) he hpl
theorem pb_tuple (hm : X.mg "tuple" = none) (ha : PXA T X (e :: es) ga) (hg : Gl X "tuple" := by rfl) (he : starEach (e :: es) X.env = (false, eval e X.env) :: starEach es X.env := by rfl) (hpl : (backTo pos (starEach es X.env)).any (·.1) = false := by rfl) :
    PX T X (.Call (.Name "tuple" p) (e :: es) [] pos) (eCall fTuple ga) := px_bty call_tuple_of ok_tuple hg hm (by decide +kernel) ha (by decide) (by decide) he hpl
theorem pb_list (hm : X.mg "list" = none) (ha : PXA T X (e :: es) ga) (hg : Gl X "list" := by rfl) (he : starEach (e :: es) X.env = (false, eval e X.env) :: starEach es X.env := by rfl) (hpl : (backTo pos (starEach es X.env)).any (·.1) = false := by rfl) :
    PX T X (.Call (.Name "list" p) (e :: es) [] pos) (eCall fList ga) := px_bty call_list_of ok_list hg hm (by decide +kernel) ha (by decide) (by decide) he hpl
end
end DL


set_option linter.all false
set_option autoImplicit false
set_option Elab.async false
set_option maxRecDepth 100000
set_option maxHeartbeats 2000000
/-! DLe1: an error class of the module whose own __init__ calls super's and keeps what it was given: made. -/
namespace ArmX
open PySem PySem.W PySem.Calls PyProof.Rows PySem.HandSPX

abbrev armArgs : Arguments := { posonlyargs := [], args := [{ arg := "self", annotation := none, pos := ⟨4, 17, 4, 21⟩ }, { arg := "value", annotation := none, pos := ⟨4, 23, 4, 28⟩ }], vararg := none, kwonlyargs := [], kw_defaults := [], kwarg := none, defaults := [] }
abbrev armBody : List Stmt :=
  [.Expr (.Call (.Attribute (.Call (.Name "super" ⟨5, 8, 5, 13⟩) [] [] ⟨5, 8, 5, 15⟩) "__init__" ⟨5, 8, 5, 24⟩) [.Name "value" ⟨5, 25, 5, 30⟩] [] ⟨5, 8, 5, 31⟩) ⟨5, 8, 5, 31⟩, .Assign [.Attribute (.Name "self" ⟨6, 8, 6, 12⟩) "value" ⟨6, 8, 6, 18⟩] (.Name "value" ⟨6, 21, 6, 26⟩) ⟨6, 8, 6, 26⟩]
abbrev armScope : Scope := { kind := .function, names := [(PySem.Str.ofString "self", .local), (PySem.Str.ofString "value", .local), (PySem.Str.ofString "__class__", .free), (PySem.Str.ofString "super", .globalImplicit)], isGenerator := false, isCoroutine := false, more := [] }

/-- what the written part holds of an error class at C: its base at D, the __init__ at fI -/
structure ArmAt (p : Program) (K : Frag) (C D fI : Addr) : Prop where
  cls : ∃ nm q N bs bm sn sub ab col dd k0 k1 k2 k3 k5, K.lookup C = some (excClassObj nm q C N bs bm true sn sub ab col dd k0 k1 k2 k3 k5 "ValueError.__new__") ∧ refsVE bm = true
  sa : findIn K (.ref C) "__setattr__" = some (some (.builtin "object.__setattr__"))
  ga : findIn K (.ref C) "__getattribute__" = some (some (.builtin "BaseException.__getattribute__"))
  gg : findIn K (.ref C) "__getattr__" = some none
  noN : findIn K (.ref C) "value" = some none
  iC : findIn K (.ref C) "__init__" = some (some (.ref fI))
  tC : typeIn K (.ref fI) = some (.type "function")
  kC : keepIn K (.ref C) = true
  exC : subIn K (.ref C) (.type "BaseException") = some true
  vC : subIn K (.ref C) (.type "ValueError") = some true
  tyC : typeIn K (.ref C) = some (.type "type")
  hdC : hasDictIn K C = true
  clD : ∃ cdD, clsIn K D = some cdD
  mD : mroIn K C (.ref D) = some true
  sm : ks_superIn K C D "__init__" = some (some (.builtin "ValueError.__init__"))
  ca : findIn K (.ref C) "__class__" = some (some (.builtin "object.__class__"))
  cn : specialIn K (.builtin "object.__class__") "__get__" = some (some (.builtin "getset_descriptor.__get__"))
  ct : takesIn K (.builtin "object.__class__") = some true
  cm : mroIn K C (.type "object") = some true
  th : nsIn K cStatics "thirdparty.any" = some none
  fn : ∃ (oc : Value) (od : Option Addr) (kV doc pm : Value) (an : Option Addr) (cda cc : Addr) (ct : Value) (osl : Array (Option Value)) (vs : Array Value) (file : Str) (tf : Tok) (ccl cl : Value) (cdd cld : Option Addr) (ccs csl : Array (Option Value)),
    K.lookup fI = some ⟨oc, od, .func (ksFn "__init__" "ArmError.__init__" armArgs armBody armScope .none kV doc pm an (.ref cda) ct cc), osl⟩ ∧ codeIn K (.ref cda) "ArmError.__init__" = true ∧
    K.lookup cda = some ⟨ccl, cdd, .fields vs, ccs⟩ ∧ vs[2]? = some (.str file tf) ∧ ((p.main.file : Str) == file) = true ∧ K.lookup cc = some ⟨cl, cld, .cell (some (.ref D)), csl⟩
  top : (p.main.scope.names.lookup ("super" : Str)).isSome = false

theorem sl1 (v : Value) : [v].length ≤ sizeLine := by
  rw [sizeLine_eq]; exact (by decide : 1 ≤ 16777216)
theorem ld_loc {M : Model} {s : Shared} {env : Env} {m : Str → Option Value} {x : Str} {pos : Pos} {v : Value} {Q : Value → Shared → Prop} {A : Around} {E : Value → Shared → Prop} (hn : s.heap.Ns env.locals m) (hv : m x = some v) (h : Q v s)
    (hk : env.scope.kind = .function) (hl : env.kindOf x = some .local) (hd : (x == ("__debug__" : Str)) = false := by decide) :
    wpAny M A (eval (.Name x pos) env) Q E s := wpAny_Name (wpAny_loadName_local hk hl hn hv h) hd
/-- a method-wrapper is called with one argument -/
theorem mw_args {M : Model} {s : Shared} {env : Env} {A : Around} {E : Value → Shared → Prop} {i : String} {u x : Addr} {e : Expr} {pos : Pos} {Q : Value → Shared → Prop}
    (h : wpAny M A (eval e env) (fun v s₁ => KxsAt i u x s₁.heap ∧ wpAny M A (call (.ref u) [v]) Q E s₁) E s) (he : starEach (e :: []) env = (false, eval e env) :: [] := by rfl) :
    wpAny M A (callWith pos (.ref u) [] (backTo pos (starEach (e :: []) env)) []) Q E s := by
  rw [he]; refine kxs_callWith (i := i) (x := x) rfl (evalArgs_plain (spliced_cons (wpAny_mono h (fun v s₁ h₁ => ?_) fun _ _ y => y)))
  exact Calls.spliced_nil h₁
theorem mw_call {prog : Program} {w : World} {A : Around} {E : Value → Shared → Prop} {h : Heap} {g : Array GenState} {d : Drawn} {tk : Nat} {os : OsState} {nm q : Str} {C N u x t0 : Addr} {bs bm sub : List Value} {sn : List Str} {ab hdct : Bool} {col : Option Bool} {dd : Option Addr} {k0 k1 k2 k3 k5 : Option Value} {v : Value} {Q : Value → Shared → Prop}
    (hC : h.get? C = some (excClassObj nm q C N bs bm hdct sn sub ab col dd k0 k1 k2 k3 k5 "ValueError.__new__")) (he : h.get? x = some (excO C t0)) (hu : h.get? u = some (kxs_mw "ValueError.__init__" x))
    (hq : ∀ h' t1, (∀ b o, b ≠ x → h.get? b = some o → h'.get? b = some o) → h'.get? x = some (excO C t1) → Q .none ⟨h', g, d, tk, os⟩) :
    wpAny (model prog w) A (call (.ref u) [v]) Q E ⟨h, g, d, tk, os⟩ := by
  refine wpAny_call (codeAny_of_tree ?_); show wpAny _ A.in1 (callAny (.ref u) ⟨[v], []⟩) _ _ _
  simp only [callAny]; refine wpAny_bind (wpAny_load hu ?_); simp only [kxs_mw, show (Value.type "method-wrapper" == Value.type "method" || Value.type "method-wrapper" == Value.type "builtin_function_or_method" || Value.type "method-wrapper" == Value.type "method-wrapper") = true by decide, if_true]; refine KFB.if_so (by decide) ?_
  refine wpAny_bind (check_bound_init (F.excBase_ValueError).toExcCallFacts hC he rfl ?_); refine wpAny_bind (wpAny_pure (wpAny_pure ?_)); refine ⟨plainId_quiet (F.excBase_ValueError).init.plain _, codeAny_builtin (F.excBase_ValueError).initEntry ?_⟩
  exact exc_init_tree (cls := .ref C) (t0 := t0) (dv := none) (c2 := .none) (c3 := .none) (b4 := .bool false) he (sl1 v) fun h' k' e' t' => hq h' h.objs.size k' e'
/-- the globals as __init__ needs them -/
structure GlobAt (mg : Str → Option Value) (h : Heap) : Prop where
  g : h.Ns mainGlobals mg
  b : ∃ mb, h.Ns builtinsNs mb ∧ mb "super" = some (.type "super")
  lim : h.NoLimit
theorem GlobAt.keeps {mg : Str → Option Value} {h h' : Heap} (G : GlobAt mg h) (k : ∀ b o, h.get? b = some o → h'.get? b = some o) : GlobAt mg h' := by
  obtain ⟨mb, b1, b2⟩ := G.b
  exact ⟨G.g.keeps k, ⟨mb, b1.keeps k, b2⟩, G.lim.keeps k⟩
/-- what __init__ leaves of the exception at x -/
structure Inited (h h' : Heap) (x C : Addr) (v : Value) : Prop where
  keep : ∀ b o, b ≠ x → h.get? b = some o → h'.get? b = some o
  obj : ∃ t dx, h'.get? x = some { cls := .ref C, dict := some dx, data := .fields #[.ref t, .none, .none, .none, .bool false, .none] } ∧ h.objs.size ≤ dx ∧ dx ≠ x ∧ h'.Ns1 dx (fun y => if y = "value" then some v else none)
section
variable {prog : Program} {w : World} {A : Around} {E : Value → Shared → Prop} {R : Result → Shared → Prop} {s : Shared} {K : Frag} {mg : Str → Option Value} {C D fI : Addr}
theorem arm_init (T : ArmAt prog K C D fI) (hsup : mg "super" = none) {x t0 : Addr} {v : Value} (X : K.In s.heap) (G : GlobAt mg s.heap) (hx : s.heap.get? x = some (excO C t0)) (hxn : K.lookup x = none) (hroom : A.depth < recursionLimit)
    (hq : ∀ h' tk, Inited s.heap h' x C v → R (.ok (.ret .none)) { s with heap := h', toks := tk }) :
    codeAny (model prog w) A (.call (.ref fI) ⟨[.ref x, v], []⟩) R s := by
  obtain ⟨oc, od, kV, doc, pm, an, cda, cc, ct, osl, vs, file, tf, ccl, cl, cdd, cld, ccs, csl, ho, hcd, hcode, hvs, hfile, hcell⟩ := T.fn
  obtain ⟨nm, q, N, bs, bm, sn, sub, ab, col, dd, k0, k1, k2, k3, k5, hC, hbm⟩ := T.cls
  have hcl : clsIn K C = some { name := nm, bases := bs, mro := .ref C :: bm, ns := N, qualname := q, hasDict := true, slotNames := sn, subclasses := sub, abstract := ab, collection := col, hasDel := false } := by unfold clsIn; rw [hC] <;> rfl
  refine ks_codeAny_call_defAt (fd := ksFn "__init__" "ArmError.__init__" armArgs armBody armScope .none kV doc pm an (.ref cda) ct cc) (binds := [("self", .ref x), ("value", v)]) hroom (X _ _ ho) rfl G.lim (codeRec_of X hcd) rfl (BindsTo.of_eq (by first | rfl | with_unfolding_all rfl)) (show ∀ y ∈ armScope.names, y.2 ≠ .cell by decide) (fun y hy => ?_) (fun h₁ hn k => ?_) rfl rfl rfl
  · rcases List.mem_cons.mp hy with rfl | hy
    · rfl
    · rcases List.mem_cons.mp hy with rfl | hy
      · rfl
      · cases hy
  have X₁ : K.In h₁ := X.keeps k
  have G₁ := G.keeps k
  have hx₁ := k _ _ hx
  have hLs : s.heap.objs.size < h₁.objs.size := hn.lt
  have hxL : x ≠ s.heap.objs.size := Nat.ne_of_lt (Heap.lt_size hx)
  obtain ⟨hp, g, d, tk, os⟩ := s
  obtain ⟨cdD, hD⟩ := T.clD
  obtain ⟨mb, hb, hbs⟩ := G₁.b
  obtain ⟨oD, hD1, hD2⟩ : ∃ oD, h₁.get? D = some oD ∧ oD.data = .cls cdD := by
    unfold clsIn at hD
    split at hD
    · rename_i c d cd' sl ho'
      cases hD
      exact ⟨_, X₁ _ _ ho', rfl⟩
    · cases hD
  have I : InstAt h₁ x (excO C t0) C none := ⟨hx₁, rfl, rfl, trivial⟩
  refine ks_wpAt_execs_cons ?_
  refine ks_wpAt_Expr_any ?_
  refine ks_wpAt_MethodCall ?_
  refine ks_wpAt_super_base (env := ksEnv "ArmError.__init__" armScope hp.objs.size fI (.ref cda) cc) rfl rfl rfl rfl (X₁ _ _ ho) rfl rfl rfl (X₁ _ _ hcode) rfl hvs hfile T.top ?_
  refine ks_loadName_global rfl rfl (loadGlobal_builtin (env := ksEnv "ArmError.__init__" armScope hp.objs.size fI (.ref cda) cc) G₁.g hsup hb hbs ⟨rfl, ?_⟩)
  refine wpAny_loadName_free rfl rfl rfl ⟨_, X₁ _ _ hcell, rfl⟩ ?_
  refine wpAny_loadName_local rfl rfl hn (by first | rfl | with_unfolding_all rfl | kernel_rfl) ?_
  refine ks_wpAny_isType_cls hD1 hD2 ⟨rfl, ?_⟩
  refine ks_wpAny_call_super hD1 hD2 hx₁ rfl (fun c e => by cases e) (looks_mroIn X₁ T.mD) (fun h₂ e₂ k₂ => ?_)
  have X₂ : K.In h₂ := X₁.keeps k₂
  have I₂ : InstAt h₂ x (excO C t0) C none := ⟨k₂ _ _ hx₁, rfl, rfl, trivial⟩
  have hm := T.sm
  unfold ks_superIn at hm
  rw [hcl] at hm
  refine kxs_getMethod kxs_ValueError e₂ (looks_opaque X₂ T.th) (l₀ := .ref C :: bm) (fun A Q E s k q => wpAny_bind ((looks_clsIn X₂ hcl) A _ E s k (wpAny_pure q))) rfl X₂ hm (I₂.type.andThen (looks_subIn X₂ T.vC)) (ks_ne X₂ I₂ hcl) rfl ?_
  have hmw : (h₂.push (kxs_mw "ValueError.__init__" x)).get? h₂.objs.size = some (kxs_mw "ValueError.__init__" x) := Heap.get?_push_at rfl rfl
  have k₃ : ∀ b o, h₂.get? b = some o → (h₂.push (kxs_mw "ValueError.__init__" x)).get? b = some o := fun b o e => Heap.get?_push_of_some _ e
  have hn₃ := (hn.keeps k₂).keeps k₃
  have hx₃ := k₃ _ _ (k₂ _ _ hx₁)
  refine mw_args (i := "ValueError.__init__") (x := x) (ld_loc hn₃ (v := v) (by first | rfl | with_unfolding_all rfl | kernel_rfl) ⟨hmw, ?_⟩ rfl rfl)
  refine mw_call (k₃ _ _ (k₂ _ _ (k _ _ (X _ _ hC)))) hx₃ hmw fun h₄ t1 k₄ e₄ => ?_
  have hLx : hp.objs.size ≠ x := fun z => hxL z.symm
  have old : ∀ b o, b ≠ x → h₁.get? b = some o → h₄.get? b = some o := fun b o hb e => k₄ b o hb (k₃ b o (k₂ b o e))
  have hn₄ : h₄.Ns hp.objs.size _ := hn₃.at fun o e => k₄ _ o hLx e
  have X₄ : K.In h₄ := fun a o e => old a o (fun z => by
    rw [z, hxn] at e; cases e) (X₁ a o e)
  show PySem.wpAt _ _ _ (execs _ _) _ _ _
  refine wpAt_of_wpAny (wpAny_execs_cons (plainObj_wpAny_Assign_Attribute ?_))
  refine ld_loc hn₄ (v := v) (by first | rfl | with_unfolding_all rfl | kernel_rfl) (ld_loc hn₄ (v := .ref x) (by first | rfl | with_unfolding_all rfl | kernel_rfl) ?_ rfl rfl) rfl rfl
  refine set_plain X₄ (ox := excO C t1) (od := none) ⟨e₄, rfl, rfl, trivial⟩ T.sa ?_
  refine exc_osa X₄ e₄ hcl (show refsVE (.ref C :: bm) = true from hbm) rfl T.noN (fun h₅ tk₅ dx k₅ dn dne hx₅ hn₅ => ?_)
  show wpAny _ _ (execs _ _) _ _ _
  have z : hp.objs.size ≤ h₄.objs.size := Nat.le_of_lt hn₄.lt
  exact wpAny_execs_nil (hq h₅ tk₅ ⟨fun b o hb e => k₅ b o hb (old b o hb (k b o e)), t1, dx, hx₅, Nat.le_trans z dn, dne, hn₅⟩)
/-- a made exception of the class at C, holding v under value -/
structure ArmMade (h h' : Heap) (e C : Addr) (v : Value) : Prop where
  keep : ∀ b o, h.get? b = some o → h'.get? b = some o
  new : h.objs.size ≤ e
  obj : ∃ t d, h'.get? e = some { cls := .ref C, dict := some d, data := .fields #[.ref t, .none, .none, .none, .bool false, .none] } ∧ h.objs.size ≤ d ∧ d ≠ e ∧ h'.Ns1 d (fun y => if y = "value" then some v else none)
theorem arm_made (T : ArmAt prog K C D fI) (hsup : mg "super" = none) {v : Value} (X : K.In s.heap) (G : GlobAt mg s.heap) (hroom : A.depth + 1 < recursionLimit)
    (hq : ∀ h' tk e, ArmMade s.heap h' e C v → R (.ok (.ret (.ref e))) { s with heap := h', toks := tk }) :
    codeAny (model prog w) A (.call (.ref C) ⟨[v], []⟩) R s := by
  obtain ⟨nm, q, N, bs, bm, sn, sub, ab, col, dd, k0, k1, k2, k3, k5, hC, hbm⟩ := T.cls
  obtain ⟨hp, g, dr, tk, os⟩ := s
  have k : ∀ b o, hp.get? b = some o → ((hp.push (kdv_tup [v])).push (excO C hp.objs.size)).get? b = some o := fun b o e => Heap.get?_push_of_some _ (Heap.get?_push_of_some _ e)
  have hget : ((hp.push (kdv_tup [v])).push (excO C hp.objs.size)).get? (hp.objs.size + 1) = some (excO C hp.objs.size) := by heap_get
  have hnx : K.lookup (hp.objs.size + 1) = none := by
    cases e : K.lookup (hp.objs.size + 1) with
    | none => rfl
    | some o =>
      have z : hp.get? (hp.objs.size + 1) = some o := X _ _ e
      exact absurd (Nat.lt_of_succ_lt (Heap.lt_size z)) (Nat.lt_irrefl _)
  refine call_own F.excBase_ValueError (fun Y => refsVE_contains Y bm hbm) (X _ _ hC) (looks_findIn X T.iC) (fun self => bind_fn X self T.tC) (sl1 v) ?_
  refine arm_init (s := ⟨(hp.push (kdv_tup [v])).push (excO C hp.objs.size), g, dr, tk, os⟩) T hsup (X.keeps k) (G.keeps k) hget hnx ?_ fun h' tk' M => ?_
  · show A.depth + 1 < recursionLimit
    exact hroom
  · obtain ⟨t, dx, hx, dn, dne, hns⟩ := M.obj
    have old : ∀ b o, hp.get? b = some o → h'.get? b = some o := fun b o e => M.keep b o (Nat.ne_of_lt (Nat.lt_succ_of_lt (Heap.lt_size e))) (k b o e)
    have dn' : ((hp.push (kdv_tup [v])).push (excO C hp.objs.size)).objs.size ≤ dx := dn
    rw [Heap.size_push, Heap.size_push] at dn'
    exact ⟨rfl, hq h' tk' (hp.objs.size + 1) ⟨old, Nat.le_succ _, t, dx, hx, Nat.le_trans (Nat.le_succ_of_le (Nat.le_succ _)) dn', dne, hns⟩⟩
end
end ArmX


set_option linter.all false
set_option autoImplicit false
set_option Elab.async false
set_option maxRecDepth 100000
set_option maxHeartbeats 2000000
/-! DLe2: raise of an error class of the module. -/
namespace DL
open PySem PySem.Spec L2
open PyProof.Rows hiding St b2i
/-- an error class as the module holds it: ArmError over it -/
structure ExcAt (P : Program) (K : PySem.W.Frag) (mg : Str → Option Value) (c : Str) : Prop where
  ex : ∃ C D fI, mg c = some (.ref C) ∧ ArmX.ArmAt P K C D fI
  sup : mg "super" = none
section
variable {X : Cx} {pins : List (Addr × Obj)} {σ : St} {H : Hp} {s : Shared}
theorem Inv.globAt (I : Inv X pins σ H s) : ArmX.GlobAt X.mg s.heap := by
  refine ⟨I.mod.glob.keeps I.bk, ?_, I.nolimit⟩
  obtain ⟨mb, h1, h2⟩ := I.mod.blt
  exact ⟨mb, h1.keeps I.bk, (h2 _ (by decide)).trans (by first | rfl | boot_by_name | kernel_rfl)⟩
theorem relO_value {v : V} {v' : Value} (r : RelV v v') (f : Str) : RelO (List.lookup f [(("value" : Str), v)]) (if f = "value" then some v' else none) := by
  by_cases hw : f = "value"
  · subst hw; rw [if_pos rfl]
    have q : List.lookup ("value" : Str) [(("value" : Str), v)] = some v := by simp [List.lookup]
    rw [q]; exact r
  · have qw : (f == ("value" : Str)) = false := by simpa using hw
    have q2 : List.lookup f [(("value" : Str), v)] = none := by simp [List.lookup, qw]
    rw [if_neg hw, q2]; trivial
end
section
variable {X : Cx} {C D fI : Addr}
/-- the class at C, called with one value -/
def tMkArm (C : Addr) (ta : TA) : St → Hp → XK → Prop := fun σ H Q => ta σ H fun vs H1 => ∃ v, vs = [v] ∧ ∀ d, H1 d = none → Q (.ref C) (some d) (upd H1 d (.xd [(("value" : Str), v)]))
theorem pmk_arm {a : Expr} {ta : TA} {x : Str} {p pos : Pos} {k : Nat} (gC : X.mg x = some (.ref C)) (T : ArmX.ArmAt X.prog X.K C D fI) (hs : X.mg "super" = none) (hr : Room k X.A) (ha : PA X [a] ta) (hg : Gl X x) (hdb : (x == ("__debug__" : Str)) = false)
    (he : starEach (a :: []) X.env = (false, eval a X.env) :: starEach [] X.env) (hpl : (backTo pos (starEach [] X.env)).any (·.1) = false) :
    PMk X (.Call (.Name x p) [a] [] pos) (tMkArm C ta) := by
  intro pins s σ H Q I h
  refine wpAny_Call_Name_kw (ld_glob I hg gC ?_ hdb)
  refine PySem.W.callWith_K (h₀ := X.base) I.ok.mod.kin T.kC (thn (ha.run pos pins s σ H _ I h) fun us s1 hh => ?_) he hpl
  obtain ⟨vs, H1, I1, r1, v, ev, q1⟩ := hh
  subst ev
  refine ⟨I1.kIn, ?_⟩
  cases r1 with
  | cons rv rn =>
    rename_i v' us'
    cases rn
    show wpAny _ _ (call (.ref C) [v']) _ _ _
    have G1 := Inv.globAt I1
    obtain ⟨hp, g, dr, tk, os⟩ := s1
    refine wpAny_call (ArmX.arm_made T hs I1.kIn G1 (by have := hr.dp; omega) fun h' tk' e M => ?_)
    show MkP X pins σ Q (.ref e) ⟨h', g, dr, tk', os⟩
    obtain ⟨t, d, hoe, dn, dne, hns⟩ := M.obj
    obtain ⟨G', g1, g2⟩ := restrict h' fun b => decide (b ≠ e)
    have gk : ∀ b, b ≠ e → G'.get? b = h'.get? b := fun b hb => g1 b (decide_eq_true hb)
    have ge : G'.get? e = none := g2 e (by simp)
    have old : ∀ b o, hp.get? b = some o → G'.get? b = some o := fun b o q => (gk b (Nat.ne_of_lt (Nat.lt_of_lt_of_le (Heap.lt_size q) M.new))).trans (M.keep b o q)
    have ob : ObjOk X.prog X.w (upd H1 d (.xd [(("value" : Str), v)])) G' d (.xd [(("value" : Str), v)]) := ⟨_, hns.at (fun o q => (gk d dne).trans q), fun f => relO_value rv f⟩
    have J : Inv X pins σ (upd H1 d (.xd [(("value" : Str), v)])) ⟨G', g, dr, tk', os⟩ := I1.laid (t' := tk') old dn ob
    refine ⟨e, _, _, ⟨G', g, dr, tk', os⟩, _, .ref C, some d, rfl, J, fun b o q => ?_, ge, hoe, ⟨rfl, rfl⟩, rfl, rfl, ?_, rfl, I1.bare, raises_own T.exC T.tyC, q1 d (I1.hok.fresh dn)⟩
    · by_cases hb : b = e
      · have q' : G'.get? b = some o := q
        rw [hb, ge] at q'; cases q'
      · exact (gk b hb).symm.trans q
    · rw [upd_ne (Ne.symm dne)]
      exact I1.hok.fresh M.new
end
section
variable {T : List (Addr × Str)} {X : Cx} {a : Expr} {fa : EF} {pos p pos2 : Pos} {x : Str}
theorem px_raise {k : Nat} (hc : X.calm = true) (h : ExcAt X.prog X.K X.mg x) (hr : Room k X.A) (ha : PX T X a fa) (hg : Gl X x := by rfl) (hdb : (x == ("__debug__" : Str)) = false := by decide) (he : starEach (a :: []) X.env = (false, eval a X.env) :: starEach [] X.env := by rfl) (hpl : (backTo pos (starEach [] X.env)).any (·.1) = false := by rfl) :
    PXS T X (.Raise (some (.Call (.Name x p) [a] [] pos)) none pos2) (sRaise x fa) := by
  obtain ⟨C, D, fI, gC, TA'⟩ := h.ex
  refine ⟨fun W tk => PS.weak (ps_raise hc tk (pmk_arm gC TA' h.sup hr (pa_cons (hs := he) (ha.run W tk) pa_nil) hg hdb he hpl)) fun Y σ H q => ?_⟩
  obtain ⟨β, ρ, S, hs, he', q⟩ := q
  show tE _ _ _ _ _ _
  refine tE_st hs he' q fun d S1 v β1 H1 x1 k1 e1 r1 q1 => ?_
  refine ⟨v, rfl, fun dx hdx => ?_⟩
  exact q1 C dx v σ β1 _ (Ext.new hdx) (k1.new hdx) (e1.ext (Ext.new hdx).toExtW) gC upd_same (Rep.ext (Ext.new hdx).toExtW d v r1)
end
end DL


set_option linter.all false
set_option autoImplicit false
set_option Elab.async false
set_option maxRecDepth 100000
set_option maxHeartbeats 2000000
/-! DLe3: isinstance of a caught exception, its value. -/
namespace DL
open PySem PySem.Spec L2
open PyProof.Rows hiding St b2i
/-- which error class lies under which -/
structure SubAt (P : Program) (K : PySem.W.Frag) (mg : Str → Option Value) (sub : Str → Str → Option Bool) : Prop where
  ex : ∀ c c' b, sub c c' = some b → ∃ C C' D fI, mg c = some (.ref C) ∧ mg c' = some (.ref C') ∧ ArmX.ArmAt P K C D fI ∧ PySem.W.kitOne K (.ref C) (.ref C') = some b ∧ PySem.W.exmOne K (.ref C) (.ref C') = some b
/-- a kept exception as an instance -/
theorem exv_inst {X : Cx} {pins : List (Addr × Obj)} {σ : St} {H : Hp} {s : Shared} {C dx a : Addr} {x : V} (I : Inv X pins σ H s) (h1 : H a = some (ExV C dx a)) (h2 : H dx = some (.xd [(("value" : Str), x)])) :
    ∃ oe od u, PySem.W.InstAt s.heap a oe C (some od) ∧ PySem.W.lookIn "value" od = some (some u) ∧ RelV x u := by
  obtain ⟨⟨oe, vs, e1, z, e2⟩, _⟩ := (show ObjOk X.prog X.w H s.heap a (ExV C dx a) from I.hok a _ h1)
  obtain ⟨mA, hns, hr⟩ := (show ObjOk X.prog X.w H s.heap dx (.xd [(("value" : Str), x)]) from I.hok dx _ h2)
  obtain ⟨od, ho, hl⟩ := lookIn_ns hns
  have l : List.lookup ("value" : Str) [(("value" : Str), x)] = some x := by simp [List.lookup]
  obtain ⟨u, hu, ru⟩ := RelO.some_of (v := x) (o := mA "value") (by rw [← l]; exact hr "value")
  exact ⟨oe, od, u, ⟨e1, z.1, by unfold PySem.W.notCls; rw [e2] <;> rfl, by rw [z.2]; exact ho⟩, by rw [hl, hu], ru⟩
/-- isinstance(e, C'), e a kept exception -/
def rIsiX (P : Program) (K : PySem.W.Frag) : List V → Hp → VK → Prop := fun xs H Q => ∃ (a C dx C' D fI : Addr) (x : V) (b : Bool), xs = [.ref a, .ref C'] ∧ H a = some (ExV C dx a) ∧ H dx = some (.xd [(("value" : Str), x)]) ∧
  ArmX.ArmAt P K C D fI ∧ PySem.W.kitOne K (.ref C) (.ref C') = some b ∧ Q (.bl b) H
theorem call_isiX {X : Cx} : CallR X (.builtin "isinstance") (rIsiX X.prog X.K) := by
  intro pins s σ H xs us Q I r h
  obtain ⟨a, C, dx, C', D, fI, x, b, rfl, h1, h2, T, e, q⟩ := h
  obtain ⟨u1, u2, rfl, r1, r2⟩ := vals2 r
  cases (show u1 = Value.ref a from r1)
  cases (show u2 = Value.ref C' from r2)
  obtain ⟨oe, od, u, J, _, _⟩ := exv_inst I h1 h2
  have hc : (PySem.W.clsIn X.K C).isSome = true := by
    obtain ⟨cd, hc, _⟩ := PySem.W.any_some T.hdC
    rw [hc]; rfl
  exact PySem.W.kia_one (PySem.W.kitx_exc (ox := oe) (od := some od) hc T.ga T.gg T.exC T.ca T.cn T.ct T.cm) I.kIn J e (fun z => nomatch z) fun tk => ⟨.bl b, H, I.tok tk, rfl, q⟩
section
variable {T : List (Addr × Str)} {X : Cx} {a b c e : Expr} {fa fb fc : EF} {pos p pos2 : Pos} {ga : AF} {es : List Expr} {x : Str} {sub : Str → Str → Option Bool}
theorem ok_isiX (hs : SubAt X.prog X.K X.mg sub) : CallOk T X (fun xs H Q => rIsi X.K xs H Q ∨ rIsiX X.prog X.K xs H Q) (fIsi sub) := fun W σ β H S xs vs Q k l h => by
  unfold fIsi at h
  split at h
  · rename_i _ x t
    refine .inl (ok_isi (T := T) (fun _ _ => none) (fun _ _ => rfl) W σ β H S [x, .ty t] vs Q k l ?_)
    exact h
  · rename_i _ c d c'
    cases eb : sub c c' with
    | none => rw [eb] at h; exact h.elim
    | some b =>
      rw [eb] at h
      obtain ⟨v, u, rfl, r1, r2⟩ := RepL.two l
      obtain ⟨a, C, dx, y, rfl, g1, g2, g3, g4⟩ := r1
      obtain ⟨C', rfl, g5⟩ := r2
      obtain ⟨C1, C1', D, fI, m1, m2, A, e1, _⟩ := hs.ex c c' b eb
      cases (show some (Value.ref C) = some (Value.ref C1) from (show X.mg c = _ from g1).symm.trans m1)
      cases (show some (Value.ref C') = some (Value.ref C1') from (show X.mg c' = _ from g5).symm.trans m2)
      exact .inr ⟨a, C, dx, C', D, fI, y, b, rfl, g2, g3, A, e1, post.val h k rfl⟩
  · exact h.elim
theorem pb_isinstance (h : SubAt X.prog X.K X.mg sub) (hm : X.mg "isinstance" = none) (ha : PXA T X (e :: es) ga) (hg : Gl X "isinstance" := by rfl) (he : starEach (e :: es) X.env = (false, eval e X.env) :: starEach es X.env := by rfl) (hpl : (backTo pos (starEach es X.env)).any (·.1) = false := by rfl) :
    PX T X (.Call (.Name "isinstance" p) (e :: es) [] pos) (eCall (fIsi sub) ga) := px_blt (call_isi.or call_isiX) (ok_isiX h) hg hm (by decide +kernel) ha (by decide) (by decide) he hpl
/-- e.value -/
def tValue (P : Program) (K : PySem.W.Frag) (te : TE) : TE := fun σ H Q => te σ H fun v H1 => ∃ (a C dx D fI : Addr) (x : V), v = .ref a ∧ H1 a = some (ExV C dx a) ∧ H1 dx = some (.xd [(("value" : Str), x)]) ∧ ArmX.ArmAt P K C D fI ∧ Q x H1
theorem pe_value {te : TE} (he : PE X a te) (hb : attributeBase a "value" X.env (eval a X.env) = eval a X.env) : PE X (.Attribute a "value" pos) (tValue X.prog X.K te) := by
  refine ⟨fun pins s σ H Q I h => attr_of hb (thn (he.run pins s σ H _ I h) fun u s1 hh => ?_)⟩
  obtain ⟨v, H1, I1, rv, aa, C, dx, D, fI, x, rfl, h1, h2, A, q⟩ := hh
  cases (show u = Value.ref aa from rv)
  obtain ⟨oe, od, u, J, l1, ru⟩ := exv_inst I1 h1 h2
  exact HandSPX.exc_get I1.kIn J A.ga A.gg A.exC (PySem.W.findObj_own A.hdC A.noN rfl l1) (handed_of ru) ⟨x, H1, I1.tok _, ru, q⟩
theorem px_value (h : SubAt X.prog X.K X.mg sub) (ha : PX T X a fa) (hb : attributeBase a "value" X.env (eval a X.env) = eval a X.env := by rfl) : PX T X (.Attribute a "value" pos) (eValue sub fa) :=
  ⟨fun W t => PE.weak (pe_value (ha.run W t) hb) fun σ H Q ⟨β, ρ, S, hs, he, q⟩ => tE_bind hs he q fun d S1 v β1 H1 x1 k1 e1 r1 q1 => by
    cases d with
    | exo c d =>
      by_cases hc : sub c c = some true
      · simp only [if_pos hc] at q1
        obtain ⟨aa, C, dx, y, rfl, g1, g2, g3, g4⟩ := r1
        obtain ⟨C1, C1', D, fI, m1, m2, A, e1, _⟩ := h.ex c c true hc
        cases (show some (Value.ref C) = some (Value.ref C1) from (show X.mg c = _ from g1).symm.trans m1)
        exact ⟨aa, C, dx, D, fI, y, rfl, g2, g3, A, post.val q1 k1 g4⟩
      · simp only [if_neg hc] at q1
        exact q1.elim
    | _ => exact q1.elim⟩
end
end DL


set_option linter.all false
set_option autoImplicit false
set_option Elab.async false
set_option maxRecDepth 100000
set_option maxHeartbeats 2000000
/-! DLe4: an exception that is caught and kept. -/
namespace DL
open PySem PySem.Spec L2
open PyProof.Rows hiding St b2i
section
variable {X : Cx} {pins : List (Addr × Obj)} {σ σ' : St} {H H' : Hp} {s sI : Shared}
/-- the exception that was pinned is known from now on; sI: the state ahead of it -/
theorem Inv.track {a C dx : Addr} {oe : Obj} {vs : Array Value} (J : Inv X pins σ' H' sI) (hn : sI.heap.get? a = none) (hx : X.ex = []) (I : Inv X ((a, oe) :: pins) σ H s) (hz : Zc (.ref C) (some dx) oe) (hd : oe.data = .fields vs) :
    Inv X pins σ (upd H a (ExV C dx a)) s := by
  obtain ⟨ea, na, nL, nF, nc⟩ := I.pin (a, oe) (by simp)
  have nox : ∀ b : Addr, b ∉ X.ex := fun b z => by rw [hx] at z; cases z
  have ne0 : ∀ b o, X.s_0.heap.get? b = some o → b ≠ a := fun b o e z => by
    obtain ⟨o', e'⟩ := J.base.there b o e (nox b)
    rw [z, hn] at e'; cases e'
  have neH : ∀ b o, H b = some o → b ≠ a := fun b o e z => by rw [z, na] at e; cases e
  have cell : ∀ y c, X.env.cells.lookup y = some c → c ≠ a := fun y c e z => by
    obtain ⟨v, o, e1, e2⟩ := I.cell y c e
    rw [z, ea] at e1; cases e1
    exact nc v e2
  refine ⟨I.ok, I.os, I.bare, ⟨I.base.keep, I.base.slot, fun b o e n q => ?_, I.base.there, fun b xs e => ?_, fun b o u e => ?_, fun b ps e => ?_⟩, I.loc, I.cell, ?_, fun y c e => ?_, fun p hp => ?_, ?_, I.len⟩
  · rw [upd_ne (ne0 b o e)]; exact I.base.free b o e n q
  · have z := I.base.tups b xs e
    rw [upd_ne (neH _ _ z)]; exact z
  · have z := I.base.frzs b o u e
    rw [upd_ne (neH _ _ z)]; exact z
  · obtain ⟨more, z⟩ := I.base.tbls b ps e
    exact ⟨more, by rw [upd_ne (neH _ _ z)]; exact z⟩
  · rw [upd_ne (Ne.symm nL)]; exact I.free
  · rw [upd_ne (cell y c e)]; exact I.freeC y c e
  · have hne : p.1 ≠ a := fun z => by
      have e := (J.pin p hp).1
      rw [z, hn] at e; cases e
    obtain ⟨h1, h2, h3⟩ := I.pin p ((List.mem_append.mp hp).elim (List.mem_append_left _) fun z => List.mem_append_right _ (List.mem_cons_of_mem _ z))
    exact ⟨h1, by rw [upd_ne hne]; exact h2, h3⟩
  · exact I.hok.laidN (fun _ _ e => e) na ⟨⟨oe, vs, ea, hz, hd⟩, ⟨oe, ea⟩, fun h1 h2 ⟨o, v, e1, r⟩ k => ⟨o, v, k _ e1, r⟩⟩
end
/-- what a clause that keeps its exception wishes: the class is named; the suite runs with the exception in slot i; then it is known -/
def wKeep (K : PySem.W.Frag) (c : Value) (i : Nat) (ts : Addr → Value → Option Addr → TS) (Y : Ends) : WX := fun cls d σ H =>
  PySem.W.exmOne K cls c = some true ∧ ∃ C dx, cls = .ref C ∧ d = some dx ∧ ∀ a, H a = none → ts a cls d { nx := fun σ' H' => H' a = none → Y.nx (σ'.set i none) (upd H' a (ExV C dx a)), rt := fun _ _ => False } (σ.set i (some (.ref a))) H
section
variable {X : Cx} {x n : Str} {c : Value} {i : Nat} {body suite : List Stmt} {b₀ : Stmt} {np pos pos' : Pos} {tb : WX → TS} {ts : Addr → Value → Option Addr → TS}
theorem ps_try_keep (hs : X.stack = X.env :: X.outer) (hf : X.env.frame = some X.env.locals) (hx : X.ex = []) (hN : X.N.Nodup) (hi : X.N[i]? = some n) (hln : X.env.kindOf n = some .local) (hc : Names X x c)
    (hb : ∀ (W : WX) (pn : List (Addr × Obj)) (xe : Value → Shared → Prop), Takes (X.tr pn xe) W → PSs (X.tr pn xe) body (tb W))
    (hsu : ∀ (a : Addr) (oe : Obj) (cls : Value) (d : Option Addr) (pn : List (Addr × Obj)), PSs (X.suite a ((a, oe) :: pn)) (b₀ :: suite) (ts a cls d)) :
    PS X (.Try body [.ExceptHandler (some (.Name x np)) (some n) (b₀ :: suite) pos'] [] [] pos) (fun Y σ H => tb (wKeep X.K c i ts Y) Y σ H) := by
  refine ⟨fun pins s σ H Y I h => wpAny_Try_except ?_⟩
  have fr : X.A.frames = some (X.env :: X.outer) := by rw [I.ok.frames, hs]
  refine wpAny_mono ((hb (wKeep X.K c i ts Y) (X.pn ++ pins) _ (fun u s' z => ?_)).run [] s σ H Y (I.toTry _) h) (fun f s1 hsp => ?_) fun e s1 he => he
  · obtain ⟨a, B, sI, pins', σ', H', cls, d, rfl, J', nb, up, sky, na, os, ag, hname, C, dx, rfl, rfl, hyes⟩ := z
    have J : Inv X pins σ' H' sI := J'.ofTry I.ok
    show wpAny (model X.prog X.w) X.A (noteFrame (.ref a) X.env) _ _ _
    refine Sky.land Zc.steady fr hf (show Sky B (X.env :: X.outer) a (Zc (.ref C) (some dx)) X.env.locals s'.heap by rw [← hs]; exact sky) fun h3 fl3 up3 => ?_
    have J3 : Inv X pins σ' H' { s' with heap := h3 } := J.landed nb fl3.1 (up.trans up3) os ag
    obtain ⟨oe3, vs3, he3, hz3, hd3⟩ := fl3.there
    have out : a ∉ frs (X.env :: X.outer) := fun hm => by
      obtain ⟨_, o', e', hnf⟩ := fl3.2.2.1.mem hm
      rw [he3] at e'; cases e'; exact hnf _ hd3
    have nL : a ≠ X.env.locals := fun z => out (List.mem_filterMap.mpr ⟨X.env, .head _, by rw [hf, z]⟩)
    have nF : a ∉ X.fs := fun hm => by
      obtain ⟨e, he, q⟩ := List.mem_filterMap.mp hm
      exact out (List.mem_filterMap.mpr ⟨e, .tail _ he, q⟩)
    have hnone : sI.heap.get? a = none := by
      cases e : sI.heap.get? a with
      | none => rfl
      | some o => exact absurd ((nb a o e (by rw [hs]; exact out)).symm.trans fl3.2.1) (by simp)
    have S3 := J3.suite he3 hd3 na nL nF
    refine wpAny_handleBy_cons (codeAny_handlers_test ?_) (by intro q; cases q)
    have LT : PySem.W.Looks (model X.prog X.w) h3 (typeOf (.ref a)) (.ref C) := fun A Q E s k q => wpAny_typeOf_ref (k _ _ he3) (by rw [hz3.1]; exact q)
    have test : ∀ {Q : Value → Shared → Prop} {E : Value → Shared → Prop}, Q c { s' with heap := h3 } → wpAny (model X.prog X.w) (X.A.mark (some (.ref a))) (eval (.Name x np) X.env) Q E { s' with heap := h3 } := fun {Q E} q => by
      obtain ⟨hg, hdb, hm | ⟨hm, hv, hnn⟩⟩ := hc
      · exact ld_glob (X := X.suite a ((a, oe3) :: (X.pn ++ pins))) S3 hg hm q hdb
      · exact ld_blt (X := X.suite a ((a, oe3) :: (X.pn ++ pins))) S3 hg hm hv q hnn hdb
    refine test ((PySem.W.exm_one (M := model X.prog X.w) J3.kIn LT hname).here ?_)
    refine codeAny_handlers_suite_as (HandSPX.lands_againZ fl3 fun h4 fl4 up4 => ?_)
    have J4 : Inv X pins σ' H' { s' with heap := h4 } := J.landed nb fl4.1 ((up.trans up3).trans up4) os ag
    obtain ⟨oe4, vs4, he4, hz4, hd4⟩ := fl4.there
    refine store_ok (X := X.suite a ((a, oe4) :: (X.pn ++ pins))) (v := .ref a) (J4.suite he4 hd4 na nL nF) hN hi (.inl hln) rfl (fun s5 S5 => ?_) (.inr hln)
    refine wpAny_mono ((hsu a oe4 (.ref C) (some dx) (X.pn ++ pins)).run [] s5 _ H' _ S5 (hyes a na)) (fun f s6 hsp => ?_) (fun _ _ z => z.elim)
    cases f with
    | next =>
      obtain ⟨σ6, H6, S6, q6⟩ := hsp
      have P6 := S6.pin (a, oe4) (by simp)
      have K6 : Inv X ((a, oe4) :: pins) σ6 H6 s6 := ⟨I.ok, S6.os, S6.bare, S6.base, S6.loc, S6.cell, S6.free, S6.freeC, fun p hp => by
        rcases List.mem_append.mp hp with z | z
        · exact S6.pin p (by simp [z])
        · rcases List.mem_cons.mp z with z | z
          · rw [z]; exact P6
          · exact S6.pin p (by simp [z]), S6.hok, S6.len⟩
      refine gone_ok K6 hN hi hln fun s7 K7 => ⟨_, _, Inv.track J hnone hx K7 hz4 hd4, q6 P6.2.1⟩
    | brk => exact hsp.elim fun _ z => z.elim fun _ z => z.2.elim
    | cont => exact hsp.elim fun _ z => z.elim fun _ z => z.2.elim
    | ret u => exact hsp.elim fun _ z => z.elim fun _ z => z.elim fun _ z => z.2.2.elim
  · cases f with
    | next => exact wpAny_execs_nil (by obtain ⟨σ1, H1, I1, q1⟩ := hsp; exact ⟨_, _, I1.ofTry I.ok, q1⟩)
    | brk => obtain ⟨σ1, H1, I1, q1⟩ := hsp; exact ⟨_, _, I1.ofTry I.ok, q1⟩
    | cont => obtain ⟨σ1, H1, I1, q1⟩ := hsp; exact ⟨_, _, I1.ofTry I.ok, q1⟩
    | ret u => obtain ⟨v1, σ1, H1, I1, r1, q1⟩ := hsp; exact ⟨_, _, _, I1.ofTry I.ok, r1, q1⟩
end
end DL


set_option linter.all false
set_option autoImplicit false
set_option Elab.async false
set_option maxRecDepth 100000
set_option maxHeartbeats 2000000
/-! DLe5: _law_heard(lambda: body). -/
namespace DL
open PySem PySem.Spec L2 LamX
open PyProof.Rows hiding St b2i
section
variable {X : Cx} {pins : List (Addr × Obj)} {σ σ0 : St} {H : Hp} {s : Shared}
/-- call(), call being the lambda, in the def that got it: the slots are σ0 there, also for what is wished of an exception -/
theorem act_at {CXg : CXT} {Eg : XK} {Ng : List Str} {qg : Str} {sg : Scope} {g f c' : Addr} {cdg pm ctv : Value} {params : Arguments} {body : Expr} {scope : Scope} {k i : Nat} {a : Str} {pn : List (Addr × Obj)} {xe : Value → Shared → Prop} {W : WX} {E : XK} {tb : TE} {p1 p2 : Pos}
    (I : Inv X pins σ H s) (L : LamS X.env.scope scope) (hf : s.heap.get? f = some (PySem.W.kla_obj "<lambda>" (X.env.qual ++ "<lambda>") params body scope (cloFrom X.env.cells scope.names []) pm c' ctv)) (fn : H f = none) (ff : f ∉ frs X.stack)
    (hbind : bindArgs (PySem.W.kla_fn "<lambda>" (X.env.qual ++ "<lambda>") params body scope (cloFrom X.env.cells scope.names []) pm (.ref c') ctv) ⟨[], []⟩ = pure [])
    (tk : Takes ((cxOf CXg X.prog X.w X.K X.mg X.base Ng qg sg g cdg X.A X.stack s H Eg).tr pn xe) W) (hW : ∀ cls d H', E cls d H' → W cls d σ0 H') (hr : Room (k + 1) (X.A.deeper (envOfC qg sg s.heap.objs.size g cdg)))
    (hbody : ∀ (A : Around) (outer : List PySem.Env) (s : Shared) (H : Hp), Room k (A.deeper (lamEnv X scope s.heap.objs.size f c')) → PE (lamCx X A outer s H E scope f c') body tb)
    (hN : Ng[i]? = some a) (hv : Vis sg a) (hd : (a == ("__debug__" : Str)) = false) (hcd : (a == ("__classdict__" : Str)) = false) :
    PE ((cxOf CXg X.prog X.w X.K X.mg X.base Ng qg sg g cdg X.A X.stack s H Eg).tr pn xe) (.Call (.Name a p1) [] [] p2) (fun σZ HZ Q => σZ = σ0 ∧ σ0[i]? = some (some (.ref f)) ∧ HZ c' = some (CodeO c' (X.env.qual ++ "<lambda>")) ∧ tb σ HZ Q) := by
  refine ⟨fun pinsZ sZ σZ HZ Q IZ ⟨eσ, hs, hc, ht⟩ => ?_⟩
  rw [eσ] at IZ ⊢
  have nm := (pe_var (X := (cxOf CXg X.prog X.w X.K X.mg X.base Ng qg sg g cdg X.A X.stack s H Eg).tr pn xe) (pos := p1) (i := i) hN hv hd hcd).run pinsZ sZ σ0 HZ (fun v H1 => v = .ref f ∧ H1 = HZ) IZ ⟨.ref f, hs, rfl, rfl⟩
  refine wpAny_Call_Name_kw (thn nm fun u s1 ⟨v, H1, I1, r1, ev, eH⟩ => ?_)
  rw [eH] at I1; rw [ev] at r1
  cases (show u = Value.ref f from r1)
  have fat : s1.heap.get? f = some (PySem.W.kla_obj "<lambda>" (X.env.qual ++ "<lambda>") params body scope (cloFrom X.env.cells scope.names []) pm c' ctv) := I1.base.keep f _ hf fn ff (fun z => nomatch (show f ∈ ([] : List Addr) from z))
  have un : Un (frs X.stack) [] H HZ s.heap s1.heap := I1.base
  obtain ⟨⟨oc, vs, t, co1, co2, co3⟩, _, _⟩ := I1.hok c' _ hc
  have run : codeAny (model X.prog X.w) (X.A.deeper (envOfC qg sg s.heap.objs.size g cdg)) (.call (.ref f) ⟨[], []⟩) (CR (L2.CX X.prog X.w) (envOfC qg sg s.heap.objs.size g cdg :: X.stack) X.prog X.w HZ s1 Q E) s1 := by
    refine PySem.W.kla_callFunE hr.depth fat rfl L.co L.gen rfl ⟨c', oc, vs, t, rfl, co1, co2, co3⟩ ?_
    rw [hbind]; refine wpAny_pure (wpAny_newFunctionEnv (fun y hy => (L.own y hy).2) (fun y hy => by cases hy) (fun h₁ hns hsb => ⟨I1.nolimit.fresh _ hsb, ?_⟩) L.kind)
    have kp : ∀ b o, s1.heap.get? b = some o → h₁.get? b = some o := fun b o e => hsb.extBut b o (Nat.ne_of_lt (Heap.lt_size e)) (Heap.get?_push_of_some _ e)
    show codeAny _ _ (.expr body (lamEnv X scope s1.heap.objs.size f c')) _ _
    have J := lam_start2 (E := E) (f := f) (c' := c') (tk := s1.toks + ([] : List (Str × Value)).length) I L I1.env0 hr.hd un hns kp
    refine PySem.W.kla_codeExpr (wpAny_mono ((hbody _ _ s1 HZ (hr.deeper _)).run [] _ _ HZ Q J ht) (fun v s' ⟨w', H', J', rv, q⟩ => ⟨w', H', J'.os, J'.bare, J'.base, J'.hok, rv, q⟩) fun e s' hq => hq)
  have wish : Takes ((cxOf CXg X.prog X.w X.K X.mg X.base Ng qg sg g cdg X.A X.stack s H Eg).tr pn xe) W := tk
  refine PySem.W.callWith_F0 ⟨_, _, _, _, fat⟩ (wpAny_call (codeAny_mono run fun r s' hq => ?_))
  match r, hq with
  | .error e, hq => exact wish e s' (XE.of_call (E := fun cls d H' => W cls d σ0 H') (W := W) I1 (fun cls d H' z => z) (by
      obtain ⟨x1, x2, x3, x4, x5, x6, x7, x8, x9, x10, x11, x12, x13⟩ := hq
      exact ⟨x1, x2, x3, x4, x5, x6, x7, x8, x9, x10, x11, x12, hW _ _ _ x13⟩))
  | .ok (.ret u), hq => exact I1.after hq
end
abbrev hdNames : List Str := ["call", "caught", "gave", "error"]
abbrev hdScope : Scope := { kind := .function, names := [(PySem.Str.ofString "call", .local), (PySem.Str.ofString "caught", .local), (PySem.Str.ofString "gave", .local), (PySem.Str.ofString "error", .local), (PySem.Str.ofString "ArmError", .globalImplicit)], isGenerator := false, isCoroutine := false, more := [] }
/-- the body of _law_heard -/
abbrev hdBody (q1 q2 q3 q4 q5 q6 q7 q8 q9 q10 q11 q12 q13 q14 q15 q16 q17 q18 q19 q20 q21 : Pos) : List Stmt :=
  [.Assign [.Tuple [.Name "caught" q1, .Name "gave" q2] 0 q3] (.Tuple [.Constant .none 0 q4, .Constant .none 0 q5] 0 q6) q7,
   .Try [.Assign [.Name "gave" q8] (.Call (.Name "call" q9) [] [] q10) q11] [.ExceptHandler (some (.Name "ArmError" q12)) (some "error") [.Assign [.Name "caught" q13] (.Name "error" q14) q15] q16] [] [] q17,
   .Return (some (.Tuple [.Name "caught" q18, .Name "gave" q19] 0 q20)) q21]
theorem hdS : FnScope hdNames ["call"] hdScope := ⟨rfl, rfl, rfl, by decide, rfl, by decide, by decide⟩
/-- what the module holds of _law_heard -/
structure HeardAt (K : PySem.W.Frag) (mg : Str → Option Value) : Prop where
  ex : ∃ (g D : Addr) (oc : Value) (od : Option Addr) (kV doc pm : Value) (an : Option Addr) (cdv ct : Value) (osl : Array (Option Value)) (pg : Arguments) (q1 q2 q3 q4 q5 q6 q7 q8 q9 q10 q11 q12 q13 q14 q15 q16 q17 q18 q19 q20 q21 : Pos),
    mg "_law_heard" = some (.ref g) ∧ mg "ArmError" = some (.ref D) ∧ PySem.W.keepIn K (.ref g) = true ∧ PySem.W.codeIn K cdv "_law_heard" = true ∧
    K.lookup g = some ⟨oc, od, .func (PySem.W.fnOf "_law_heard" "_law_heard" pg (hdBody q1 q2 q3 q4 q5 q6 q7 q8 q9 q10 q11 q12 q13 q14 q15 q16 q17 q18 q19 q20 q21) hdScope .none kV doc pm an cdv ct), osl⟩ ∧
    L2.Binds K (PySem.W.fnOf "_law_heard" "_law_heard" pg (hdBody q1 q2 q3 q4 q5 q6 q7 q8 q9 q10 q11 q12 q13 q14 q15 q16 q17 q18 q19 q20 q21) hdScope .none kV doc pm an cdv ct) ["call"] [] ∧
    ∀ (Z1 Z2 : Addr) (Z3 : Value), swappedStores [.Tuple [.Name "caught" q1, .Name "gave" q2] 0 q3] (.Tuple [.Constant .none 0 q4, .Constant .none 0 q5] 0 q6) (envOfC "_law_heard" hdScope Z1 Z2 Z3) = pure none
/-- what is wished of an exception of the lambda -/
def eHd (K : PySem.W.Frag) (D : Addr) (Q : VK) : XK := fun cls d H' => PySem.W.exmOne K cls (.ref D) = some true ∧ ∃ C dx, cls = .ref C ∧ d = some dx ∧ ∀ a, H' a = none → ∀ r, upd H' a (ExV C dx a) r = none → Q (.ref r) (upd (upd H' a (ExV C dx a)) r (.tup [.ref a, .non]))
def tHeard (K : PySem.W.Frag) (D : Addr) (T : List (Addr × Str)) (t : XK → TE) : TE := fun σ H Q => Tabs T H ∧ ∀ H1, ExtN H H1 → Tabs T H1 → ∀ p, H1 p = none →
  t (eHd K D Q) σ (upd H1 p (.tup [.non, .non])) (fun v H' => ∀ r, H' r = none → Q (.ref r) (upd H' r (.tup [.non, v])))
theorem PE.cl {X : Cx} {e : Expr} {t : TE} (h : PE X e t) : PE X e (fun σ H Q => ∃ Q1 : VK, (∀ v H', Q1 v H' → Q v H') ∧ t σ H Q1) :=
  ⟨fun pins s σ H Q I ⟨Q1, k, q⟩ => wpAny_mono (h.run pins s σ H Q1 I q) (fun v s' ⟨w', H', J, r, z⟩ => ⟨w', H', J, r, k _ _ z⟩) fun _ _ z => z⟩
theorem le2 : 2 ≤ sizeLine := by rw [sizeLine_eq]; exact (by decide : 2 ≤ 16777216)
section
variable {X : Cx}
theorem pe_heard {T : List (Addr × Str)} {g D c P : Addr} {k : Nat} {pg : Arguments} {dV kV doc pm cdv ct oc : Value} {an od : Option Addr} {osl : Array (Option Value)} {params : Arguments} {body : Expr} {scope : Scope} {t : XK → TE} {p lpos pos q1 q2 q3 q4 q5 q6 q7 q8 q9 q10 q11 q12 q13 q14 q15 q16 q17 q18 q19 q20 q21 : Pos}
    (hg : Gl X "_law_heard") (hm : X.mg "_law_heard" = some (.ref g)) (hk : PySem.W.keepIn X.K (.ref g) = true) (hD : X.mg "ArmError" = some (.ref D))
    (lk : X.K.lookup g = some ⟨oc, od, .func (PySem.W.fnOf "_law_heard" "_law_heard" pg (hdBody q1 q2 q3 q4 q5 q6 q7 q8 q9 q10 q11 q12 q13 q14 q15 q16 q17 q18 q19 q20 q21) hdScope dV kV doc pm an cdv ct), osl⟩) (hcg : PySem.W.codeIn X.K cdv "_law_heard" = true)
    (hb : L2.Binds X.K (PySem.W.fnOf "_law_heard" "_law_heard" pg (hdBody q1 q2 q3 q4 q5 q6 q7 q8 q9 q10 q11 q12 q13 q14 q15 q16 q17 q18 q19 q20 q21) hdScope dV kV doc pm an cdv ct) ["call"] [])
    (hw : ∀ (Z1 Z2 : Addr) (Z3 : Value), swappedStores [.Tuple [.Name "caught" q1, .Name "gave" q2] 0 q3] (.Tuple [.Constant .none 0 q4, .Constant .none 0 q5] 0 q6) (envOfC "_law_heard" hdScope Z1 Z2 Z3) = pure none)
    (TB : TabB X.base X.mg c P) (hcode : X.env.code = .ref c) (hmT : (P, X.env.qual ++ "<lambda>") ∈ T) (hu : ∀ y ∈ T, y.1 = P → y.2 = X.env.qual ++ "<lambda>") (hr : Room (k + 2) X.A) (L : LamS X.env.scope scope) (hdef : defaultsOf params X.env = ([], []))
    (hbind : ∀ (q : Str) (cl : List (Str × Addr)) (pm cv ctv : Value), bindArgs (PySem.W.kla_fn "<lambda>" q params body scope cl pm cv ctv) ⟨[], []⟩ = pure [])
    (hbody : ∀ (A : Around) (outer : List PySem.Env) (s : Shared) (H : Hp) (E : XK) (f c' : Addr), Room k (A.deeper (lamEnv X scope s.heap.objs.size f c')) → PE (lamCx X A outer s H E scope f c') body (t E)) :
    PE X (.Call (.Name "_law_heard" p) [.Lambda params body scope lpos] [] pos) (tHeard X.K D T t) := by
  refine ⟨fun pins s σ H Q I ⟨hT, h⟩ => ?_⟩
  refine wpAny_Call_Name_kw (ld_glob I hg hm (PySem.W.callWith_K (h₀ := X.base) I.ok.mod.kin hk ?_ (by rfl) (by rfl)) rfl)
  show wpAny _ _ (spliced ((false, eval (.Lambda params body scope lpos) X.env) :: backTo pos (starEach [] X.env))) _ _ s
  refine Calls.spliced_cons (lam_make2 I TB hcode hmT hu hT hdef (L.has I.ok) fun f c' pm' ctv H1 s' I1 eN T1 hf hfn hfr hco => Calls.spliced_nil ⟨I1.kIn, ?_⟩)
  have rc : codeAny (model X.prog X.w) X.A (.call (.ref g) ⟨[.ref f], []⟩) (CR C8.CX0 X.stack X.prog X.w H1 s' Q C8.E0) s' := by
    refine run_ofS (N := hdNames) (ps := ["call"]) (us := [.ref f]) (vs := [.ref f]) lk hcg hdS hr I1.env0 (hb s' [.ref f] I1.kIn rfl) (.cons rfl .nil) rfl fun hr' => ?_
    refine ⟨_, pss_cons (ps_asg (pe_tup (pa_cons pe_non (pa_cons pe_non pa_nil))) (pg_tup rfl (pgs_cons (pg_name (i := 1) hdS.nd rfl (.inl rfl)) (pgs_cons (pg_name (i := 2) hdS.nd rfl (.inl rfl)) pgs_nil))) rfl (hw _ _ _))
      (pss_cons (ps_try_keep (i := 3) (c := .ref D) (tb := fun W Y σZ HZ => ∃ (E : XK) (Q1 : VK), (∀ cls d H', E cls d H' → W cls d σZ H') ∧ (∀ v H', Q1 v H' → Y.nx (σZ.set 2 (some v)) H') ∧ σZ[0]? = some (some (.ref f)) ∧ HZ c' = some (CodeO c' (X.env.qual ++ "<lambda>")) ∧ t E σ HZ Q1)
        (ts := fun a cls d => tAsg (tVar 3) (gName 1)) rfl rfl rfl hdS.nd rfl rfl ⟨rfl, by decide, .inl hD⟩ (fun W pn xe tk => ?_) (fun a oe cls d pn => pss_one (ps_set (i := 1) hdS.nd rfl (.inl rfl) (pe_var (i := 3) rfl (.inl rfl) (by decide) (by decide)))))
      (pss_one (ps_ret (pe_tup (pa_cons (pe_var (i := 1) rfl (.inl rfl) (by decide) (by decide)) (pa_cons (pe_var (i := 2) rfl (.inl rfl) (by decide) (by decide)) pa_nil)))))), ?_⟩
    · refine ⟨fun pins s2 σ2 H2 Y I2 ⟨E, Q1, hW, hQ, z1, z2, z3⟩ => ?_⟩
      exact (pss_one (ps_set (i := 2) hdS.nd rfl (.inl rfl) (PE.cl (act_at (i := 0) (p1 := q9) (p2 := q10) I1 L hf hfn hfr (hbind _ _ _ _ _) tk hW hr' (fun A outer s H hr2 => hbody A outer s H E f c' hr2) rfl (.inl rfl) (by decide) (by decide))))).run pins s2 σ2 H2 Y I2 ⟨Q1, hQ, rfl, z1, z2, z3⟩
    · refine ⟨le2, fun p hp => ⟨p, _, rfl, .of upd_same, rfl, .non, _, rfl, .non, _, rfl, rfl, ?_⟩⟩
      have hne : c' ≠ p := fun z => by rw [z, hp] at hco; cases hco
      have key := h H1 eN T1 p hp
      refine ⟨eHd X.K D Q, fun v H' => ∀ r, H' r = none → Q (.ref r) (upd H' r (.tup [.non, v])), fun cls d H' ⟨e1, C, dx, e2, e3, e4⟩ => ⟨e1, C, dx, e2, e3, fun a ha => ⟨_, rfl, fun _ => ?_⟩⟩, fun v H' hv => ⟨_, rfl, _, rfl, le2, fun r hr => hv r hr⟩, rfl, by rw [upd_ne hne]; exact hco, key⟩
      exact ⟨_, rfl, _, rfl, le2, fun r hr => e4 a ha r hr⟩
  refine wpAny_call (codeAny_mono rc fun r s2 hq => ?_)
  match r, hq with
  | .error e, hq => exact (show False from hq).elim
  | .ok (.ret u), hq => exact I1.after hq
end
end DL


set_option linter.all false
set_option autoImplicit false
set_option Elab.async false
set_option maxRecDepth 100000
set_option maxHeartbeats 2000000
/-! DLe6: _law_heard(lambda: body) as data; defs with a lambda. -/
namespace DL
open PySem PySem.Spec L2 LamX
open PyProof.Rows hiding St b2i
/-- the maker's code object and its table -/
def LamIn (base : Heap) (mg : Str → Option Value) (T : List (Addr × Str)) (q : Str) (cdv : Value) : Prop := ∃ c P, cdv = .ref c ∧ TabB base mg c P ∧ (P, q ++ "<lambda>") ∈ T ∧ ∀ y ∈ T, y.1 = P → y.2 = q ++ "<lambda>"
section
variable {w : Wo} {β : Bt} {H H1 : Hp}
theorem ext_of (e : ExtN H H1) : Ext β H β H1 :=
  ⟨⟨⟨[], by simp, fun _ z => nomatch z⟩, fun _ z => .inl z, fun a o h n1 n2 => e a o h n2, fun a xs h _ => e a _ h (fun _ z => nomatch z), fun a n o h => by
    by_cases z : ∃ ps, o = .tbl ps
    · exact z
    · exact n o (e a o h fun ps y => z ⟨ps, y⟩)⟩, rfl⟩
theorem SOk.ofN {S : Sto} (k : SOk w β H S) (e : ExtN H H1) (t : Tabs w.T H1) : SOk w β H1 S :=
  ⟨t, k.nodup, fun a ha => ⟨(k.hid a ha).1.imp fun xs h => e _ _ h (fun _ z => nomatch z), (k.hid a ha).2⟩, k.len, fun n a ds e1 e2 => by
    obtain ⟨xs, h1, h2⟩ := k.at_ n a ds e1 e2
    exact ⟨xs, e _ _ h1 (fun _ z => nomatch z), RepL.ext (ext_of e).toExtW ds xs h2⟩⟩
end
section
variable {T : List (Addr × Str)} {X : Cx} {a : Expr} {fa : EF} {p lpos pos : Pos} {params : Arguments} {scope : Scope} {sub : Str → Str → Option Bool} {k : Nat}
theorem px_heard (hsub : SubAt X.prog X.K X.mg sub) (hh : HeardAt X.K X.mg) (hl : LamIn X.base X.mg T X.env.qual X.env.code) (hr : Room (k + 2) X.A) (L : lamSB X.env.scope scope = true)
    (hbody : ∀ (A : Around) (outer : List PySem.Env) (s : Shared) (H : Hp) (E : XK) (f c' : Addr), Room k (A.deeper (lamEnv X scope s.heap.objs.size f c')) → PX T (lamCx X A outer s H E scope f c') a fa)
    (hg : Gl X "_law_heard" := by rfl) (hdef : defaultsOf params X.env = ([], []) := by rfl) (hbind : ∀ (q : Str) (cl : List (Str × Addr)) (pm cv ctv : Value), bindArgs (PySem.W.kla_fn "<lambda>" q params a scope cl pm cv ctv) ⟨[], []⟩ = pure [] := by intros; rfl) :
    PX T X (.Call (.Name "_law_heard" p) [.Lambda params a scope lpos] [] pos) (eHeard sub fa) := by
  obtain ⟨g, D, oc, od, kV, doc, pm, an, cdv, ct, osl, pg, q1, q2, q3, q4, q5, q6, q7, q8, q9, q10, q11, q12, q13, q14, q15, q16, q17, q18, q19, q20, q21, m1, m2, m3, m4, m5, m6, m7⟩ := hh.ex
  obtain ⟨c, P, hcode, TB, hmT, hu⟩ := hl
  refine ⟨fun W t => PE.weak (pe_heard (t := fun E => tE (wo X T) (fun cls d _ H' => E cls d H') fa) hg m1 m3 m2 m5 m4 m6 m7 TB hcode hmT hu hr (lamS_by L) hdef hbind fun A outer s H E f c' hr' => (hbody A outer s H E f c' hr').run _ (takes_of rfl rfl rfl rfl)) fun σ H Q ⟨β, ρ, S, hs, he, h⟩ => ?_⟩
  refine ⟨hs.tabs, fun H1 eN T1 p hp => ?_⟩
  have x1 : Ext β H β H1 := ext_of eN
  have k1 : SOk (wo X T) β H1 S := hs.ofN eN T1
  have x2 : Ext β H β (upd H1 p (.tup [.non, .non])) := x1.trans (Ext.new hp)
  refine ⟨β, ρ, S, k1.new hp, he.ext x2.toExtW, ?_⟩
  have h := post.ext h x2
  unfold eHeard at h
  cases q : fa ρ S with
  | ok d S1 =>
    rw [q] at h
    intro v β' H' x k r r' hr'
    exact h (.ref r') β' _ (x.trans (Ext.new hr')) (k.new hr') ⟨r', _, rfl, .of upd_same, .non, _, rfl, rfl, v, _, rfl, Rep.ext (Ext.new hr').toExtW d v r, rfl⟩
  | exc cn d S1 =>
    rw [q] at h
    by_cases hc : sub cn "ArmError" = some true
    · simp only [if_pos hc] at h
      intro C dx v β' H' x k g1 g2 r
      obtain ⟨C1, C1', D1, fI, n1, n2, A, e1, e2⟩ := hsub.ex cn "ArmError" true hc
      cases (show some (Value.ref C) = some (Value.ref C1) from (show X.mg cn = _ from g1).symm.trans n1)
      cases (show some (Value.ref D) = some (Value.ref C1') from m2.symm.trans n2)
      refine ⟨e2, C, dx, rfl, rfl, fun aa haa r' hr' => ?_⟩
      have y1 : Ext β' H' β' (upd H' aa (ExV C dx aa)) := Ext.new haa
      have y2 : Ext β' H' β' (upd (upd H' aa (ExV C dx aa)) r' (.tup [.ref aa, .non])) := y1.trans (Ext.new hr')
      have s1 : Same (upd H' aa (ExV C dx aa)) (upd (upd H' aa (ExV C dx aa)) r' (.tup [.ref aa, .non])) := same_upd hr'
      exact h (.ref r') β' _ (x.trans y2) ((k.new haa).new hr') ⟨r', _, rfl, .of upd_same, .ref aa, _, rfl, ⟨aa, C, dx, v, rfl, g1, s1 _ _ upd_same, s1 _ _ (same_upd haa _ _ g2), Rep.ext y2.toExtW d v r⟩, .non, _, rfl, rfl, rfl⟩
    · simp only [if_neg hc] at h
      exact h.elim
  | bad => rw [q] at h; exact h
end
/-- a def that holds a lambda -/
structure DefInL (K : PySem.W.Frag) (mg : Str → Option Value) (base : Heap) (T : List (Addr × Str)) (x : Str) (st : Stmt) : Prop where
  ex : ∃ (f : Addr) (oc : Value) (od : Option Addr) (kV doc pm : Value) (an : Option Addr) (cdv ct : Value) (osl : Array (Option Value)),
    mg x = some (.ref f) ∧ K.lookup f = some ⟨oc, od, .func (PySem.W.fnOf x x (defArgs st) (defBody st) (defScope st) .none kV doc pm an cdv ct), osl⟩ ∧ PySem.W.codeIn K cdv x = true ∧ PySem.W.keepIn K (.ref f) = true ∧ LamIn base mg T (x ++ ".<locals>.") cdv
section
variable {P : Program} {w : World} {K : PySem.W.Frag} {mg : Str → Option Value} {base : Heap} {T : List (Addr × Str)} {gd : Bool} {k : Nat} {x : Str} {st : Stmt} {N ps : List Str} {m n : Nat} {g : SF}
theorem callee_ofL (D : DefInL K mg base T x st) (Sc : FnScope N ps (defScope st)) (hm : ps.length = m) (hn : N.length = n)
    (hb : ∀ (kV doc pm : Value) (an : Option Addr) (cdv ct : Value) (us : List Value), us.length = ps.length → bindArgs (PySem.W.fnOf x x (defArgs st) (defBody st) (defScope st) .none kV doc pm an cdv ct) ⟨us, []⟩ = pure (ps.zip us))
    (body : ∀ (f : Addr) (cdv : Value) (A : Around) (outer : List PySem.Env) (s : Shared) (H : Hp) (E : XK), LamIn base mg T (x ++ ".<locals>.") cdv → (gd = true → A.guards = some []) → Room k (A.deeper (envOfC x (defScope st) s.heap.objs.size f cdv)) → PXSs T (cxOf (L2.CX P w) P w K mg base N x (defScope st) f cdv A outer s H E) (defBody st) g) :
    Callee P w K mg base T gd (k + 1) x ps (mkFn m n g) := by
  obtain ⟨f, oc, od, kV, doc, pm, an, cdv, ct, osl, h1, h2, h3, h4, h5⟩ := D.ex
  exact ⟨f, _, fnG_of h2 h3 Sc hm hn fun A outer s H E hg hr => body f cdv A outer s H E h5 hg hr, h1, h4, .all (hb kV doc pm an cdv ct)⟩
end
end DL


set_option linter.all false
set_option autoImplicit false
set_option Elab.async false
set_option maxRecDepth 100000
set_option maxHeartbeats 2000000
/-! DLe7: the end of a law's row. -/
namespace DL
open PySem PySem.Spec L2 LamX
open PyProof.Rows hiding St b2i
section
variable {P : Program} {w : World} {K : PySem.W.Frag} {mg mb : Str → Option Value} {s₁ : Shared} {a : Addr} {vs : List Value} {ns : List Int} {ts : List Addr}
abbrev scriptO (vs : List Value) : Obj := { cls := .type "list", data := .seq vs.toArray }
/-- at the law's entry: the script and the tables are tracked -/
def H_in (K : PySem.W.Frag) (ts : List Addr) (a : Addr) (vs : List Value) (ns : List Int) : Hp := fun b => if b ∈ ts then some (.tbl #[]) else if b = a ∧ K.lookup a = none then some (.frz (scriptO vs) (.lst (ns.map V.int))) else none
theorem hin_cases (b : Addr) : (b ∈ ts ∧ H_in K ts a vs ns b = some (.tbl #[])) ∨ (b ∉ ts ∧ b = a ∧ K.lookup a = none ∧ H_in K ts a vs ns b = some (.frz (scriptO vs) (.lst (ns.map V.int)))) ∨ (H_in K ts a vs ns b = none ∧ b ∉ ts ∧ (b = a → K.lookup a ≠ none)) := by
  unfold H_in
  by_cases h1 : b ∈ ts
  · exact .inl ⟨h1, by rw [if_pos h1]⟩
  · by_cases h2 : b = a ∧ K.lookup a = none
    · exact .inr (.inl ⟨h1, h2.1, h2.2, by rw [if_neg h1, if_pos h2]⟩)
    · exact .inr (.inr ⟨by rw [if_neg h1, if_neg h2], h1, fun e z => h2 ⟨e, z⟩⟩)
/-- what stands at the entry -/
structure EntryAt (P : Program) (w : World) (K : PySem.W.Frag) (mg mb : Str → Option Value) (s₁ : Shared) (a : Addr) (vs : List Value) (ns : List Int) (cs : List (Addr × Addr)) : Prop where
  KX : K.In s₁.heap
  g : s₁.heap.Ns mainGlobals mg
  b : s₁.heap.Ns builtinsNs mb
  bb : ∀ x : Str, x ≠ "__name__" → mb x = bootBuiltins x
  lim : s₁.heap.NoLimit
  gens : s₁.gens = #[]
  tab : ∀ p ∈ cs, s₁.heap.get? p.2 = some { cls := .none, data := .fields #[] }
  out : ∀ p ∈ cs, K.lookup p.2 = none
  code : ∀ p ∈ cs, PySem.W.CodeHd s₁.heap p.1 p.2
  bm : ∃ (bm : Addr) (ob : Obj), mg "__builtins__" = some (.ref bm) ∧ bm ≠ builtinsNs ∧ s₁.heap.get? bm = some ob ∧ ob.cls = .type "module" ∧ ob.dict = some builtinsNs ∧ ob.data = .plain
  sc : s₁.heap.get? a = some (scriptO vs)
  isI : IntsAre vs ns
  line : ns.length ≤ sizeLine
variable {cs : List (Addr × Addr)}
theorem EntryAt.tabs (Y : EntryAt P w K mg mb s₁ a vs ns cs) {b : Addr} (h : b ∈ cs.map (·.2)) : s₁.heap.get? b = some { cls := .none, data := .fields #[] } ∧ K.lookup b = none := by
  obtain ⟨p, hp, e⟩ := List.mem_map.mp h
  rw [← e]; exact ⟨Y.tab p hp, Y.out p hp⟩
theorem EntryAt.free (Y : EntryAt P w K mg mb s₁ a vs ns cs) {b : Addr} {o : Obj} (e : s₁.heap.get? b = some o) (h1 : ∀ v n, o.data ≠ .seq v n) (h2 : o.data ≠ .fields #[]) : H_in K (cs.map (·.2)) a vs ns b = none := by
  rcases hin_cases (K := K) (ts := cs.map (·.2)) (a := a) (vs := vs) (ns := ns) b with ⟨z, _⟩ | ⟨_, z, _⟩ | ⟨z, _⟩
  · rw [(Y.tabs z).1] at e; cases e; exact absurd rfl h2
  · rw [z, Y.sc] at e; cases e; exact absurd rfl (h1 _ _)
  · exact z
theorem EntryAt.base (Y : EntryAt P w K mg mb s₁ a vs ns cs) {b : Addr} {o : Obj} (e : s₁.heap.get? b = some o) (h1 : ∀ v n, o.data ≠ .seq v n) (h2 : o.data ≠ .fields #[]) : (hidT s₁.heap (H_in K (cs.map (·.2)) a vs ns)).get? b = some o := hidT_get e (Y.free e h1 h2)
theorem EntryAt.nsAt (Y : EntryAt P w K mg mb s₁ a vs ns cs) {b : Addr} {m : Str → Option Value} (h : s₁.heap.Ns b m) : (hidT s₁.heap (H_in K (cs.map (·.2)) a vs ns)).Ns b m := by
  obtain ⟨o, es, ep, e, d, r⟩ := h
  exact ⟨o, es, ep, Y.base e (fun v n z => by rw [d] at z; cases z) (fun z => by rw [d] at z; cases z), d, r⟩
theorem EntryAt.kin (Y : EntryAt P w K mg mb s₁ a vs ns cs) : K.In (hidT s₁.heap (H_in K (cs.map (·.2)) a vs ns)) := fun b o e => by
  refine hidT_get (Y.KX b o e) ?_
  rcases hin_cases (K := K) (ts := cs.map (·.2)) (a := a) (vs := vs) (ns := ns) b with ⟨z, _⟩ | ⟨_, z, z2, _⟩ | ⟨z, _⟩
  · rw [(Y.tabs z).2] at e; cases e
  · rw [z, z2] at e; cases e
  · exact z
theorem EntryAt.mod (Y : EntryAt P w K mg mb s₁ a vs ns cs) : L2.Mod K mg (hidT s₁.heap (H_in K (cs.map (·.2)) a vs ns)) := by
  obtain ⟨mc, h1, h2⟩ := Y.lim
  exact ⟨Y.kin, Y.nsAt Y.g, ⟨mb, Y.nsAt Y.b, Y.bb⟩, mc, Y.nsAt h1, h2⟩
theorem EntryAt.tabB (Y : EntryAt P w K mg mb s₁ a vs ns cs) : ∀ p ∈ cs, TabB (hidT s₁.heap (H_in K (cs.map (·.2)) a vs ns)) mg p.1 p.2 := fun p hp => by
  have hT := Y.tab p hp
  obtain ⟨og, es, ep, eg, dg, _⟩ := Y.g
  refine ⟨?_, ?_, fun z => by rw [z, hT] at eg; cases eg; cases dg⟩
  · obtain ⟨o, us, file, tf, flags, tg, inF, text, tt, e1, r1, r2, r3, r⟩ := Y.code p hp
    exact ⟨o, us, file, tf, flags, tg, inF, text, tt, Y.base e1 (fun v n z => by rw [r2] at z; cases z) (fun z => by rw [r2] at z; cases z; simp at r3), r1, r2, r3, r⟩
  · obtain ⟨bm, ob, b1, b2, b3, b4, b5, b6⟩ := Y.bm
    refine ⟨bm, ob, b1, b2, fun q => ?_, fun q => ?_, Y.base b3 (fun v n z => by rw [b6] at z; cases z) (fun z => by rw [b6] at z; cases z), b4, b5, b6⟩
    · rw [q, eg] at b3; cases b3; rw [dg] at b6; cases b6
    · rw [q, hT] at b3; cases b3; cases b6
theorem EntryAt.hok (Y : EntryAt P w K mg mb s₁ a vs ns cs) : HOk P w (H_in K (cs.map (·.2)) a vs ns) s₁.heap := fun b u e => by
  rcases hin_cases (K := K) (ts := cs.map (·.2)) (a := a) (vs := vs) (ns := ns) b with ⟨z, q⟩ | ⟨_, z, _, q⟩ | ⟨q, _⟩
  · rw [q] at e; cases e; exact (Y.tabs z).1
  · rw [q] at e; cases e
    rw [z]
    exact ⟨Y.sc, by rw [List.length_map]; exact Y.line, vs, _, vals_ints Y.isI, Y.sc⟩
  · rw [q] at e; cases e
theorem EntryAt.sq (Y : EntryAt P w K mg mb s₁ a vs ns cs) : FzL K ⟨[], []⟩ (H_in K (cs.map (·.2)) a vs ns) a (ns.map V.int) := by
  rcases hin_cases (K := K) (ts := cs.map (·.2)) (a := a) (vs := vs) (ns := ns) a with ⟨z, _⟩ | ⟨_, _, _, q⟩ | ⟨_, _, q⟩
  · have e := (Y.tabs z).1
    rw [Y.sc] at e
    cases (congrArg Obj.data (Option.some.inj e) : Data.seq _ _ = Data.fields _)
  · exact .inr (.inl ⟨_, q⟩)
  · cases hk : K.lookup a with
    | none => exact absurd hk (q rfl)
    | some o =>
      have e := Y.KX a o hk
      rw [Y.sc] at e; cases e
      exact .inr (.inr ⟨_, vs.toArray, _, hk, rfl, rfl, rfl, by rw [List.size_toArray, Y.isI.length]; exact Y.line, by simpa using vals_ints Y.isI⟩)
theorem repL_script {w : Wo} {β : Bt} {H : Hp} : ∀ ns : List Int, RepL w β H (ns.map D.int) (ns.map V.int)
  | [] => rfl
  | n :: r => ⟨_, _, rfl, rfl, repL_script r⟩
/-- the law's def called with the script -/
theorem law_run {T : List (Addr × Str)} {gd : Bool} {k : Nat} {fa : Addr} {fd : FuncData} {x : Str} {fn : FN} (Y : EntryAt P w K mg mb s₁ a vs ns cs) (hT : ∀ y ∈ T, y.1 ∈ cs.map (·.2)) (hr : Room k callerA)
    (F : FnG P w K mg (hidT s₁.heap (H_in K (cs.map (·.2)) a vs ns)) T gd k fa fd [x] fn) (hb : BindsTo s₁ fd ⟨[.ref a], []⟩ [(x, .ref a)]) (law : ∃ S, fn [.lst (ns.map D.int)] [] = .ok (.bl true) S) :
    codeAny (model P w) callerA (.call (.ref fa) ⟨[.ref a], []⟩) (fun r s' => r = .ok (.ret (.bool true)) ∧ OldK s₁.heap s'.heap ∧ s'.os = s₁.os ∧ AllBare s'.gens) s₁ := by
  obtain ⟨S, hS⟩ := law
  have e0 : Env0 P w K mg (hidT s₁.heap (H_in K (cs.map (·.2)) a vs ns)) callerA [] s₁ (H_in K (cs.map (·.2)) a vs ns) := ⟨rfl, Y.mod, fun b o e => of_hidT e, Nat.le_of_eq (hidT_size _ _), trivial, fun b hb => (nomatch (show b ∈ ([] : List Addr) from hb)), Y.hok, .of_eq Y.gens⟩
  have tabs : Tabs T (H_in K (cs.map (·.2)) a vs ns) := fun y hy => TabS.nil (by unfold H_in; rw [if_pos (hT y hy)])
  refine codeAny_mono (F.run callerA [] s₁ _ ⟨[.ref a], []⟩ [.ref a] [.ref a] (fun v _ => v = .bl true) (fun _ _ _ => False) (fun _ => rfl) hr e0 hb (.cons rfl .nil)
    ⟨⟨[], []⟩, [.lst (ns.map D.int)], [], ⟨tabs, List.nodup_nil, fun _ z => (nomatch z), rfl, fun n b ds z => by simp at z⟩, ⟨.ref a, [], rfl, ⟨a, _, rfl, Y.sq, repL_script ns⟩, rfl⟩, by rw [hS]; exact fun v β' H' _ _ r => r⟩) fun r s' h => ?_
  match r, h with
  | .error e, h =>
    obtain ⟨_, _, _, _, _, _, _, _, _, _, _, _, z⟩ := h
    exact z.elim
  | .ok (.ret u), h =>
    obtain ⟨v, H', os, bare, un, hok', r', q⟩ := h
    cases (show v = V.bl true from q)
    cases (show u = Value.bool true from r')
    have none' : ∀ b : Addr, b ∉ ([] : List Addr) := fun b z => nomatch z
    have key : ∀ b o, b ∉ cs.map (·.2) → s₁.heap.get? b = some o → s'.heap.get? b = some o := fun b o nb e => by
      rcases hin_cases (K := K) (ts := cs.map (·.2)) (a := a) (vs := vs) (ns := ns) b with ⟨z, _⟩ | ⟨_, _, _, z⟩ | ⟨z, _⟩
      · exact absurd z nb
      · obtain ⟨e1, _⟩ := Y.hok b _ z
        obtain ⟨e2, _⟩ := hok' b _ (un.frzs b _ _ z)
        rw [e] at e1; cases e1; exact e2
      · exact un.keep b o e z (none' b) (none' b)
    have grown : ∀ b ∈ cs.map (·.2), ∃ more : Array Value, s'.heap.get? b = some { cls := .none, data := .fields more } := fun b hb => by
      obtain ⟨more, z⟩ := un.tbls b #[] (by unfold H_in; rw [if_pos hb])
      exact ⟨_, hok' b _ z⟩
    refine ⟨rfl, ⟨fun b o e => ?_, fun b o e => ?_⟩, os, bare⟩
    · by_cases hb : b ∈ cs.map (·.2)
      · obtain ⟨more, hm⟩ := grown b hb
        obtain ⟨p, hp, ep⟩ := List.mem_map.mp hb
        have e1 := (Y.tabs hb).1
        rw [e] at e1; cases e1
        have hc := ((Y.code p hp).tab (Y.tab p hp)).isCodeTable
        rw [ep] at hc
        exact .inr (.inl ⟨hc, rfl, #[], more, rfl, by rw [Array.empty_append]; exact hm⟩)
      · exact .inl (key b o hb e)
    · by_cases hb : b ∈ cs.map (·.2)
      · obtain ⟨more, hm⟩ := grown b hb
        exact ⟨_, hm⟩
      · exact ⟨o, key b o hb e⟩
end
/-- what the end must give: the tables, the def's promise over any base -/
def LawG (P : Program) (w : World) (K : PySem.W.Frag) (k : Nat) (y x : Str) (fn : FN) (mg : Str → Option Value) (h : Heap) : Prop :=
  ∃ (gd : Bool) (cs : List (Addr × Addr)) (T : List (Addr × Str)), (∀ y ∈ T, y.1 ∈ cs.map (·.2)) ∧ (∀ p ∈ cs, h.get? p.2 = some { cls := .none, data := .fields #[] }) ∧ (∀ p ∈ cs, K.lookup p.2 = none) ∧ (∀ p ∈ cs, PySem.W.CodeHd h p.1 p.2) ∧
    ∀ base : Heap, K.In base → base.Ns mainGlobals mg → (∀ p ∈ cs, TabB base mg p.1 p.2) → Callee P w K mg base T gd k y [x] fn
theorem law_walk {l : PySem.W.OpenLaw} {n k : Nat} {q : Program} {loose : List Str} {XP : (Str → Option Value) → Heap → Prop} {YP : World → Heap → Prop} {d : DefRec} {K : Params → PySem.W.Frag} {x : Str} {fn : FN}
    (hn : l.most = some n) (hn2 : n ≤ sizeLine) (hdf : d.params.defaults = []) (hr : Room k callerA) (hY : ∀ (w : World) (h : Heap), YP w h → (K w.params).In h)
    (F : ∀ (w : World) (mg mb : Str → Option Value) (mean : ExcName → Option Value) (h : Heap), YP w h → (K w.params).In h → h.Ns mainGlobals mg → Top q (PySem.W.looseW q loose) mean mg mb h → LawG l.prog w (K w.params) k d.name x fn mg h)
    (law : ∀ ns : List Int, ns.length ≤ n → (∀ z ∈ ns, Builtin.Int.intBits z ≤ 1048576) → ∃ S, fn [.lst (ns.map D.int)] [] = .ok (.bl true) S) :
    PySem.W.WalkO q loose XP YP l.row.toRowW d [] (fun f vs => PySem.call f vs) := by
  refine Att.attach_callB hn hdf fun w s₀ s₁ mg mb fa o pm cd doc a vs ns G Y ho hd hcd hmg hobj hints hlen hbits hg => ?_
  have KX := hY w _ Y
  obtain ⟨gd, cs, T, hT, h1, h2, h3, hF⟩ := F w mg mb _ _ Y KX G.T.g G.T
  have E : EntryAt l.prog w (K w.params) mg mb s₁ a vs ns cs := ⟨KX, G.T.g, G.T.b, G.T.builtins, G.T.nolimit, hg, h1, h2, h3, G.T.bmain, hobj, hints, Nat.le_trans hlen hn2⟩
  obtain ⟨f, fd, F', m1, _, B⟩ := (hF _ E.kin (E.nsAt E.g) E.tabB).ex
  cases (show some (Value.ref f) = some (Value.ref fa) from m1.symm.trans hmg)
  have b := B s₁ [.ref a] KX rfl
  rw [List.append_nil] at b
  exact law_run E hT hr F' b (law ns hlen hbits)

/-! ### facts of the written part -/
section
variable {P : Program} {K : PySem.W.Frag} {mg : Str → Option Value} {h : Heap}
theorem defIn_of {x : Str} {st : Stmt} {f : Addr} {oc kV dc pm cd ct : Value} {od an : Option Addr} {sl : Array (Option Value)} (X : K.In h) (G : h.Ns mainGlobals mg) (a : PySem.W.nsIn K mainGlobals x = some (some (.ref f)))
    (l : K.lookup f = some ⟨oc, od, .func (PySem.W.fnOf x x (defArgs st) (defBody st) (defScope st) .none kV dc pm an cd ct), sl⟩) (c : PySem.W.codeIn K cd x = true) (k : PySem.W.keepIn K (.ref f) = true) : DefIn K mg x st :=
  ⟨f, oc, od, kV, dc, pm, an, cd, ct, sl, PySem.W.mg_of X G a, l, c, k⟩
/-- u is d, seen in the written part -/
def cstIn (K : PySem.W.Frag) : Nat → Value → D → Bool
  | 0, _, _ => false
  | _ + 1, .none, .non => true
  | _ + 1, .bool b, .bl c => b == c
  | _ + 1, .int i _, .int j => decide (i = j)
  | _ + 1, .str x _, .str y => x == y
  | n + 1, .ref a, .tup ds => match K.lookup a with
    | some ⟨.type "tuple", _, .seq its _, _⟩ => decide (its.size ≤ 1000) && go n its.toList ds
    | _ => false
  | n + 1, .ref a, .lst ds => match K.lookup a with
    | some ⟨.type "list", none, .seq its _, _⟩ => decide (its.size ≤ 1000) && go n its.toList ds
    | _ => false
  | _, _, _ => false
where go : Nat → List Value → List D → Bool
  | _, [], [] => true
  | 0, _, _ => false
  | n + 1, u :: us, d :: ds => cstIn K n u d && go n us ds
  | _, _, _ => false
theorem cst_rep : ∀ n : Nat, (∀ (u : Value) (d : D), cstIn K n u d = true → ∃ v, RelV v u ∧ ∀ (T : List (Addr × Str)) (β : Bt) (H : Hp), Rep ⟨K, mg, T⟩ β H d v) ∧
    ∀ (us : List Value) (ds : List D), cstIn.go K n us ds = true → ∃ xs, Vals xs us ∧ ∀ (T : List (Addr × Str)) (β : Bt) (H : Hp), RepL ⟨K, mg, T⟩ β H ds xs := by
  intro n
  induction n with
  | zero =>
    refine ⟨fun u d e => by simp [cstIn] at e, fun us ds e => ?_⟩
    match us, ds, e with
    | [], [], _ => exact ⟨[], .nil, fun _ _ _ => rfl⟩
    | [], d :: ds, e => simp [cstIn.go] at e
    | u :: us, [], e => simp [cstIn.go] at e
    | u :: us, d :: ds, e => simp [cstIn.go] at e
  | succ n ih =>
    refine ⟨fun u d e => ?_, fun us ds e => ?_⟩
    · unfold cstIn at e
      split at e
      · cases e
      · exact ⟨.non, rfl, fun _ _ _ => rfl⟩
      · exact ⟨.bl _, rfl, fun _ _ _ => by rw [beq_iff_eq.mp e]; rfl⟩
      · exact ⟨.int _, ⟨_, rfl⟩, fun _ _ _ => by rw [of_decide_eq_true e]; rfl⟩
      · exact ⟨.str _, ⟨_, rfl⟩, fun _ _ _ => by rw [beq_iff_eq.mp e]; rfl⟩
      · rename_i m a ds hm
        cases hm
        split at e
        · rename_i _ dd its nn sl hk
          rw [Bool.and_eq_true] at e
          obtain ⟨xs, r1, r2⟩ := ih.2 its.toList ds e.2
          have hz : its.size ≤ sizeLine := by rw [sizeLine_eq]; have := of_decide_eq_true e.1; omega
          exact ⟨.ref a, rfl, fun T β H => ⟨a, xs, rfl, .inr ⟨_, its, nn, hk, rfl, rfl, hz, r1⟩, r2 T β H⟩⟩
        · cases e
      · rename_i m a ds hm
        cases hm
        split at e
        · rename_i _ its nn sl hk
          rw [Bool.and_eq_true] at e
          obtain ⟨xs, r1, r2⟩ := ih.2 its.toList ds e.2
          have hz : its.size ≤ sizeLine := by rw [sizeLine_eq]; have := of_decide_eq_true e.1; omega
          exact ⟨.ref a, rfl, fun T β H => ⟨a, xs, rfl, .inr (.inr ⟨_, its, nn, hk, rfl, rfl, rfl, hz, r1⟩), r2 T β H⟩⟩
        · cases e
      · cases e
    · match us, ds, e with
      | [], [], _ => exact ⟨[], .nil, fun _ _ _ => rfl⟩
      | [], d :: ds, e => simp [cstIn.go] at e
      | u :: us, [], e => simp [cstIn.go] at e
      | u :: us, d :: ds, e =>
        simp only [cstIn.go, Bool.and_eq_true] at e
        obtain ⟨v, a1, a2⟩ := ih.1 u d e.1
        obtain ⟨xs, b1, b2⟩ := ih.2 us ds e.2
        exact ⟨v :: xs, .cons a1 b1, fun T β H => ⟨v, xs, rfl, a2 T β H, b2 T β H⟩⟩
theorem cst_of {x : Str} {u : Value} {d : D} {n : Nat} (X : K.In h) (G : h.Ns mainGlobals mg) (a : PySem.W.nsIn K mainGlobals x = some (some u)) (e : cstIn K n u d = true) : Cst K mg x d := by
  obtain ⟨v, r1, r2⟩ := (cst_rep (K := K) (mg := mg) n).1 u d e
  exact ⟨u, v, PySem.W.mg_of X G a, r1, r2⟩
end
end DL


set_option linter.all false
set_option autoImplicit false
set_option Elab.async false
set_option maxRecDepth 100000
set_option maxHeartbeats 2000000
/-! DLe8: the facts of the written part about the error classes, the hearing, the tables. -/
namespace DL
open PySem PySem.Spec L2 LamX
open PyProof.Rows hiding St b2i
section
variable {p : Program} {K : PySem.W.Frag} {mg : Str → Option Value} {h : Heap}
/-- an error class, looked up -/
structure ArmK (p : Program) (K : PySem.W.Frag) (c : Str) (C D fI : Addr) : Prop where
  aC : PySem.W.nsIn K mainGlobals c = some (some (.ref C))
  aD : PySem.W.nsIn K mainGlobals "ArmError" = some (some (.ref D))
  arm : ArmX.ArmAt p K C D fI
open PySem.W in
theorem arm_mk {c : Str} {C D fI N cda cc : Addr} {nm q : Str} {bs bm sub : List Value} {sn : List Str} {ab : Bool} {col : Option Bool} {dd od an cdd cld : Option Addr} {k0 k1 k2 k3 k5 : Option Value} {oc kV doc pm ct ccl cl : Value} {osl ccs csl : Array (Option Value)} {vs : Array Value} {file : Str} {tf : Tok}
    (X : K.In h) (aC : nsIn K mainGlobals c = some (some (.ref C))) (aD : nsIn K mainGlobals "ArmError" = some (some (.ref D)))
    (xL : K.lookup C = some (excClassObj nm q C N bs bm true sn sub ab col dd k0 k1 k2 k3 k5 "ValueError.__new__")) (hb : HandSPX.refsVE bm = true)
    (sa : findIn K (.ref C) "__setattr__" = some (some (.builtin "object.__setattr__"))) (ga : findIn K (.ref C) "__getattribute__" = some (some (.builtin "BaseException.__getattribute__"))) (gg : findIn K (.ref C) "__getattr__" = some none) (noN : findIn K (.ref C) "value" = some none)
    (iC : findIn K (.ref C) "__init__" = some (some (.ref fI))) (tC : typeIn K (.ref fI) = some (.type "function")) (kC : keepIn K (.ref C) = true) (exC : subIn K (.ref C) (.type "BaseException") = some true) (vC : subIn K (.ref C) (.type "ValueError") = some true)
    (tyC : typeIn K (.ref C) = some (.type "type")) (hdC : hasDictIn K C = true) (clD : (clsIn K D).isSome = true) (mD : mroIn K C (.ref D) = some true) (sm : ks_superIn K C D "__init__" = some (some (.builtin "ValueError.__init__")))
    (ca : findIn K (.ref C) "__class__" = some (some (.builtin "object.__class__"))) (cn : specialIn K (.builtin "object.__class__") "__get__" = some (some (.builtin "getset_descriptor.__get__"))) (ctk : takesIn K (.builtin "object.__class__") = some true) (cm : mroIn K C (.type "object") = some true)
    (th : nsIn K cStatics "thirdparty.any" = some none)
    (lf : K.lookup fI = some ⟨oc, od, .func (ksFn "__init__" "ArmError.__init__" ArmX.armArgs ArmX.armBody ArmX.armScope .none kV doc pm an (.ref cda) ct cc), osl⟩) (hcd : codeIn K (.ref cda) "ArmError.__init__" = true)
    (lc : K.lookup cda = some ⟨ccl, cdd, .fields vs, ccs⟩) (hv : vs[2]? = some (.str file tf)) (hf : ((p.main.file : Str) == file) = true) (le : K.lookup cc = some ⟨cl, cld, .cell (some (.ref D)), csl⟩) (top : (p.main.scope.names.lookup ("super" : Str)).isSome = false) : ArmK p K c C D fI :=
  ⟨aC, aD, ⟨⟨nm, q, N, bs, bm, sn, sub, ab, col, dd, k0, k1, k2, k3, k5, xL, hb⟩, sa, ga, gg, noN, iC, tC, kC, exC, vC, tyC, hdC, Option.isSome_iff_exists.mp clD, mD, sm, ca, cn, ctk, cm, th,
    ⟨oc, od, kV, doc, pm, an, cda, cc, ct, osl, vs, file, tf, ccl, cl, cdd, cld, ccs, csl, lf, hcd, lc, hv, hf, le⟩, top⟩⟩
abbrev DefOf {K : PySem.W.Frag} {h : Heap} (_ : K.In h) (mg : Str → Option Value) (x : Str) (st : Stmt) : Prop := DefIn K mg x st
abbrev CstOf {K : PySem.W.Frag} {h : Heap} (_ : K.In h) (mg : Str → Option Value) (x : Str) (d : D) : Prop := Cst K mg x d
abbrev ArmOf {K : PySem.W.Frag} {h : Heap} (_ : K.In h) (p : Program) (c : Str) : Prop := ∃ C D fI, ArmK p K c C D fI
abbrev ExcOf {K : PySem.W.Frag} {h : Heap} (_ : K.In h) (mg : Str → Option Value) (p : Program) (c : Str) : Prop := ExcAt p K mg c
abbrev SubOf {K : PySem.W.Frag} {h : Heap} (_ : K.In h) (mg : Str → Option Value) (p : Program) (sub : Str → Str → Option Bool) : Prop := SubAt p K mg sub
abbrev HeardOf {K : PySem.W.Frag} {h : Heap} (_ : K.In h) (mg : Str → Option Value) : Prop := HeardAt K mg
theorem exc_mk {c : Str} (X : K.In h) (G : h.Ns mainGlobals mg) (A : ArmOf X p c) (z : PySem.W.nsIn K mainGlobals "super" = some none) : ExcAt p K mg c := by
  obtain ⟨C, D, fI, A⟩ := A
  exact ⟨⟨C, D, fI, PySem.W.mg_of X G A.aC, A.arm⟩, PySem.W.mg_none_of X G z⟩
theorem sub_mk {c c' : Str} {C C' : Addr} {b : Bool} (X : K.In h) (G : h.Ns mainGlobals mg) (A : ArmOf X p c) (a1 : PySem.W.nsIn K mainGlobals c = some (some (.ref C))) (a : PySem.W.nsIn K mainGlobals c' = some (some (.ref C'))) (k : PySem.W.kitOne K (.ref C) (.ref C') = some b) (e : PySem.W.exmOne K (.ref C) (.ref C') = some b) :
    ∃ C C' D fI, mg c = some (.ref C) ∧ mg c' = some (.ref C') ∧ ArmX.ArmAt p K C D fI ∧ PySem.W.kitOne K (.ref C) (.ref C') = some b ∧ PySem.W.exmOne K (.ref C) (.ref C') = some b := by
  obtain ⟨C1, D, fI, A⟩ := A
  cases (show some (some (Value.ref C)) = some (some (Value.ref C1)) from a1.symm.trans A.aC)
  exact ⟨C, C', D, fI, PySem.W.mg_of X G a1, PySem.W.mg_of X G a, A.arm, k, e⟩
theorem cls_mk {c : Str} {C : Addr} (X : K.In h) (G : h.Ns mainGlobals mg) (a : PySem.W.nsIn K mainGlobals c = some (some (.ref C))) : ∃ C, mg c = some (.ref C) := ⟨C, PySem.W.mg_of X G a⟩
theorem heard_mk {f D : Addr} {oc kV dc pm cd ct : Value} {od an : Option Addr} {sl : Array (Option Value)} {pg : Arguments} {q1 q2 q3 q4 q5 q6 q7 q8 q9 q10 q11 q12 q13 q14 q15 q16 q17 q18 q19 q20 q21 : Pos} (X : K.In h) (G : h.Ns mainGlobals mg)
    (a : PySem.W.nsIn K mainGlobals "_law_heard" = some (some (.ref f))) (aD : PySem.W.nsIn K mainGlobals "ArmError" = some (some (.ref D)))
    (l : K.lookup f = some ⟨oc, od, .func (PySem.W.fnOf "_law_heard" "_law_heard" pg (hdBody q1 q2 q3 q4 q5 q6 q7 q8 q9 q10 q11 q12 q13 q14 q15 q16 q17 q18 q19 q20 q21) hdScope .none kV dc pm an cd ct), sl⟩) (c : PySem.W.codeIn K cd "_law_heard" = true) (k : PySem.W.keepIn K (.ref f) = true)
    (b : ∀ us : List Value, us.length = 1 → bindArgs (PySem.W.fnOf "_law_heard" "_law_heard" pg (hdBody q1 q2 q3 q4 q5 q6 q7 q8 q9 q10 q11 q12 q13 q14 q15 q16 q17 q18 q19 q20 q21) hdScope .none kV dc pm an cd ct) ⟨us, []⟩ = pure ((["call"] : List Str).zip us))
    (hw : ∀ (Z1 Z2 : Addr) (Z3 : Value), swappedStores [.Tuple [.Name "caught" q1, .Name "gave" q2] 0 q3] (.Tuple [.Constant .none 0 q4, .Constant .none 0 q5] 0 q6) (envOfC "_law_heard" hdScope Z1 Z2 Z3) = pure none) : HeardAt K mg :=
  ⟨f, D, oc, od, kV, dc, pm, an, cd, ct, sl, pg, q1, q2, q3, q4, q5, q6, q7, q8, q9, q10, q11, q12, q13, q14, q15, q16, q17, q18, q19, q20, q21, PySem.W.mg_of X G a, PySem.W.mg_of X G aD, k, c, l, .all b, hw⟩
/-- a def with a lambda; its code object at c, its table at q -/
structure LamK (K : PySem.W.Frag) (mg : Str → Option Value) (x : Str) (st : Stmt) (c q : Addr) : Prop where
  ex : ∃ (f : Addr) (oc : Value) (od : Option Addr) (kV doc pm : Value) (an : Option Addr) (ct : Value) (osl : Array (Option Value)),
    mg x = some (.ref f) ∧ K.lookup f = some ⟨oc, od, .func (PySem.W.fnOf x x (defArgs st) (defBody st) (defScope st) .none kV doc pm an (.ref c) ct), osl⟩ ∧ PySem.W.codeIn K (.ref c) x = true ∧ PySem.W.keepIn K (.ref f) = true
theorem lamK_of {x : Str} {st : Stmt} {f c q : Addr} {oc kV dc pm ct : Value} {od an : Option Addr} {sl : Array (Option Value)} (X : K.In h) (G : h.Ns mainGlobals mg) (a : PySem.W.nsIn K mainGlobals x = some (some (.ref f)))
    (l : K.lookup f = some ⟨oc, od, .func (PySem.W.fnOf x x (defArgs st) (defBody st) (defScope st) .none kV dc pm an (.ref c) ct), sl⟩) (cI : PySem.W.codeIn K (.ref c) x = true) (k : PySem.W.keepIn K (.ref f) = true) : LamK K mg x st c q :=
  ⟨f, oc, od, kV, dc, pm, an, ct, sl, PySem.W.mg_of X G a, l, cI, k⟩
theorem LamK.def {x : Str} {st : Stmt} {c q : Addr} {base : Heap} {T : List (Addr × Str)} (L : LamK K mg x st c q) (TB : TabB base mg c q) (hm : (q, x ++ ".<locals>." ++ "<lambda>") ∈ T) (hu : ∀ y ∈ T, y.1 = q → y.2 = x ++ ".<locals>." ++ "<lambda>") : DefInL K mg base T x st := by
  obtain ⟨f, oc, od, kV, doc, pm, an, ct, osl, h1, h2, h3, h4⟩ := L.ex
  exact ⟨f, oc, od, kV, doc, pm, an, .ref c, ct, osl, h1, h2, h3, h4, c, q, rfl, TB, hm, hu⟩
/-- .. with its table, outside of the written part -/
structure LamE (K : PySem.W.Frag) (mg : Str → Option Value) (h : Heap) (x : Str) (st : Stmt) : Prop where
  ex : ∃ c q, LamK K mg x st c q ∧ PySem.W.codeHdIn K c q = true ∧ K.lookup q = none ∧ h.get? q = some { cls := .none, data := .fields #[] }
abbrev LamOf {K : PySem.W.Frag} {h : Heap} (_ : K.In h) (mg : Str → Option Value) (x : Str) (st : Stmt) : Prop := LamE K mg h x st
theorem lamE_mk {x : Str} {st : Stmt} {f c q : Addr} {oc kV dc pm ct : Value} {od an : Option Addr} {sl : Array (Option Value)} (X : K.In h) (G : h.Ns mainGlobals mg) (a : PySem.W.nsIn K mainGlobals x = some (some (.ref f)))
    (l : K.lookup f = some ⟨oc, od, .func (PySem.W.fnOf x x (defArgs st) (defBody st) (defScope st) .none kV dc pm an (.ref c) ct), sl⟩) (cI : PySem.W.codeIn K (.ref c) x = true) (k : PySem.W.keepIn K (.ref f) = true)
    (t : PySem.W.tabIn K x = some (c, q)) (d : PySem.W.codeHdIn K c q = true) (n : K.lookup q = none) (b : h.get? q = some { cls := .none, data := .fields #[] }) : LamE K mg h x st :=
  ⟨c, q, lamK_of X G a l cI k, d, n, b⟩
end
end DL


set_option linter.all false
set_option autoImplicit false
/-! the mirror of elbowsexactly_k45_whole_simplest_fractio, printed by gen.py -/
namespace K45
open PySem DL
def k_MOST : D := .int 1000000
def k_ONE : D := .tup [.int 1, .int 1]
def k_ZERO : D := .tup [.int 0, .int 1]
def sub0 (c c' : Str) : Option Bool := if c = "BadFraction" ∧ c' = "BadFraction" then some true else if c = "BadFraction" ∧ c' = "ArmError" then some true else if c = "BadFraction" ∧ c' = "BadInt" then some false else if c = "BadInt" ∧ c' = "BadInt" then some true else if c = "BadInt" ∧ c' = "ArmError" then some true else if c = "BadInt" ∧ c' = "BadFraction" then some false else none
noncomputable def m_is_whole : SF := sRet (eAnd (eCall (fIsi sub0) (aCons (eVar 0) (aCons (eC (.ty "int")) (aNil)))) (eNot (eCall (fIsi sub0) (aCons (eVar 0) (aCons (eC (.ty "bool")) (aNil))))))
noncomputable def f_is_whole : FN := mkFn 1 1 m_is_whole
noncomputable def m_common : SF := sSeq (sPar 0 1 (aCons (eCall fAbs (aCons (eVar 0) (aNil))) (aCons (eCall fAbs (aCons (eVar 1) (aNil))) (aNil)))) (sSeq (sWhile (tOf (eBin dNe (eVar 1) (eC (.int 0)))) (sPar 0 1 (aCons (eVar 1) (aCons (eBin dMod (eVar 0) (eVar 1)) (aNil))))) (sRet (eVar 0)))
noncomputable def f_common : FN := mkFn 2 2 m_common
noncomputable def m_rate : SF := sSeq (sSet 2 (eCall f_common (aCons (eVar 0) (aCons (eVar 1) (aNil))))) (sSeq (sIf (tOf (eBin dLt (eVar 1) (eC (.int 0)))) (sSet 2 (eUn dNeg (eVar 2))) (sNil)) (sRet (eTup (aCons (eBin dDiv (eVar 0) (eVar 2)) (aCons (eBin dDiv (eVar 1) (eVar 2)) (aNil))))))
noncomputable def f_rate : FN := mkFn 2 3 m_rate
noncomputable def m_is_lowest : SF := sSeq (sIf (DL.tOr (DL.tNot (tTru (eCall (fIsi sub0) (aCons (eVar 0) (aCons (eC (.ty "tuple")) (aNil)))))) (DL.tOr (tOf (eBin dNe (eCall fLen (aCons (eVar 0) (aNil))) (eC (.int 2)))) (DL.tOr (DL.tNot (tTru (eCall f_is_whole (aCons (eBin dIx (eVar 0) (eC (.int 0))) (aNil))))) (DL.tNot (tTru (eCall f_is_whole (aCons (eBin dIx (eVar 0) (eC (.int 1))) (aNil)))))))) (sRet (eC (.bl false))) (sNil)) (sRet (eAnd (eBin dGt (eBin dIx (eVar 0) (eC (.int 1))) (eC (.int 0))) (eBin dEq (eCall f_common (aCons (eBin dIx (eVar 0) (eC (.int 0))) (aCons (eBin dIx (eVar 0) (eC (.int 1))) (aNil)))) (eC (.int 1)))))
noncomputable def f_is_lowest : FN := mkFn 1 1 m_is_lowest
noncomputable def m_is_fraction : SF := sRet (eAnd (eCall f_is_lowest (aCons (eVar 0) (aNil))) (eAnd (eChain dLe dLe (eUn dNeg (eC k_MOST)) (eBin dIx (eVar 0) (eC (.int 0))) (eC k_MOST)) (eBin dLe (eBin dIx (eVar 0) (eC (.int 1))) (eC k_MOST))))
noncomputable def f_is_fraction : FN := mkFn 1 1 m_is_fraction
noncomputable def m_look_at_fraction : SF := sIf (DL.tNot (tTru (eCall f_is_fraction (aCons (eVar 0) (aNil))))) (sRaise "BadFraction" (eVar 0)) (sNil)
noncomputable def f_look_at_fraction : FN := mkFn 1 1 m_look_at_fraction
noncomputable def m_plus : SF := sRet (eCall f_rate (aCons (eBin dAdd (eBin dMul (eBin dIx (eVar 0) (eC (.int 0))) (eBin dIx (eVar 1) (eC (.int 1)))) (eBin dMul (eBin dIx (eVar 1) (eC (.int 0))) (eBin dIx (eVar 0) (eC (.int 1))))) (aCons (eBin dMul (eBin dIx (eVar 0) (eC (.int 1))) (eBin dIx (eVar 1) (eC (.int 1)))) (aNil))))
noncomputable def f_plus : FN := mkFn 2 2 m_plus
noncomputable def m_less : SF := sRet (eCall f_rate (aCons (eBin dSub (eBin dMul (eBin dIx (eVar 0) (eC (.int 0))) (eBin dIx (eVar 1) (eC (.int 1)))) (eBin dMul (eBin dIx (eVar 1) (eC (.int 0))) (eBin dIx (eVar 0) (eC (.int 1))))) (aCons (eBin dMul (eBin dIx (eVar 0) (eC (.int 1))) (eBin dIx (eVar 1) (eC (.int 1)))) (aNil))))
noncomputable def f_less : FN := mkFn 2 2 m_less
noncomputable def m_over : SF := sRet (eCall f_rate (aCons (eBin dMul (eBin dIx (eVar 0) (eC (.int 0))) (eBin dIx (eVar 1) (eC (.int 1)))) (aCons (eBin dMul (eBin dIx (eVar 0) (eC (.int 1))) (eBin dIx (eVar 1) (eC (.int 0)))) (aNil))))
noncomputable def f_over : FN := mkFn 2 2 m_over
noncomputable def m_turned_sign : SF := sRet (eTup (aCons (eUn dNeg (eBin dIx (eVar 0) (eC (.int 0)))) (aCons (eBin dIx (eVar 0) (eC (.int 1))) (aNil))))
noncomputable def f_turned_sign : FN := mkFn 1 1 m_turned_sign
noncomputable def m_sign_of : SF := sRet (eBin dSubB (eBin dGt (eBin dIx (eVar 0) (eC (.int 0))) (eC (.int 0))) (eBin dLt (eBin dIx (eVar 0) (eC (.int 0))) (eC (.int 0))))
noncomputable def f_sign_of : FN := mkFn 1 1 m_sign_of
noncomputable def m_is_less : SF := sRet (eBin dLt (eBin dMul (eBin dIx (eVar 0) (eC (.int 0))) (eBin dIx (eVar 1) (eC (.int 1)))) (eBin dMul (eBin dIx (eVar 1) (eC (.int 0))) (eBin dIx (eVar 0) (eC (.int 1)))))
noncomputable def f_is_less : FN := mkFn 2 2 m_is_less
noncomputable def m_added : SF := sSeq (sExpr (eCall f_look_at_fraction (aCons (eVar 0) (aNil)))) (sSeq (sExpr (eCall f_look_at_fraction (aCons (eVar 1) (aNil)))) (sRet (eCall f_plus (aCons (eVar 0) (aCons (eVar 1) (aNil))))))
noncomputable def f_added : FN := mkFn 2 2 m_added
noncomputable def m_does_come_ahead : SF := sSeq (sExpr (eCall f_look_at_fraction (aCons (eVar 0) (aNil)))) (sSeq (sExpr (eCall f_look_at_fraction (aCons (eVar 1) (aNil)))) (sRet (eCall f_is_less (aCons (eVar 0) (aCons (eVar 1) (aNil))))))
noncomputable def f_does_come_ahead : FN := mkFn 2 2 m_does_come_ahead
noncomputable def q_told_between_1 : SF := sAsg (gTupD (gsCons (gSet 2) (gsCons (gSet 3) (gsCons (gSet 4) (gsCons (gSet 5) (gsNil)))))) (eTup (aCons (eNew (aNil)) (aCons (eVar 0) (aCons (eVar 1) (aCons (eC .non) (aNil))))))
noncomputable def q_told_between_2_1 : SF := sSet 6 (eBin dDiv (eBin dIx (eVar 3) (eC (.int 0))) (eBin dIx (eVar 3) (eC (.int 1))))
noncomputable def q_told_between_2_2 : SF := sSet 7 (eTup (aCons (eCall f_less (aCons (eVar 3) (aCons (eTup (aCons (eVar 6) (aCons (eC (.int 1)) (aNil)))) (aNil)))) (aCons (eCall f_less (aCons (eVar 4) (aCons (eTup (aCons (eVar 6) (aCons (eC (.int 1)) (aNil)))) (aNil)))) (aNil))))
noncomputable def q_told_between_2_3a_1 : SF := sSet 5 (eTup (aCons (eBin dAdd (eVar 6) (eC (.int 1))) (aCons (eC (.int 1)) (aNil))))
noncomputable def q_told_between_2_3b_1a_1 : SF := sSet 5 (eCall f_plus (aCons (eTup (aCons (eVar 6) (aCons (eC (.int 1)) (aNil)))) (aCons (eTup (aCons (eC (.int 1)) (aCons (eBin dAdd (eBin dDiv (eBin dIx (eBin dIx (eVar 7) (eC (.int 1))) (eC (.int 1))) (eBin dIx (eBin dIx (eVar 7) (eC (.int 1))) (eC (.int 0)))) (eC (.int 1))) (aNil)))) (aNil))))
noncomputable def q_told_between_2_3b_1b_2 : SF := sPar 3 4 (aCons (eCall f_over (aCons (eC k_ONE) (aCons (eBin dIx (eVar 7) (eC (.int 1))) (aNil)))) (aCons (eCall f_over (aCons (eC k_ONE) (aCons (eBin dIx (eVar 7) (eC (.int 0))) (aNil)))) (aNil)))
noncomputable def q_told_between_2_3b_1 : SF := sIf (tOf (eBin dEq (eBin dIx (eBin dIx (eVar 7) (eC (.int 0))) (eC (.int 0))) (eC (.int 0)))) (q_told_between_2_3b_1a_1) (sSeq (sExpr (eAppend (eVar 2) (eVar 6))) (q_told_between_2_3b_1b_2))
noncomputable def q_told_between_2_3 : SF := sIf (tTru (eCall f_is_less (aCons (eC k_ONE) (aCons (eBin dIx (eVar 7) (eC (.int 1))) (aNil))))) (q_told_between_2_3a_1) (q_told_between_2_3b_1)
noncomputable def q_told_between_2B : SF := sSeq (q_told_between_2_1) (sSeq (q_told_between_2_2) (q_told_between_2_3))
noncomputable def q_told_between_2 : SF := sWhile (tOf (eBin dIsN (eVar 5) (eC .non))) (q_told_between_2B)
noncomputable def q_told_between_3_1 : SF := sSet 5 (eCall f_plus (aCons (eTup (aCons (eVar 6) (aCons (eC (.int 1)) (aNil)))) (aCons (eCall f_over (aCons (eC k_ONE) (aCons (eVar 5) (aNil)))) (aNil))))
noncomputable def q_told_between_3B : SF := q_told_between_3_1
noncomputable def m_told_between : SF := sSeq (q_told_between_1) (sSeq (q_told_between_2) (sSeq (sFor (wLst (eRev (eVar 2))) (gSet 6) (q_told_between_3B)) (sRet (eVar 5))))
noncomputable def f_told_between : FN := drop (mkFn 2 8 m_told_between)
noncomputable def q_simplest_between_3 : SF := sIf (DL.tNot (tTru (eCall f_is_less (aCons (eVar 0) (aCons (eVar 1) (aNil)))))) (sRaise "BadFraction" (eVar 1)) (sNil)
noncomputable def q_simplest_between_4 : SF := sIf (tOf (eChain dLt dLt (eCall f_sign_of (aCons (eVar 0) (aNil))) (eC (.int 0)) (eCall f_sign_of (aCons (eVar 1) (aNil))))) (sRet (eC k_ZERO)) (sNil)
noncomputable def q_simplest_between_5a_1 : SF := sRet (eCall f_turned_sign (aCons (eCall f_told_between (aCons (eCall f_turned_sign (aCons (eVar 1) (aNil))) (aCons (eCall f_turned_sign (aCons (eVar 0) (aNil))) (aNil)))) (aNil)))
noncomputable def q_simplest_between_5 : SF := sIf (tOf (eBin dLe (eCall f_sign_of (aCons (eVar 1) (aNil))) (eC (.int 0)))) (q_simplest_between_5a_1) (sNil)
noncomputable def q_simplest_between_6 : SF := sRet (eCall f_told_between (aCons (eVar 0) (aCons (eVar 1) (aNil))))
noncomputable def m_simplest_between : SF := sSeq (sExpr (eCall f_look_at_fraction (aCons (eVar 0) (aNil)))) (sSeq (sExpr (eCall f_look_at_fraction (aCons (eVar 1) (aNil)))) (sSeq (q_simplest_between_3) (sSeq (q_simplest_between_4) (sSeq (q_simplest_between_5) (q_simplest_between_6)))))
noncomputable def f_simplest_between : FN := mkFn 2 2 m_simplest_between
noncomputable def m_nearest_with : SF := sSeq (sExpr (eCall f_look_at_fraction (aCons (eVar 0) (aNil)))) (sSeq (sIf (DL.tOr (DL.tNot (tTru (eCall f_is_whole (aCons (eVar 1) (aNil))))) (DL.tNot (tOf (eChain dLe dLe (eC (.int 1)) (eVar 1) (eC k_MOST))))) (sRaise "BadInt" (eVar 1)) (sNil)) (sRet (eCall f_rate (aCons (eBin dDiv (eBin dMul (eBin dIx (eVar 0) (eC (.int 0))) (eVar 1)) (eBin dIx (eVar 0) (eC (.int 1)))) (aCons (eVar 1) (aNil))))))
noncomputable def f_nearest_with : FN := mkFn 2 2 m_nearest_with
noncomputable def m_law_pot : SF := sSeq (sSet 2 (eIf (tOf (eBin dLt (eVar 1) (eCall fLen (aCons (eVar 0) (aNil))))) (eBin dIx (eVar 0) (eVar 1)) (eBin dAdd (eBin dAdd (eBin dMod (eCall fInt (aCons (eCall fSum (aCons (eCut (eVar 0) (oNone) (oSome (eC (.int 1)))) (aNil))) (aNil))) (eC (.int 1000211))) (eBin dMul (eC (.int 4639)) (eVar 1))) (eC (.int 3163))))) (sSeq (sSet 3 (eBin dMul (eBin dMod (eCall fInt (aCons (eCall fAbs (aCons (eVar 2) (aNil))) (aNil))) (eBin dPow (eBin dPow (eC (.int 10)) (eC (.int 60))) (eC (.int 5)))) (eCall fInt (aCons (eBin dGe (eCall fAbs (aCons (eVar 2) (aNil))) (eBin dPow (eC (.int 10)) (eC (.int 18)))) (aNil))))) (sSeq (sSet 4 (eBin dMod (eCall fInt (aCons (eVar 2) (aNil))) (eC (.int 2305843009213693951)))) (sRet (eNew (aCons (eVar 3) (aCons (eBin dMod (eCall fInt (aCons (eBin dAdd (eBin dAdd (eBin dMul (eVar 4) (eC (.int 72161))) (eBin dMul (eBin dMul (eC (.int 10853)) (eVar 1)) (eVar 1))) (eC (.int 2843))) (aNil))) (eC (.int 2305843009213693921))) (aCons (eC (.int 0)) (aNil))))))))
noncomputable def f_law_pot : FN := mkFn 2 5 m_law_pot
noncomputable def m_law_take : SF := sSeq (sIf (tOf (eBin dGt (eBin dIx (eVar 0) (eC (.int 0))) (eC (.int 0)))) (sSeq (sSet 4 (eBin dMod (eCall fInt (aCons (eBin dIx (eVar 0) (eC (.int 0))) (aNil))) (eVar 1))) (sSeq (sSub (eVar 0) (eC (.int 0)) (eBin dDiv (eBin dIx (eVar 0) (eC (.int 0))) (eVar 1))) (sRet (eVar 4)))) (sNil)) (sSeq (sSub (eVar 0) (eC (.int 2)) (eBin dAdd (eBin dIx (eVar 0) (eC (.int 2))) (eC (.int 1)))) (sSeq (sSet 2 (eBin dIx (eLst (aCons (eC (.int 2147483647)) (aCons (eC (.int 2147483629)) (aCons (eC (.int 2147483587)) (aCons (eC (.int 2147483579)) (aCons (eC (.int 2147483563)) (aNil))))))) (eBin dMod (eCall fInt (aCons (eBin dIx (eVar 0) (eC (.int 2))) (aNil))) (eC (.int 5))))) (sSeq (sSet 3 (eBin dMod (eCall fInt (aCons (eBin dPow (eCall fInt (aCons (eBin dAdd (eBin dAdd (eBin dIx (eVar 0) (eC (.int 1))) (eBin dMul (eBin dMul (eC (.int 95257)) (eBin dIx (eVar 0) (eC (.int 2)))) (eBin dIx (eVar 0) (eC (.int 2))))) (eC (.int 3163))) (aNil))) (eC (.int 3))) (aNil))) (eVar 2))) (sSeq (sSet 3 (eBin dMod (eCall fInt (aCons (eBin dMul (eVar 3) (eBin dAdd (eBin dMod (eCall fInt (aCons (eVar 3) (aNil))) (eC (.int 13441))) (eBin dMul (eC (.int 419)) (eBin dIx (eVar 0) (eC (.int 2)))))) (aNil))) (eC (.int 2305843009213693907)))) (sRet (eBin dMod (eCall fInt (aCons (eBin dDiv (eVar 3) (eC (.int 229))) (aNil))) (eVar 1)))))))
noncomputable def f_law_take : FN := mkFn 2 5 m_law_take
noncomputable def m_law_of : SF := sRet (eBin dIx (eVar 1) (eCall f_law_take (aCons (eVar 0) (aCons (eCall fLen (aCons (eVar 1) (aNil))) (aNil)))))
noncomputable def f_law_of : FN := mkFn 2 2 m_law_of
noncomputable def m_law_cells : SF := sRet (eListRg (fRange1 (aCons (eCall fMax (aCons (eC (.int 1)) (aCons (eCall fMin (aCons (eVar 1) (aCons (eCall fLen (aCons (eVar 0) (aNil))) (aNil)))) (aNil)))) aNil)))
noncomputable def f_law_cells : FN := mkFn 2 2 m_law_cells
noncomputable def m_law_is_int : SF := sRet (eAnd (eCall (fIsi sub0) (aCons (eVar 0) (aCons (eC (.ty "int")) (aNil)))) (eAnd (eNot (eCall (fIsi sub0) (aCons (eVar 0) (aCons (eC (.ty "bool")) (aNil))))) (eChain dLe dLe (eVar 1) (eVar 0) (eVar 2))))
noncomputable def f_law_is_int : FN := mkFn 3 3 m_law_is_int
noncomputable def m_law_is_bool : SF := sRet (eAnd (eCall (fIsi sub0) (aCons (eVar 0) (aCons (eC (.ty "bool")) (aNil)))) (eBin dEq (eVar 0) (eVar 1)))
noncomputable def f_law_is_bool : FN := mkFn 2 2 m_law_is_bool
noncomputable def m_law_gcd : SF := sSeq (sPar 0 1 (aCons (eCall fAbs (aCons (eVar 0) (aNil))) (aCons (eCall fAbs (aCons (eVar 1) (aNil))) (aNil)))) (sSeq (sWhile (tOf (eBin dNe (eVar 1) (eC (.int 0)))) (sPar 0 1 (aCons (eVar 1) (aCons (eBin dMod (eVar 0) (eVar 1)) (aNil))))) (sRet (eVar 0)))
noncomputable def f_law_gcd : FN := mkFn 2 2 m_law_gcd
noncomputable def m_law_rate : SF := sSeq (sSet 2 (eBin dMul (eCall f_law_gcd (aCons (eVar 0) (aCons (eVar 1) (aNil)))) (eIf (tOf (eBin dGt (eVar 1) (eC (.int 0)))) (eC (.int 1)) (eUn dNeg (eC (.int 1)))))) (sRet (eTup (aCons (eBin dDiv (eVar 0) (eVar 2)) (aCons (eBin dDiv (eVar 1) (eVar 2)) (aNil)))))
noncomputable def f_law_rate : FN := mkFn 2 3 m_law_rate
noncomputable def m_law_plus : SF := sRet (eCall f_law_rate (aCons (eBin dAdd (eBin dMul (eBin dIx (eVar 0) (eC (.int 0))) (eBin dIx (eVar 1) (eC (.int 1)))) (eBin dMul (eBin dIx (eVar 1) (eC (.int 0))) (eBin dIx (eVar 0) (eC (.int 1))))) (aCons (eBin dMul (eBin dIx (eVar 0) (eC (.int 1))) (eBin dIx (eVar 1) (eC (.int 1)))) (aNil))))
noncomputable def f_law_plus : FN := mkFn 2 2 m_law_plus
noncomputable def m_law_is_below : SF := sRet (eBin dLt (eBin dMul (eBin dIx (eVar 0) (eC (.int 0))) (eBin dIx (eVar 1) (eC (.int 1)))) (eBin dMul (eBin dIx (eVar 1) (eC (.int 0))) (eBin dIx (eVar 0) (eC (.int 1)))))
noncomputable def f_law_is_below : FN := mkFn 2 2 m_law_is_below
noncomputable def m_law_is_fraction : SF := sSeq (sIf (DL.tOr (DL.tNot (tTru (eCall (fIsi sub0) (aCons (eVar 0) (aCons (eC (.ty "tuple")) (aNil)))))) (tOf (eBin dNe (eCall fLen (aCons (eVar 0) (aNil))) (eC (.int 2))))) (sRet (eC (.bl false))) (sNil)) (sSeq (sIf (DL.tNot (tTru (eCall fAll (aCons (eComp [1] (wTup (eVar 0)) (gSet 1) (tYes) (eCall f_law_is_int (aCons (eVar 1) (aCons (eUn dNeg (eBin dPow (eBin dPow (eC (.int 10)) (eC (.int 60))) (eC (.int 60)))) (aCons (eBin dPow (eBin dPow (eC (.int 10)) (eC (.int 60))) (eC (.int 60))) (aNil)))))) (aNil))))) (sRet (eC (.bl false))) (sNil)) (sRet (eAnd (eBin dGt (eBin dIx (eVar 0) (eC (.int 1))) (eC (.int 0))) (eBin dEq (eCall f_law_gcd (aCons (eBin dIx (eVar 0) (eC (.int 0))) (aCons (eBin dIx (eVar 0) (eC (.int 1))) (aNil)))) (eC (.int 1))))))
noncomputable def f_law_is_fraction : FN := mkFn 1 2 m_law_is_fraction
noncomputable def q_law_parents_1 : SF := sAsg (gTupD (gsCons (gSet 1) (gsCons (gSet 2) (gsNil)))) (eVar 0)
noncomputable def q_law_parents_2 : SF := sAsg (gTupD (gsCons (gSet 3) (gsCons (gSet 4) (gsCons (gSet 5) (gsCons (gSet 6) (gsNil)))))) (eTup (aCons (eC (.int 0)) (aCons (eC (.int 1)) (aCons (eVar 2) (aCons (eBin dMod (eCall fInt (aCons (eVar 1) (aNil))) (eVar 2)) (aNil))))))
noncomputable def q_law_parents_3_3 : SF := sAsg (gTupD (gsCons (gSet 5) (gsCons (gSet 6) (gsCons (gSet 3) (gsCons (gSet 4) (gsNil)))))) (eTup (aCons (eVar 6) (aCons (eBin dSub (eVar 5) (eBin dMul (eVar 10) (eVar 6))) (aCons (eVar 4) (aCons (eBin dSub (eVar 3) (eBin dMul (eVar 10) (eVar 4))) (aNil))))))
noncomputable def q_law_parents_3B : SF := sSeq (sIf (tOf (eBin dEq (eVar 6) (eC (.int 0)))) (sBreak) (sNil)) (sSeq (sSet 10 (eBin dDiv (eVar 5) (eVar 6))) (q_law_parents_3_3))
noncomputable def q_law_parents_3 : SF := sFor (fRange1 (aCons (eC (.int 120)) aNil)) (gSet 7) (q_law_parents_3B)
noncomputable def q_law_parents_4 : SF := sSet 8 (eBin dMod (eCall fInt (aCons (eVar 3) (aNil))) (eVar 2))
noncomputable def q_law_parents_5 : SF := sSet 9 (eTup (aCons (eBin dDiv (eBin dSub (eBin dMul (eVar 1) (eVar 8)) (eC (.int 1))) (eVar 2)) (aCons (eVar 8) (aNil))))
noncomputable def q_law_parents_6 : SF := sRet (eTup (aCons (eVar 9) (aCons (eTup (aCons (eBin dSub (eVar 1) (eBin dIx (eVar 9) (eC (.int 0)))) (aCons (eBin dSub (eVar 2) (eBin dIx (eVar 9) (eC (.int 1)))) (aNil)))) (aNil))))
noncomputable def m_law_parents : SF := sSeq (q_law_parents_1) (sSeq (q_law_parents_2) (sSeq (q_law_parents_3) (sSeq (q_law_parents_4) (sSeq (q_law_parents_5) (q_law_parents_6)))))
noncomputable def f_law_parents : FN := mkFn 1 11 m_law_parents
noncomputable def m_law_is_inside : SF := sRet (eAnd (eCall f_law_is_below (aCons (eVar 1) (aCons (eVar 0) (aNil)))) (eCall f_law_is_below (aCons (eVar 0) (aCons (eVar 2) (aNil)))))
noncomputable def f_law_is_inside : FN := mkFn 3 3 m_law_is_inside
noncomputable def m_law_is_simplest : SF := sSeq (sIf (DL.tOr (DL.tNot (tTru (eCall f_law_is_fraction (aCons (eVar 0) (aNil))))) (DL.tNot (tTru (eCall f_law_is_inside (aCons (eVar 0) (aCons (eVar 1) (aCons (eVar 2) (aNil)))))))) (sRet (eC (.bl false))) (sNil)) (sSeq (sIf (tOf (eBin dGt (eBin dIx (eVar 0) (eC (.int 1))) (eC (.int 1)))) (sRet (eNot (eCall fAny (aCons (eComp [4] (wTup (eCall f_law_parents (aCons (eVar 0) (aNil)))) (gSet 4) (tYes) (eCall f_law_is_inside (aCons (eVar 4) (aCons (eVar 1) (aCons (eVar 2) (aNil)))))) (aNil))))) (sNil)) (sSeq (sSet 3 (eIf (tOf (eBin dGt (eBin dIx (eVar 0) (eC (.int 0))) (eC (.int 0)))) (eUn dNeg (eC (.int 1))) (eC (.int 1)))) (sRet (eOr (eBin dEq (eBin dIx (eVar 0) (eC (.int 0))) (eC (.int 0))) (eNot (eCall f_law_is_inside (aCons (eTup (aCons (eBin dAdd (eBin dIx (eVar 0) (eC (.int 0))) (eVar 3)) (aCons (eC (.int 1)) (aNil)))) (aCons (eVar 1) (aCons (eVar 2) (aNil))))))))))
noncomputable def f_law_is_simplest : FN := mkFn 3 5 m_law_is_simplest
noncomputable def m_law_great_fraction : SF := sRet (eCall f_law_rate (aCons (eBin dSub (eCall fInt (aCons (eCall f_law_take (aCons (eVar 0) (aCons (eBin dAdd (eBin dMul (eC (.int 2)) (eVar 1)) (eC (.int 1))) (aNil)))) (aNil))) (eVar 1)) (aCons (eBin dAdd (eC (.int 1)) (eCall fInt (aCons (eCall f_law_take (aCons (eVar 0) (aCons (eVar 1) (aNil)))) (aNil)))) (aNil))))
noncomputable def f_law_great_fraction : FN := mkFn 2 2 m_law_great_fraction
noncomputable def m_law_neighbours : SF := sSeq (sSet 1 (eCall f_law_great_fraction (aCons (eVar 0) (aCons (eC (.int 900)) (aNil))))) (sSeq (sIf (tOf (eBin dEq (eBin dIx (eVar 1) (eC (.int 1))) (eC (.int 1)))) (sRet (eTup (aCons (eTup (aCons (eBin dIx (eVar 1) (eC (.int 0))) (aCons (eC (.int 1)) (aNil)))) (aCons (eTup (aCons (eBin dAdd (eBin dIx (eVar 1) (eC (.int 0))) (eC (.int 1))) (aCons (eC (.int 1)) (aNil)))) (aNil))))) (sNil)) (sSeq (sAsg (gTupD (gsCons (gSet 2) (gsCons (gSet 3) (gsNil)))) (eCall f_law_parents (aCons (eVar 1) (aNil)))) (sRet (eCall f_law_of (aCons (eVar 0) (aCons (eLst (aCons (eTup (aCons (eVar 2) (aCons (eVar 1) (aNil)))) (aCons (eTup (aCons (eVar 1) (aCons (eVar 3) (aNil)))) (aCons (eTup (aCons (eVar 2) (aCons (eVar 3) (aNil)))) (aNil))))) (aNil)))))))
noncomputable def f_law_neighbours : FN := mkFn 1 4 m_law_neighbours
noncomputable def m_law_is_near_right : SF := sSeq (sSet 2 (eCall f_law_of (aCons (eVar 0) (aCons (eLst (aCons (eC (.int 1)) (aCons (eC (.int 2)) (aCons (eBin dPow (eC (.int 10)) (eC (.int 6))) (aCons (eC (.int 999983)) (aCons (eBin dAdd (eC (.int 1)) (eCall fInt (aCons (eCall f_law_take (aCons (eVar 0) (aCons (eBin dPow (eC (.int 10)) (eC (.int 6))) (aNil)))) (aNil)))) (aNil))))))) (aNil))))) (sSeq (sSet 3 (eCall f_nearest_with (aCons (eVar 1) (aCons (eVar 2) (aNil))))) (sSeq (sIf (DL.tOr (DL.tNot (tTru (eCall f_law_is_fraction (aCons (eVar 3) (aNil))))) (DL.tOr (tOf (eBin dNe (eBin dMod (eCall fInt (aCons (eVar 2) (aNil))) (eBin dIx (eVar 3) (eC (.int 1)))) (eC (.int 0)))) (tTru (eCall f_law_is_below (aCons (eVar 1) (aCons (eVar 3) (aNil))))))) (sRet (eC (.bl false))) (sNil)) (sRet (eCall f_law_is_below (aCons (eVar 1) (aCons (eCall f_law_plus (aCons (eVar 3) (aCons (eTup (aCons (eC (.int 1)) (aCons (eVar 2) (aNil)))) (aNil)))) (aNil)))))))
noncomputable def f_law_is_near_right : FN := mkFn 2 4 m_law_is_near_right
noncomputable def q_law_right_1_1 : SF := sPar 2 3 (aCons (eCall f_law_of (aCons (eVar 0) (aCons (eLst (aCons (eC (.int 3)) (aCons (eC (.int 1000)) (aCons (eBin dPow (eC (.int 10)) (eC (.int 6))) (aCons (eBin dPow (eC (.int 10)) (eC (.int 6))) (aNil)))))) (aNil)))) (aCons (eCall f_law_take (aCons (eVar 0) (aCons (eC (.int 3)) (aNil)))) (aNil)))
noncomputable def q_law_right_1_2 : SF := sPar 4 5 (aCons (eCall f_law_great_fraction (aCons (eVar 0) (aCons (eVar 2) (aNil)))) (aCons (eCall f_law_great_fraction (aCons (eVar 0) (aCons (eVar 2) (aNil)))) (aNil)))
noncomputable def q_law_right_1_3a_1 : SF := sSet 10 (eCall f_law_plus (aCons (eVar 4) (aCons (eTup (aCons (eC (.int 1)) (aCons (eBin dAdd (eC (.int 1)) (eCall fInt (aCons (eCall f_law_take (aCons (eVar 0) (aCons (eC (.int 999)) (aNil)))) (aNil)))) (aNil)))) (aNil))))
noncomputable def q_law_right_1_3a_2 : SF := sSet 5 (eIf (DL.tAnd (tOf (eBin dLe (eCall fAbs (aCons (eBin dIx (eVar 10) (eC (.int 0))) (aNil))) (eBin dPow (eC (.int 10)) (eC (.int 6))))) (tOf (eBin dLe (eBin dIx (eVar 10) (eC (.int 1))) (eBin dPow (eC (.int 10)) (eC (.int 6)))))) (eVar 10) (eVar 5))
noncomputable def q_law_right_1_3 : SF := sIf (DL.tAnd (tOf (eBin dEq (eVar 3) (eC (.int 1)))) (tOf (eBin dLt (eBin dIx (eVar 4) (eC (.int 1))) (eBin dPow (eC (.int 10)) (eC (.int 3)))))) (sSeq (q_law_right_1_3a_1) (q_law_right_1_3a_2)) (sNil)
noncomputable def q_law_right_1_4a_1 : SF := sAsg (gTupD (gsCons (gSet 4) (gsCons (gSet 5) (gsNil)))) (eCall f_law_neighbours (aCons (eVar 0) (aNil)))
noncomputable def q_law_right_1_4a_2 : SF := sIf (tOf (eBin dNe (eCall fRepr (aCons (eCall f_simplest_between (aCons (eVar 4) (aCons (eVar 5) (aNil)))) (aNil))) (eCall fRepr (aCons (eTup (aCons (eBin dAdd (eBin dIx (eVar 4) (eC (.int 0))) (eBin dIx (eVar 5) (eC (.int 0)))) (aCons (eBin dAdd (eBin dIx (eVar 4) (eC (.int 1))) (eBin dIx (eVar 5) (eC (.int 1)))) (aNil)))) (aNil))))) (sRet (eC (.bl false))) (sNil)
noncomputable def q_law_right_1_4 : SF := sIf (tOf (eBin dEq (eVar 3) (eC (.int 2)))) (sSeq (q_law_right_1_4a_1) (q_law_right_1_4a_2)) (sNil)
noncomputable def q_law_right_1_5 : SF := sAsg (gTupD (gsCons (gSet 6) (gsCons (gSet 7) (gsNil)))) (eIf (tTru (eCall f_law_is_below (aCons (eVar 5) (aCons (eVar 4) (aNil))))) (eTup (aCons (eVar 5) (aCons (eVar 4) (aNil)))) (eTup (aCons (eVar 4) (aCons (eVar 5) (aNil)))))
noncomputable def q_law_right_1_6 : SF := sIf (DL.tOr (tOf (eBin dNotB (eCall f_is_fraction (aCons (eVar 6) (aNil))) (eC (.bl true)))) (DL.tOr (tOf (eBin dNotB (eCall f_is_fraction (aCons (eVar 7) (aNil))) (eC (.bl true)))) (DL.tNot (tTru (eCall f_law_is_near_right (aCons (eVar 0) (aCons (eVar 4) (aNil)))))))) (sRet (eC (.bl false))) (sNil)
noncomputable def q_law_right_1_7 : SF := sIf (DL.tOr (DL.tNot (tTru (eCall f_law_is_bool (aCons (eCall f_does_come_ahead (aCons (eVar 6) (aCons (eVar 7) (aNil)))) (aCons (eBin dNe (eVar 6) (eVar 7)) (aNil)))))) (tOf (eBin dNotB (eCall f_does_come_ahead (aCons (eVar 7) (aCons (eVar 6) (aNil)))) (eC (.bl false))))) (sRet (eC (.bl false))) (sNil)
noncomputable def q_law_right_1_8 : SF := sSet 8 (eCall f_added (aCons (eVar 6) (aCons (eVar 7) (aNil))))
noncomputable def q_law_right_1_9 : SF := sIf (DL.tOr (tOf (eBin dNe (eCall fRepr (aCons (eVar 8) (aNil))) (eCall fRepr (aCons (eCall f_law_plus (aCons (eVar 6) (aCons (eVar 7) (aNil)))) (aNil))))) (tOf (eBin dNotB (eCall f_is_lowest (aCons (eVar 8) (aNil))) (eC (.bl true))))) (sRet (eC (.bl false))) (sNil)
noncomputable def q_law_right_1_10 : SF := sIf (DL.tAnd (tOf (eBin dNe (eVar 6) (eVar 7))) (DL.tNot (tTru (eCall f_law_is_simplest (aCons (eCall f_simplest_between (aCons (eVar 6) (aCons (eVar 7) (aNil)))) (aCons (eVar 6) (aCons (eVar 7) (aNil)))))))) (sRet (eC (.bl false))) (sNil)
noncomputable def q_law_right_1_11 : SF := sSet 9 (eBin dIx (eHeard sub0 (eCall f_simplest_between (aCons (eVar 7) (aCons (eVar 6) (aNil))))) (eC (.int 0)))
noncomputable def q_law_right_1_12 : SF := sIf (DL.tOr (DL.tNot (tTru (eCall (fIsi sub0) (aCons (eVar 9) (aCons (eC (.cls "BadFraction")) (aNil)))))) (tOf (eBin dNe (eCall fRepr (aCons (eValue sub0 (eVar 9)) (aNil))) (eCall fRepr (aCons (eVar 6) (aNil)))))) (sRet (eC (.bl false))) (sNil)
noncomputable def q_law_right_1_13 : SF := sIf (DL.tNot (tTru (eCall (fIsi sub0) (aCons (eBin dIx (eHeard sub0 (eCall f_nearest_with (aCons (eVar 6) (aCons (eBin dAdd (eBin dPow (eC (.int 10)) (eC (.int 6))) (eC (.int 1))) (aNil))))) (eC (.int 0))) (aCons (eC (.cls "BadInt")) (aNil)))))) (sRet (eC (.bl false))) (sNil)
noncomputable def q_law_right_1B : SF := sSeq (q_law_right_1_1) (sSeq (q_law_right_1_2) (sSeq (q_law_right_1_3) (sSeq (q_law_right_1_4) (sSeq (q_law_right_1_5) (sSeq (q_law_right_1_6) (sSeq (q_law_right_1_7) (sSeq (q_law_right_1_8) (sSeq (q_law_right_1_9) (sSeq (q_law_right_1_10) (sSeq (q_law_right_1_11) (sSeq (q_law_right_1_12) (q_law_right_1_13))))))))))))
noncomputable def q_law_right_1 : SF := sFor (fRange1 (aCons (eC (.int 6)) aNil)) (gSet 1) (q_law_right_1B)
noncomputable def m_law_right : SF := sSeq (q_law_right_1) (sRet (eC (.bl true)))
noncomputable def f_law_right : FN := mkFn 1 11 m_law_right
noncomputable def m_law : SF := sRet (eCall fAll (aCons (eComp [1] (wLst (eCall f_law_cells (aCons (eVar 0) (aCons (eC (.int 3)) (aNil))))) (gSet 1) (tYes) (eCall f_law_right (aCons (eCall f_law_pot (aCons (eVar 0) (aCons (eVar 1) (aNil)))) (aNil)))) (aNil)))
noncomputable def f_law : FN := mkFn 1 2 m_law
end K45


set_option linter.all false
set_option autoImplicit false
set_option Elab.async false
set_option maxRecDepth 100000
set_option maxHeartbeats 4000000
/-! the walk of elbowsexactly_k45_whole_simplest_fractio, printed by gen.py -/
namespace K45
open PySem PySem.Spec L2 DL
open PyProof.Rows hiding St b2i
def top (i : Nat) : Stmt := PySem.Challenge.pw_elbowsexactly_k45_whole_simplest_fractio.main.body.getD i (.Pass ⟨0, 0, 0, 0⟩)
/-- what the module's names hold -/
structure Gl0 (P : Program) (K : PySem.W.Frag) (mg : Str → Option Value) : Prop where
  b_abs : mg "abs" = none
  b_all : mg "all" = none
  b_any : mg "any" = none
  b_bool : mg "bool" = none
  b_int : mg "int" = none
  b_isinstance : mg "isinstance" = none
  b_len : mg "len" = none
  b_list : mg "list" = none
  b_max : mg "max" = none
  b_min : mg "min" = none
  b_range : mg "range" = none
  b_repr : mg "repr" = none
  b_sum : mg "sum" = none
  b_tuple : mg "tuple" = none
  c_MOST : Cst K mg "MOST" k_MOST
  c_ONE : Cst K mg "ONE" k_ONE
  c_ZERO : Cst K mg "ZERO" k_ZERO
  ex_BadFraction : ExcAt P K mg "BadFraction"
  ex_BadInt : ExcAt P K mg "BadInt"
  a_BadFraction : ∃ C, mg "BadFraction" = some (.ref C)
  a_BadInt : ∃ C, mg "BadInt" = some (.ref C)
  ex : SubAt P K mg sub0
  heard : HeardAt K mg
section
variable {P : Program} {w : World} {K : PySem.W.Frag} {mg : Str → Option Value} {base : Heap} {T : List (Addr × Str)}
abbrev s_is_whole : Stmt := top 5
theorem sc_is_whole : FnScope ["value"] ["value"] (defScope s_is_whole) := ⟨rfl, rfl, rfl, by decide +kernel, rfl, by decide +kernel, by decide +kernel⟩
theorem d_is_whole (G : Gl0 P K mg) (D : DefIn K mg "is_whole" s_is_whole) : Callee P w K mg base T false 1 "is_whole" ["value"] f_is_whole :=
  callee_of (gd := false) (k := 0) D sc_is_whole rfl rfl (fun _ _ _ _ _ _ us hl => match us, hl with | [_], _ => rfl) fun f cdv A outer s H E hg hr => pxs_one (px_ret (px_and (pb_isinstance G.ex G.b_isinstance (pxa_cons (px_var 0) (pxa_cons (px_ty G.b_int (by decide +kernel)) (pxa_nil)))) (px_one (px_not (pb_isinstance G.ex G.b_isinstance (pxa_cons (px_var 0) (pxa_cons (px_ty G.b_bool (by decide +kernel)) (pxa_nil))))))))
abbrev s_common : Stmt := top 10
theorem sc_common : FnScope ["one", "other"] ["one", "other"] (defScope s_common) := ⟨rfl, rfl, rfl, by decide +kernel, rfl, by decide +kernel, by decide +kernel⟩
theorem d_common (G : Gl0 P K mg) (D : DefIn K mg "common" s_common) : Callee P w K mg base T false 1 "common" ["one", "other"] f_common :=
  callee_of (gd := false) (k := 0) D sc_common rfl rfl (fun _ _ _ _ _ _ us hl => match us, hl with | [_, _], _ => rfl) fun f cdv A outer s H E hg hr => pxs_cons (px_par 0 1 rfl sc_common.nd (by decide) (pxa_cons (pb_abs G.b_abs (pxa_cons (px_var 0) (pxa_nil))) (pxa_cons (pb_abs G.b_abs (pxa_cons (px_var 1) (pxa_nil))) (pxa_nil)))) (pxs_cons (px_while (passes_of rfl) (pxt_ne hr (px_var 1) (px_int)) (pxs_one (px_par 0 1 rfl sc_common.nd (by decide) (pxa_cons (px_var 1) (pxa_cons (px_mod (px_var 0) (px_var 1)) (pxa_nil)))))) (pxs_one (px_ret (px_var 0))))
abbrev s_rate : Stmt := top 11
theorem sc_rate : FnScope ["top", "bottom", "part"] ["top", "bottom"] (defScope s_rate) := ⟨rfl, rfl, rfl, by decide +kernel, rfl, by decide +kernel, by decide +kernel⟩
theorem d_rate (G : Gl0 P K mg) (D : DefIn K mg "rate" s_rate) (c_common : Callee P w K mg base T false 1 "common" ["one", "other"] f_common) : Callee P w K mg base T false 2 "rate" ["top", "bottom"] f_rate :=
  callee_of (gd := false) (k := 1) D sc_rate rfl rfl (fun _ _ _ _ _ _ us hl => match us, hl with | [_, _], _ => rfl) fun f cdv A outer s H E hg hr => pxs_cons (px_set 2 sc_rate.nd (px_fn c_common hr (by decide) (fun z => nomatch z) (pxa_cons (px_var 0) (pxa_cons (px_var 1) (pxa_nil))))) (pxs_cons (px_if (pxt_lt (px_var 1) (px_int)) (pxs_one (px_set 2 sc_rate.nd (px_neg (px_var 2)))) (pxs_nil)) (pxs_one (px_ret (px_tup (pxa_cons (px_div (px_var 0) (px_var 2)) (pxa_cons (px_div (px_var 1) (px_var 2)) (pxa_nil)))))))
abbrev s_is_lowest : Stmt := top 12
theorem sc_is_lowest : FnScope ["value"] ["value"] (defScope s_is_lowest) := ⟨rfl, rfl, rfl, by decide +kernel, rfl, by decide +kernel, by decide +kernel⟩
theorem d_is_lowest (G : Gl0 P K mg) (D : DefIn K mg "is_lowest" s_is_lowest) (c_is_whole : Callee P w K mg base T false 1 "is_whole" ["value"] f_is_whole) (c_common : Callee P w K mg base T false 1 "common" ["one", "other"] f_common) : Callee P w K mg base T false 2 "is_lowest" ["value"] f_is_lowest :=
  callee_of (gd := false) (k := 1) D sc_is_lowest rfl rfl (fun _ _ _ _ _ _ us hl => match us, hl with | [_], _ => rfl) fun f cdv A outer s H E hg hr => pxs_cons (px_if (PXW.t (pxw_or (pxt_not (pxt_truth (pb_isinstance G.ex G.b_isinstance (pxa_cons (px_var 0) (pxa_cons (px_ty G.b_tuple (by decide +kernel)) (pxa_nil)))))) (pxw_or (pxt_ne hr (pb_len G.b_len (pxa_cons (px_var 0) (pxa_nil))) (px_int)) (pxw_or (pxt_not (pxt_truth (px_fn c_is_whole hr (by decide) (fun z => nomatch z) (pxa_cons (px_ix (px_var 0) (px_int)) (pxa_nil))))) (pxw_or1 (pxt_not (pxt_truth (px_fn c_is_whole hr (by decide) (fun z => nomatch z) (pxa_cons (px_ix (px_var 0) (px_int)) (pxa_nil)))))))))) (pxs_one (px_ret (px_bl))) (pxs_nil)) (pxs_one (px_ret (px_and (px_gt (px_ix (px_var 0) (px_int)) (px_int)) (px_one (px_eq hr (px_fn c_common hr (by decide) (fun z => nomatch z) (pxa_cons (px_ix (px_var 0) (px_int)) (pxa_cons (px_ix (px_var 0) (px_int)) (pxa_nil)))) (px_int))))))
abbrev s_is_fraction : Stmt := top 13
theorem sc_is_fraction : FnScope ["value"] ["value"] (defScope s_is_fraction) := ⟨rfl, rfl, rfl, by decide +kernel, rfl, by decide +kernel, by decide +kernel⟩
theorem d_is_fraction (G : Gl0 P K mg) (D : DefIn K mg "is_fraction" s_is_fraction) (c_is_lowest : Callee P w K mg base T false 2 "is_lowest" ["value"] f_is_lowest) : Callee P w K mg base T false 3 "is_fraction" ["value"] f_is_fraction :=
  callee_of (gd := false) (k := 2) D sc_is_fraction rfl rfl (fun _ _ _ _ _ _ us hl => match us, hl with | [_], _ => rfl) fun f cdv A outer s H E hg hr => pxs_one (px_ret (px_and (px_fn c_is_lowest hr (by decide) (fun z => nomatch z) (pxa_cons (px_var 0) (pxa_nil))) (px_and (px_chain op_le op_le (ok_iCmp _) (ok_iCmp _) (px_neg (px_cst G.c_MOST)) (px_ix (px_var 0) (px_int)) (px_cst G.c_MOST)) (px_one (px_le (px_ix (px_var 0) (px_int)) (px_cst G.c_MOST))))))
abbrev s_look_at_fraction : Stmt := top 14
theorem sc_look_at_fraction : FnScope ["value"] ["value"] (defScope s_look_at_fraction) := ⟨rfl, rfl, rfl, by decide +kernel, rfl, by decide +kernel, by decide +kernel⟩
theorem d_look_at_fraction (G : Gl0 P K mg) (D : DefIn K mg "look_at_fraction" s_look_at_fraction) (c_is_fraction : Callee P w K mg base T false 3 "is_fraction" ["value"] f_is_fraction) : Callee P w K mg base T false 4 "look_at_fraction" ["value"] f_look_at_fraction :=
  callee_of (gd := false) (k := 3) D sc_look_at_fraction rfl rfl (fun _ _ _ _ _ _ us hl => match us, hl with | [_], _ => rfl) fun f cdv A outer s H E hg hr => pxs_one (px_if (pxt_not (pxt_truth (px_fn c_is_fraction hr (by decide) (fun z => nomatch z) (pxa_cons (px_var 0) (pxa_nil))))) (pxs_one (px_raise rfl G.ex_BadFraction hr (px_var 0))) (pxs_nil))
abbrev s_plus : Stmt := top 15
theorem sc_plus : FnScope ["one", "other"] ["one", "other"] (defScope s_plus) := ⟨rfl, rfl, rfl, by decide +kernel, rfl, by decide +kernel, by decide +kernel⟩
theorem d_plus (G : Gl0 P K mg) (D : DefIn K mg "plus" s_plus) (c_rate : Callee P w K mg base T false 2 "rate" ["top", "bottom"] f_rate) : Callee P w K mg base T false 3 "plus" ["one", "other"] f_plus :=
  callee_of (gd := false) (k := 2) D sc_plus rfl rfl (fun _ _ _ _ _ _ us hl => match us, hl with | [_, _], _ => rfl) fun f cdv A outer s H E hg hr => pxs_one (px_ret (px_fn c_rate hr (by decide) (fun z => nomatch z) (pxa_cons (px_add (px_mul (px_ix (px_var 0) (px_int)) (px_ix (px_var 1) (px_int))) (px_mul (px_ix (px_var 1) (px_int)) (px_ix (px_var 0) (px_int)))) (pxa_cons (px_mul (px_ix (px_var 0) (px_int)) (px_ix (px_var 1) (px_int))) (pxa_nil)))))
abbrev s_less : Stmt := top 16
theorem sc_less : FnScope ["one", "other"] ["one", "other"] (defScope s_less) := ⟨rfl, rfl, rfl, by decide +kernel, rfl, by decide +kernel, by decide +kernel⟩
theorem d_less (G : Gl0 P K mg) (D : DefIn K mg "less" s_less) (c_rate : Callee P w K mg base T false 2 "rate" ["top", "bottom"] f_rate) : Callee P w K mg base T false 3 "less" ["one", "other"] f_less :=
  callee_of (gd := false) (k := 2) D sc_less rfl rfl (fun _ _ _ _ _ _ us hl => match us, hl with | [_, _], _ => rfl) fun f cdv A outer s H E hg hr => pxs_one (px_ret (px_fn c_rate hr (by decide) (fun z => nomatch z) (pxa_cons (px_sub (px_mul (px_ix (px_var 0) (px_int)) (px_ix (px_var 1) (px_int))) (px_mul (px_ix (px_var 1) (px_int)) (px_ix (px_var 0) (px_int)))) (pxa_cons (px_mul (px_ix (px_var 0) (px_int)) (px_ix (px_var 1) (px_int))) (pxa_nil)))))
abbrev s_over : Stmt := top 17
theorem sc_over : FnScope ["one", "other"] ["one", "other"] (defScope s_over) := ⟨rfl, rfl, rfl, by decide +kernel, rfl, by decide +kernel, by decide +kernel⟩
theorem d_over (G : Gl0 P K mg) (D : DefIn K mg "over" s_over) (c_rate : Callee P w K mg base T false 2 "rate" ["top", "bottom"] f_rate) : Callee P w K mg base T false 3 "over" ["one", "other"] f_over :=
  callee_of (gd := false) (k := 2) D sc_over rfl rfl (fun _ _ _ _ _ _ us hl => match us, hl with | [_, _], _ => rfl) fun f cdv A outer s H E hg hr => pxs_one (px_ret (px_fn c_rate hr (by decide) (fun z => nomatch z) (pxa_cons (px_mul (px_ix (px_var 0) (px_int)) (px_ix (px_var 1) (px_int))) (pxa_cons (px_mul (px_ix (px_var 0) (px_int)) (px_ix (px_var 1) (px_int))) (pxa_nil)))))
abbrev s_turned_sign : Stmt := top 18
theorem sc_turned_sign : FnScope ["one"] ["one"] (defScope s_turned_sign) := ⟨rfl, rfl, rfl, by decide +kernel, rfl, by decide +kernel, by decide +kernel⟩
theorem d_turned_sign (G : Gl0 P K mg) (D : DefIn K mg "turned_sign" s_turned_sign) : Callee P w K mg base T false 1 "turned_sign" ["one"] f_turned_sign :=
  callee_of (gd := false) (k := 0) D sc_turned_sign rfl rfl (fun _ _ _ _ _ _ us hl => match us, hl with | [_], _ => rfl) fun f cdv A outer s H E hg hr => pxs_one (px_ret (px_tup (pxa_cons (px_neg (px_ix (px_var 0) (px_int))) (pxa_cons (px_ix (px_var 0) (px_int)) (pxa_nil)))))
abbrev s_sign_of : Stmt := top 19
theorem sc_sign_of : FnScope ["one"] ["one"] (defScope s_sign_of) := ⟨rfl, rfl, rfl, by decide +kernel, rfl, by decide +kernel, by decide +kernel⟩
theorem d_sign_of (G : Gl0 P K mg) (D : DefIn K mg "sign_of" s_sign_of) : Callee P w K mg base T false 1 "sign_of" ["one"] f_sign_of :=
  callee_of (gd := false) (k := 0) D sc_sign_of rfl rfl (fun _ _ _ _ _ _ us hl => match us, hl with | [_], _ => rfl) fun f cdv A outer s H E hg hr => pxs_one (px_ret (px_subB (px_gt (px_ix (px_var 0) (px_int)) (px_int)) (px_lt (px_ix (px_var 0) (px_int)) (px_int))))
abbrev s_is_less : Stmt := top 20
theorem sc_is_less : FnScope ["one", "other"] ["one", "other"] (defScope s_is_less) := ⟨rfl, rfl, rfl, by decide +kernel, rfl, by decide +kernel, by decide +kernel⟩
theorem d_is_less (G : Gl0 P K mg) (D : DefIn K mg "is_less" s_is_less) : Callee P w K mg base T false 1 "is_less" ["one", "other"] f_is_less :=
  callee_of (gd := false) (k := 0) D sc_is_less rfl rfl (fun _ _ _ _ _ _ us hl => match us, hl with | [_, _], _ => rfl) fun f cdv A outer s H E hg hr => pxs_one (px_ret (px_lt (px_mul (px_ix (px_var 0) (px_int)) (px_ix (px_var 1) (px_int))) (px_mul (px_ix (px_var 1) (px_int)) (px_ix (px_var 0) (px_int)))))
abbrev s_added : Stmt := top 21
theorem sc_added : FnScope ["one", "other"] ["one", "other"] (defScope s_added) := ⟨rfl, rfl, rfl, by decide +kernel, rfl, by decide +kernel, by decide +kernel⟩
theorem d_added (G : Gl0 P K mg) (D : DefIn K mg "added" s_added) (c_look_at_fraction : Callee P w K mg base T false 4 "look_at_fraction" ["value"] f_look_at_fraction) (c_plus : Callee P w K mg base T false 3 "plus" ["one", "other"] f_plus) : Callee P w K mg base T false 5 "added" ["one", "other"] f_added :=
  callee_of (gd := false) (k := 4) D sc_added rfl rfl (fun _ _ _ _ _ _ us hl => match us, hl with | [_, _], _ => rfl) fun f cdv A outer s H E hg hr => pxs_cons (px_expr (px_fn c_look_at_fraction hr (by decide) (fun z => nomatch z) (pxa_cons (px_var 0) (pxa_nil)))) (pxs_cons (px_expr (px_fn c_look_at_fraction hr (by decide) (fun z => nomatch z) (pxa_cons (px_var 1) (pxa_nil)))) (pxs_one (px_ret (px_fn c_plus hr (by decide) (fun z => nomatch z) (pxa_cons (px_var 0) (pxa_cons (px_var 1) (pxa_nil)))))))
abbrev s_does_come_ahead : Stmt := top 22
theorem sc_does_come_ahead : FnScope ["one", "other"] ["one", "other"] (defScope s_does_come_ahead) := ⟨rfl, rfl, rfl, by decide +kernel, rfl, by decide +kernel, by decide +kernel⟩
theorem d_does_come_ahead (G : Gl0 P K mg) (D : DefIn K mg "does_come_ahead" s_does_come_ahead) (c_look_at_fraction : Callee P w K mg base T false 4 "look_at_fraction" ["value"] f_look_at_fraction) (c_is_less : Callee P w K mg base T false 1 "is_less" ["one", "other"] f_is_less) : Callee P w K mg base T false 5 "does_come_ahead" ["one", "other"] f_does_come_ahead :=
  callee_of (gd := false) (k := 4) D sc_does_come_ahead rfl rfl (fun _ _ _ _ _ _ us hl => match us, hl with | [_, _], _ => rfl) fun f cdv A outer s H E hg hr => pxs_cons (px_expr (px_fn c_look_at_fraction hr (by decide) (fun z => nomatch z) (pxa_cons (px_var 0) (pxa_nil)))) (pxs_cons (px_expr (px_fn c_look_at_fraction hr (by decide) (fun z => nomatch z) (pxa_cons (px_var 1) (pxa_nil)))) (pxs_one (px_ret (px_fn c_is_less hr (by decide) (fun z => nomatch z) (pxa_cons (px_var 0) (pxa_cons (px_var 1) (pxa_nil)))))))
abbrev s_told_between : Stmt := top 24
theorem sc_told_between : FnScope ["one", "other", "wholes", "low", "high", "found", "whole", "rests"] ["one", "other"] (defScope s_told_between) := ⟨rfl, rfl, rfl, by decide +kernel, rfl, by decide +kernel, by decide +kernel⟩
theorem d_told_between (G : Gl0 P K mg) (D : DefIn K mg "told_between" s_told_between) (c_less : Callee P w K mg base T false 3 "less" ["one", "other"] f_less) (c_is_less : Callee P w K mg base T false 1 "is_less" ["one", "other"] f_is_less) (c_plus : Callee P w K mg base T false 3 "plus" ["one", "other"] f_plus) (c_over : Callee P w K mg base T false 3 "over" ["one", "other"] f_over) : Callee P w K mg base T false 4 "told_between" ["one", "other"] f_told_between :=
  (callee_of (gd := false) (k := 3) D sc_told_between rfl rfl (fun _ _ _ _ _ _ us hl => match us, hl with | [_, _], _ => rfl) fun f cdv A outer s H E hg hr => pxs_cons (px_asg (px_tup (pxa_cons (px_new (pxa_nil)) (pxa_cons (px_var 0) (pxa_cons (px_var 1) (pxa_cons (px_non) (pxa_nil)))))) (pxg_tup rfl (pxgs_cons (pxg_name 2 sc_told_between.nd) (pxgs_cons (pxg_name 3 sc_told_between.nd) (pxgs_cons (pxg_name 4 sc_told_between.nd) (pxgs_cons (pxg_name 5 sc_told_between.nd) (pxgs_nil))))) (gsl_cons (gsl_cons (gsl_cons (gsl_cons (gsl_nil))))))) (pxs_cons (px_while (passes_of rfl) (pxt_isN (px_var 5) (px_non)) (pxs_cons (px_set 6 sc_told_between.nd (px_div (px_ix (px_var 3) (px_int)) (px_ix (px_var 3) (px_int)))) (pxs_cons (px_set 7 sc_told_between.nd (px_tup (pxa_cons (px_fn c_less hr (by decide) (fun z => nomatch z) (pxa_cons (px_var 3) (pxa_cons (px_tup (pxa_cons (px_var 6) (pxa_cons (px_int) (pxa_nil)))) (pxa_nil)))) (pxa_cons (px_fn c_less hr (by decide) (fun z => nomatch z) (pxa_cons (px_var 4) (pxa_cons (px_tup (pxa_cons (px_var 6) (pxa_cons (px_int) (pxa_nil)))) (pxa_nil)))) (pxa_nil))))) (pxs_one (px_if (pxt_truth (px_fn c_is_less hr (by decide) (fun z => nomatch z) (pxa_cons (px_cst G.c_ONE) (pxa_cons (px_ix (px_var 7) (px_int)) (pxa_nil))))) (pxs_one (px_set 5 sc_told_between.nd (px_tup (pxa_cons (px_add (px_var 6) (px_int)) (pxa_cons (px_int) (pxa_nil)))))) (pxs_one (px_if (pxt_eq hr (px_ix (px_ix (px_var 7) (px_int)) (px_int)) (px_int)) (pxs_one (px_set 5 sc_told_between.nd (px_fn c_plus hr (by decide) (fun z => nomatch z) (pxa_cons (px_tup (pxa_cons (px_var 6) (pxa_cons (px_int) (pxa_nil)))) (pxa_cons (px_tup (pxa_cons (px_int) (pxa_cons (px_add (px_div (px_ix (px_ix (px_var 7) (px_int)) (px_int)) (px_ix (px_ix (px_var 7) (px_int)) (px_int))) (px_int)) (pxa_nil)))) (pxa_nil)))))) (pxs_cons (px_expr (px_append (px_var 2) (px_var 6))) (pxs_one (px_par 3 4 rfl sc_told_between.nd (by decide) (pxa_cons (px_fn c_over hr (by decide) (fun z => nomatch z) (pxa_cons (px_cst G.c_ONE) (pxa_cons (px_ix (px_var 7) (px_int)) (pxa_nil)))) (pxa_cons (px_fn c_over hr (by decide) (fun z => nomatch z) (pxa_cons (px_cst G.c_ONE) (pxa_cons (px_ix (px_var 7) (px_int)) (pxa_nil)))) (pxa_nil))))))))))))) (pxs_cons (px_for (passes_of rfl) rfl (pxi_lst (px_rev (px_var 2))) (pxg_name 6 sc_told_between.nd) (pxs_one (px_set 5 sc_told_between.nd (px_fn c_plus hr (by decide) (fun z => nomatch z) (pxa_cons (px_tup (pxa_cons (px_var 6) (pxa_cons (px_int) (pxa_nil)))) (pxa_cons (px_fn c_over hr (by decide) (fun z => nomatch z) (pxa_cons (px_cst G.c_ONE) (pxa_cons (px_var 5) (pxa_nil)))) (pxa_nil))))))) (pxs_one (px_ret (px_var 5)))))).drop
abbrev s_simplest_between : Stmt := top 23
theorem sc_simplest_between : FnScope ["one", "other"] ["one", "other"] (defScope s_simplest_between) := ⟨rfl, rfl, rfl, by decide +kernel, rfl, by decide +kernel, by decide +kernel⟩
theorem d_simplest_between (G : Gl0 P K mg) (D : DefIn K mg "simplest_between" s_simplest_between) (c_look_at_fraction : Callee P w K mg base T false 4 "look_at_fraction" ["value"] f_look_at_fraction) (c_is_less : Callee P w K mg base T false 1 "is_less" ["one", "other"] f_is_less) (c_sign_of : Callee P w K mg base T false 1 "sign_of" ["one"] f_sign_of) (c_turned_sign : Callee P w K mg base T false 1 "turned_sign" ["one"] f_turned_sign) (c_told_between : Callee P w K mg base T false 4 "told_between" ["one", "other"] f_told_between) : Callee P w K mg base T false 5 "simplest_between" ["one", "other"] f_simplest_between :=
  callee_of (gd := false) (k := 4) D sc_simplest_between rfl rfl (fun _ _ _ _ _ _ us hl => match us, hl with | [_, _], _ => rfl) fun f cdv A outer s H E hg hr => pxs_cons (px_expr (px_fn c_look_at_fraction hr (by decide) (fun z => nomatch z) (pxa_cons (px_var 0) (pxa_nil)))) (pxs_cons (px_expr (px_fn c_look_at_fraction hr (by decide) (fun z => nomatch z) (pxa_cons (px_var 1) (pxa_nil)))) (pxs_cons (px_if (pxt_not (pxt_truth (px_fn c_is_less hr (by decide) (fun z => nomatch z) (pxa_cons (px_var 0) (pxa_cons (px_var 1) (pxa_nil)))))) (pxs_one (px_raise rfl G.ex_BadFraction hr (px_var 1))) (pxs_nil)) (pxs_cons (px_if (pxt_chain op_lt op_lt (ok_iCmp _) (ok_iCmp _) (px_fn c_sign_of hr (by decide) (fun z => nomatch z) (pxa_cons (px_var 0) (pxa_nil))) (px_int) (px_fn c_sign_of hr (by decide) (fun z => nomatch z) (pxa_cons (px_var 1) (pxa_nil)))) (pxs_one (px_ret (px_cst G.c_ZERO))) (pxs_nil)) (pxs_cons (px_if (pxt_le (px_fn c_sign_of hr (by decide) (fun z => nomatch z) (pxa_cons (px_var 1) (pxa_nil))) (px_int)) (pxs_one (px_ret (px_fn c_turned_sign hr (by decide) (fun z => nomatch z) (pxa_cons (px_fn c_told_between hr (by decide) (fun z => nomatch z) (pxa_cons (px_fn c_turned_sign hr (by decide) (fun z => nomatch z) (pxa_cons (px_var 1) (pxa_nil))) (pxa_cons (px_fn c_turned_sign hr (by decide) (fun z => nomatch z) (pxa_cons (px_var 0) (pxa_nil))) (pxa_nil)))) (pxa_nil))))) (pxs_nil)) (pxs_one (px_ret (px_fn c_told_between hr (by decide) (fun z => nomatch z) (pxa_cons (px_var 0) (pxa_cons (px_var 1) (pxa_nil))))))))))
abbrev s_nearest_with : Stmt := top 25
theorem sc_nearest_with : FnScope ["number", "bottom"] ["number", "bottom"] (defScope s_nearest_with) := ⟨rfl, rfl, rfl, by decide +kernel, rfl, by decide +kernel, by decide +kernel⟩
theorem d_nearest_with (G : Gl0 P K mg) (D : DefIn K mg "nearest_with" s_nearest_with) (c_look_at_fraction : Callee P w K mg base T false 4 "look_at_fraction" ["value"] f_look_at_fraction) (c_is_whole : Callee P w K mg base T false 1 "is_whole" ["value"] f_is_whole) (c_rate : Callee P w K mg base T false 2 "rate" ["top", "bottom"] f_rate) : Callee P w K mg base T false 5 "nearest_with" ["number", "bottom"] f_nearest_with :=
  callee_of (gd := false) (k := 4) D sc_nearest_with rfl rfl (fun _ _ _ _ _ _ us hl => match us, hl with | [_, _], _ => rfl) fun f cdv A outer s H E hg hr => pxs_cons (px_expr (px_fn c_look_at_fraction hr (by decide) (fun z => nomatch z) (pxa_cons (px_var 0) (pxa_nil)))) (pxs_cons (px_if (PXW.t (pxw_or (pxt_not (pxt_truth (px_fn c_is_whole hr (by decide) (fun z => nomatch z) (pxa_cons (px_var 1) (pxa_nil))))) (pxw_or1 (pxt_not (pxt_chain op_le op_le (ok_iCmp _) (ok_iCmp _) (px_int) (px_var 1) (px_cst G.c_MOST)))))) (pxs_one (px_raise rfl G.ex_BadInt hr (px_var 1))) (pxs_nil)) (pxs_one (px_ret (px_fn c_rate hr (by decide) (fun z => nomatch z) (pxa_cons (px_div (px_mul (px_ix (px_var 0) (px_int)) (px_var 1)) (px_ix (px_var 0) (px_int))) (pxa_cons (px_var 1) (pxa_nil)))))))
abbrev s_law_pot : Stmt := top 27
theorem sc_law_pot : FnScope ["script", "place", "cell", "own", "small"] ["script", "place"] (defScope s_law_pot) := ⟨rfl, rfl, rfl, by decide +kernel, rfl, by decide +kernel, by decide +kernel⟩
theorem d_law_pot (G : Gl0 P K mg) (D : DefIn K mg "_law_pot" s_law_pot) : Callee P w K mg base T false 1 "_law_pot" ["script", "place"] f_law_pot :=
  callee_of (gd := false) (k := 0) D sc_law_pot rfl rfl (fun _ _ _ _ _ _ us hl => match us, hl with | [_, _], _ => rfl) fun f cdv A outer s H E hg hr => pxs_cons (px_set 2 sc_law_pot.nd (px_ifExp (pxt_lt (px_var 1) (pb_len G.b_len (pxa_cons (px_var 0) (pxa_nil)))) (px_ix (px_var 0) (px_var 1)) (px_add (px_add (px_mod (pb_int G.b_int (pxa_cons (pb_sum rfl G.b_sum (pxa_cons (px_cut (px_var 0) (pxo_none) (pxo_some (px_int))) (pxa_nil))) (pxa_nil))) (px_int)) (px_mul (px_int) (px_var 1))) (px_int)))) (pxs_cons (px_set 3 sc_law_pot.nd (px_mul (px_mod (pb_int G.b_int (pxa_cons (pb_abs G.b_abs (pxa_cons (px_var 2) (pxa_nil))) (pxa_nil))) (px_pow (px_pow (px_int) (px_int)) (px_int))) (pb_int G.b_int (pxa_cons (px_ge (pb_abs G.b_abs (pxa_cons (px_var 2) (pxa_nil))) (px_pow (px_int) (px_int))) (pxa_nil))))) (pxs_cons (px_set 4 sc_law_pot.nd (px_mod (pb_int G.b_int (pxa_cons (px_var 2) (pxa_nil))) (px_int))) (pxs_one (px_ret (px_new (pxa_cons (px_var 3) (pxa_cons (px_mod (pb_int G.b_int (pxa_cons (px_add (px_add (px_mul (px_var 4) (px_int)) (px_mul (px_mul (px_int) (px_var 1)) (px_var 1))) (px_int)) (pxa_nil))) (px_int)) (pxa_cons (px_int) (pxa_nil)))))))))
abbrev s_law_take : Stmt := top 28
theorem sc_law_take : FnScope ["pot", "upto", "prime", "blend", "digit"] ["pot", "upto"] (defScope s_law_take) := ⟨rfl, rfl, rfl, by decide +kernel, rfl, by decide +kernel, by decide +kernel⟩
theorem d_law_take (G : Gl0 P K mg) (D : DefIn K mg "_law_take" s_law_take) : Callee P w K mg base T false 1 "_law_take" ["pot", "upto"] f_law_take :=
  callee_of (gd := false) (k := 0) D sc_law_take rfl rfl (fun _ _ _ _ _ _ us hl => match us, hl with | [_, _], _ => rfl) fun f cdv A outer s H E hg hr => pxs_cons (px_if (pxt_gt (px_ix (px_var 0) (px_int)) (px_int)) (pxs_cons (px_set 4 sc_law_take.nd (px_mod (pb_int G.b_int (pxa_cons (px_ix (px_var 0) (px_int)) (pxa_nil))) (px_var 1))) (pxs_cons (px_sub_set (px_div (px_ix (px_var 0) (px_int)) (px_var 1)) (px_var 0) (px_int)) (pxs_one (px_ret (px_var 4))))) (pxs_nil)) (pxs_cons (px_sub_set (px_add (px_ix (px_var 0) (px_int)) (px_int)) (px_var 0) (px_int)) (pxs_cons (px_set 2 sc_law_take.nd (px_ix (px_lst (pxa_cons (px_int) (pxa_cons (px_int) (pxa_cons (px_int) (pxa_cons (px_int) (pxa_cons (px_int) (pxa_nil))))))) (px_mod (pb_int G.b_int (pxa_cons (px_ix (px_var 0) (px_int)) (pxa_nil))) (px_int)))) (pxs_cons (px_set 3 sc_law_take.nd (px_mod (pb_int G.b_int (pxa_cons (px_pow (pb_int G.b_int (pxa_cons (px_add (px_add (px_ix (px_var 0) (px_int)) (px_mul (px_mul (px_int) (px_ix (px_var 0) (px_int))) (px_ix (px_var 0) (px_int)))) (px_int)) (pxa_nil))) (px_int)) (pxa_nil))) (px_var 2))) (pxs_cons (px_set 3 sc_law_take.nd (px_mod (pb_int G.b_int (pxa_cons (px_mul (px_var 3) (px_add (px_mod (pb_int G.b_int (pxa_cons (px_var 3) (pxa_nil))) (px_int)) (px_mul (px_int) (px_ix (px_var 0) (px_int))))) (pxa_nil))) (px_int))) (pxs_one (px_ret (px_mod (pb_int G.b_int (pxa_cons (px_div (px_var 3) (px_int)) (pxa_nil))) (px_var 1))))))))
abbrev s_law_of : Stmt := top 29
theorem sc_law_of : FnScope ["pot", "some"] ["pot", "some"] (defScope s_law_of) := ⟨rfl, rfl, rfl, by decide +kernel, rfl, by decide +kernel, by decide +kernel⟩
theorem d_law_of (G : Gl0 P K mg) (D : DefIn K mg "_law_of" s_law_of) (c_law_take : Callee P w K mg base T false 1 "_law_take" ["pot", "upto"] f_law_take) : Callee P w K mg base T false 2 "_law_of" ["pot", "some"] f_law_of :=
  callee_of (gd := false) (k := 1) D sc_law_of rfl rfl (fun _ _ _ _ _ _ us hl => match us, hl with | [_, _], _ => rfl) fun f cdv A outer s H E hg hr => pxs_one (px_ret (px_ix (px_var 1) (px_fn c_law_take hr (by decide) (fun z => nomatch z) (pxa_cons (px_var 0) (pxa_cons (pb_len G.b_len (pxa_cons (px_var 1) (pxa_nil))) (pxa_nil))))))
abbrev s_law_cells : Stmt := top 30
theorem sc_law_cells : FnScope ["script", "most"] ["script", "most"] (defScope s_law_cells) := ⟨rfl, rfl, rfl, by decide +kernel, rfl, by decide +kernel, by decide +kernel⟩
theorem d_law_cells (G : Gl0 P K mg) (D : DefIn K mg "_law_cells" s_law_cells) : Callee P w K mg base T false 1 "_law_cells" ["script", "most"] f_law_cells :=
  callee_of (gd := false) (k := 0) D sc_law_cells rfl rfl (fun _ _ _ _ _ _ us hl => match us, hl with | [_, _], _ => rfl) fun f cdv A outer s H E hg hr => pxs_one (px_ret (px_listRg rfl G.b_list (pxr_1 G.b_range (pb_max rfl G.b_max (pxa_cons (px_int) (pxa_cons (pb_min rfl G.b_min (pxa_cons (px_var 1) (pxa_cons (pb_len G.b_len (pxa_cons (px_var 0) (pxa_nil))) (pxa_nil)))) (pxa_nil)))))))
abbrev s_law_is_int : Stmt := top 32
theorem sc_law_is_int : FnScope ["value", "low", "high"] ["value", "low", "high"] (defScope s_law_is_int) := ⟨rfl, rfl, rfl, by decide +kernel, rfl, by decide +kernel, by decide +kernel⟩
theorem d_law_is_int (G : Gl0 P K mg) (D : DefIn K mg "_law_is_int" s_law_is_int) : Callee P w K mg base T false 1 "_law_is_int" ["value", "low", "high"] f_law_is_int :=
  callee_of (gd := false) (k := 0) D sc_law_is_int rfl rfl (fun _ _ _ _ _ _ us hl => match us, hl with | [_, _, _], _ => rfl) fun f cdv A outer s H E hg hr => pxs_one (px_ret (px_and (pb_isinstance G.ex G.b_isinstance (pxa_cons (px_var 0) (pxa_cons (px_ty G.b_int (by decide +kernel)) (pxa_nil)))) (px_and (px_not (pb_isinstance G.ex G.b_isinstance (pxa_cons (px_var 0) (pxa_cons (px_ty G.b_bool (by decide +kernel)) (pxa_nil))))) (px_one (px_chain op_le op_le (ok_iCmp _) (ok_iCmp _) (px_var 1) (px_var 0) (px_var 2))))))
abbrev s_law_is_bool : Stmt := top 33
theorem sc_law_is_bool : FnScope ["answer", "due"] ["answer", "due"] (defScope s_law_is_bool) := ⟨rfl, rfl, rfl, by decide +kernel, rfl, by decide +kernel, by decide +kernel⟩
theorem d_law_is_bool (G : Gl0 P K mg) (D : DefIn K mg "_law_is_bool" s_law_is_bool) : Callee P w K mg base T false 1 "_law_is_bool" ["answer", "due"] f_law_is_bool :=
  callee_of (gd := false) (k := 0) D sc_law_is_bool rfl rfl (fun _ _ _ _ _ _ us hl => match us, hl with | [_, _], _ => rfl) fun f cdv A outer s H E hg hr => pxs_one (px_ret (px_and (pb_isinstance G.ex G.b_isinstance (pxa_cons (px_var 0) (pxa_cons (px_ty G.b_bool (by decide +kernel)) (pxa_nil)))) (px_one (px_eq hr (px_var 0) (px_var 1)))))
abbrev s_law_gcd : Stmt := top 34
theorem sc_law_gcd : FnScope ["one", "other"] ["one", "other"] (defScope s_law_gcd) := ⟨rfl, rfl, rfl, by decide +kernel, rfl, by decide +kernel, by decide +kernel⟩
theorem d_law_gcd (G : Gl0 P K mg) (D : DefIn K mg "_law_gcd" s_law_gcd) : Callee P w K mg base T false 1 "_law_gcd" ["one", "other"] f_law_gcd :=
  callee_of (gd := false) (k := 0) D sc_law_gcd rfl rfl (fun _ _ _ _ _ _ us hl => match us, hl with | [_, _], _ => rfl) fun f cdv A outer s H E hg hr => pxs_cons (px_par 0 1 rfl sc_law_gcd.nd (by decide) (pxa_cons (pb_abs G.b_abs (pxa_cons (px_var 0) (pxa_nil))) (pxa_cons (pb_abs G.b_abs (pxa_cons (px_var 1) (pxa_nil))) (pxa_nil)))) (pxs_cons (px_while (passes_of rfl) (pxt_ne hr (px_var 1) (px_int)) (pxs_one (px_par 0 1 rfl sc_law_gcd.nd (by decide) (pxa_cons (px_var 1) (pxa_cons (px_mod (px_var 0) (px_var 1)) (pxa_nil)))))) (pxs_one (px_ret (px_var 0))))
abbrev s_law_rate : Stmt := top 35
theorem sc_law_rate : FnScope ["top", "bottom", "part"] ["top", "bottom"] (defScope s_law_rate) := ⟨rfl, rfl, rfl, by decide +kernel, rfl, by decide +kernel, by decide +kernel⟩
theorem d_law_rate (G : Gl0 P K mg) (D : DefIn K mg "_law_rate" s_law_rate) (c_law_gcd : Callee P w K mg base T false 1 "_law_gcd" ["one", "other"] f_law_gcd) : Callee P w K mg base T false 2 "_law_rate" ["top", "bottom"] f_law_rate :=
  callee_of (gd := false) (k := 1) D sc_law_rate rfl rfl (fun _ _ _ _ _ _ us hl => match us, hl with | [_, _], _ => rfl) fun f cdv A outer s H E hg hr => pxs_cons (px_set 2 sc_law_rate.nd (px_mul (px_fn c_law_gcd hr (by decide) (fun z => nomatch z) (pxa_cons (px_var 0) (pxa_cons (px_var 1) (pxa_nil)))) (px_ifExp (pxt_gt (px_var 1) (px_int)) (px_int) (px_neg (px_int))))) (pxs_one (px_ret (px_tup (pxa_cons (px_div (px_var 0) (px_var 2)) (pxa_cons (px_div (px_var 1) (px_var 2)) (pxa_nil))))))
abbrev s_law_plus : Stmt := top 36
theorem sc_law_plus : FnScope ["one", "other"] ["one", "other"] (defScope s_law_plus) := ⟨rfl, rfl, rfl, by decide +kernel, rfl, by decide +kernel, by decide +kernel⟩
theorem d_law_plus (G : Gl0 P K mg) (D : DefIn K mg "_law_plus" s_law_plus) (c_law_rate : Callee P w K mg base T false 2 "_law_rate" ["top", "bottom"] f_law_rate) : Callee P w K mg base T false 3 "_law_plus" ["one", "other"] f_law_plus :=
  callee_of (gd := false) (k := 2) D sc_law_plus rfl rfl (fun _ _ _ _ _ _ us hl => match us, hl with | [_, _], _ => rfl) fun f cdv A outer s H E hg hr => pxs_one (px_ret (px_fn c_law_rate hr (by decide) (fun z => nomatch z) (pxa_cons (px_add (px_mul (px_ix (px_var 0) (px_int)) (px_ix (px_var 1) (px_int))) (px_mul (px_ix (px_var 1) (px_int)) (px_ix (px_var 0) (px_int)))) (pxa_cons (px_mul (px_ix (px_var 0) (px_int)) (px_ix (px_var 1) (px_int))) (pxa_nil)))))
abbrev s_law_is_below : Stmt := top 37
theorem sc_law_is_below : FnScope ["one", "other"] ["one", "other"] (defScope s_law_is_below) := ⟨rfl, rfl, rfl, by decide +kernel, rfl, by decide +kernel, by decide +kernel⟩
theorem d_law_is_below (G : Gl0 P K mg) (D : DefIn K mg "_law_is_below" s_law_is_below) : Callee P w K mg base T false 1 "_law_is_below" ["one", "other"] f_law_is_below :=
  callee_of (gd := false) (k := 0) D sc_law_is_below rfl rfl (fun _ _ _ _ _ _ us hl => match us, hl with | [_, _], _ => rfl) fun f cdv A outer s H E hg hr => pxs_one (px_ret (px_lt (px_mul (px_ix (px_var 0) (px_int)) (px_ix (px_var 1) (px_int))) (px_mul (px_ix (px_var 1) (px_int)) (px_ix (px_var 0) (px_int)))))
abbrev s_law_is_fraction : Stmt := top 38
theorem sc_law_is_fraction : FnScope ["value", "one"] ["value"] (defScope s_law_is_fraction) := ⟨rfl, rfl, rfl, by decide +kernel, rfl, by decide +kernel, by decide +kernel⟩
theorem d_law_is_fraction (G : Gl0 P K mg) (D : DefIn K mg "_law_is_fraction" s_law_is_fraction) (c_law_is_int : Callee P w K mg base T false 1 "_law_is_int" ["value", "low", "high"] f_law_is_int) (c_law_gcd : Callee P w K mg base T false 1 "_law_gcd" ["one", "other"] f_law_gcd) : Callee P w K mg base T false 2 "_law_is_fraction" ["value"] f_law_is_fraction :=
  callee_of (gd := false) (k := 1) D sc_law_is_fraction rfl rfl (fun _ _ _ _ _ _ us hl => match us, hl with | [_], _ => rfl) fun f cdv A outer s H E hg hr => pxs_cons (px_if (PXW.t (pxw_or (pxt_not (pxt_truth (pb_isinstance G.ex G.b_isinstance (pxa_cons (px_var 0) (pxa_cons (px_ty G.b_tuple (by decide +kernel)) (pxa_nil)))))) (pxw_or1 (pxt_ne hr (pb_len G.b_len (pxa_cons (px_var 0) (pxa_nil))) (px_int))))) (pxs_one (px_ret (px_bl))) (pxs_nil)) (pxs_cons (px_if (pxt_not (pxt_truth (pb_all rfl G.b_all (pxa_cons (px_comp (own := [("one", 1)]) rfl sc_law_is_fraction.nd (pxi_tup (px_var 0)) (blkOk_by (N := ["value", "one"]) (sc := defScope s_law_is_fraction) (by decide +kernel)) (fun _ _ _ _ _ => pxg_name 1 sc_law_is_fraction.nd) (fun _ _ _ _ _ => pxts_nil) (fun _ _ _ _ _ => px_fn c_law_is_int hr (by decide) (fun z => nomatch z) (pxa_cons (px_var 1) (pxa_cons (px_neg (px_pow (px_pow (px_int) (px_int)) (px_int))) (pxa_cons (px_pow (px_pow (px_int) (px_int)) (px_int)) (pxa_nil))))) (by decide)) (pxa_nil))))) (pxs_one (px_ret (px_bl))) (pxs_nil)) (pxs_one (px_ret (px_and (px_gt (px_ix (px_var 0) (px_int)) (px_int)) (px_one (px_eq hr (px_fn c_law_gcd hr (by decide) (fun z => nomatch z) (pxa_cons (px_ix (px_var 0) (px_int)) (pxa_cons (px_ix (px_var 0) (px_int)) (pxa_nil)))) (px_int)))))))
abbrev s_law_parents : Stmt := top 39
theorem sc_law_parents : FnScope ["one", "top", "bottom", "old", "new", "rest", "left", "lap", "its", "low", "whole"] ["one"] (defScope s_law_parents) := ⟨rfl, rfl, rfl, by decide +kernel, rfl, by decide +kernel, by decide +kernel⟩
theorem d_law_parents (G : Gl0 P K mg) (D : DefIn K mg "_law_parents" s_law_parents) : Callee P w K mg base T false 1 "_law_parents" ["one"] f_law_parents :=
  callee_of (gd := false) (k := 0) D sc_law_parents rfl rfl (fun _ _ _ _ _ _ us hl => match us, hl with | [_], _ => rfl) fun f cdv A outer s H E hg hr => pxs_cons (px_asg (px_var 0) (pxg_tup rfl (pxgs_cons (pxg_name 1 sc_law_parents.nd) (pxgs_cons (pxg_name 2 sc_law_parents.nd) (pxgs_nil))) (gsl_cons (gsl_cons (gsl_nil))))) (pxs_cons (px_asg (px_tup (pxa_cons (px_int) (pxa_cons (px_int) (pxa_cons (px_var 2) (pxa_cons (px_mod (pb_int G.b_int (pxa_cons (px_var 1) (pxa_nil))) (px_var 2)) (pxa_nil)))))) (pxg_tup rfl (pxgs_cons (pxg_name 3 sc_law_parents.nd) (pxgs_cons (pxg_name 4 sc_law_parents.nd) (pxgs_cons (pxg_name 5 sc_law_parents.nd) (pxgs_cons (pxg_name 6 sc_law_parents.nd) (pxgs_nil))))) (gsl_cons (gsl_cons (gsl_cons (gsl_cons (gsl_nil))))))) (pxs_cons (px_for (passes_of rfl) rfl (pxi_range1 rfl G.b_range (pxa_cons (px_int) pxa_nil)) (pxg_name 7 sc_law_parents.nd) (pxs_cons (px_if (pxt_eq hr (px_var 6) (px_int)) (pxs_one (px_break)) (pxs_nil)) (pxs_cons (px_set 10 sc_law_parents.nd (px_div (px_var 5) (px_var 6))) (pxs_one (px_asg (px_tup (pxa_cons (px_var 6) (pxa_cons (px_sub (px_var 5) (px_mul (px_var 10) (px_var 6))) (pxa_cons (px_var 4) (pxa_cons (px_sub (px_var 3) (px_mul (px_var 10) (px_var 4))) (pxa_nil)))))) (pxg_tup rfl (pxgs_cons (pxg_name 5 sc_law_parents.nd) (pxgs_cons (pxg_name 6 sc_law_parents.nd) (pxgs_cons (pxg_name 3 sc_law_parents.nd) (pxgs_cons (pxg_name 4 sc_law_parents.nd) (pxgs_nil))))) (gsl_cons (gsl_cons (gsl_cons (gsl_cons (gsl_nil))))))))))) (pxs_cons (px_set 8 sc_law_parents.nd (px_mod (pb_int G.b_int (pxa_cons (px_var 3) (pxa_nil))) (px_var 2))) (pxs_cons (px_set 9 sc_law_parents.nd (px_tup (pxa_cons (px_div (px_sub (px_mul (px_var 1) (px_var 8)) (px_int)) (px_var 2)) (pxa_cons (px_var 8) (pxa_nil))))) (pxs_one (px_ret (px_tup (pxa_cons (px_var 9) (pxa_cons (px_tup (pxa_cons (px_sub (px_var 1) (px_ix (px_var 9) (px_int))) (pxa_cons (px_sub (px_var 2) (px_ix (px_var 9) (px_int))) (pxa_nil)))) (pxa_nil))))))))))
abbrev s_law_is_inside : Stmt := top 40
theorem sc_law_is_inside : FnScope ["one", "low", "high"] ["one", "low", "high"] (defScope s_law_is_inside) := ⟨rfl, rfl, rfl, by decide +kernel, rfl, by decide +kernel, by decide +kernel⟩
theorem d_law_is_inside (G : Gl0 P K mg) (D : DefIn K mg "_law_is_inside" s_law_is_inside) (c_law_is_below : Callee P w K mg base T false 1 "_law_is_below" ["one", "other"] f_law_is_below) : Callee P w K mg base T false 2 "_law_is_inside" ["one", "low", "high"] f_law_is_inside :=
  callee_of (gd := false) (k := 1) D sc_law_is_inside rfl rfl (fun _ _ _ _ _ _ us hl => match us, hl with | [_, _, _], _ => rfl) fun f cdv A outer s H E hg hr => pxs_one (px_ret (px_and (px_fn c_law_is_below hr (by decide) (fun z => nomatch z) (pxa_cons (px_var 1) (pxa_cons (px_var 0) (pxa_nil)))) (px_one (px_fn c_law_is_below hr (by decide) (fun z => nomatch z) (pxa_cons (px_var 0) (pxa_cons (px_var 2) (pxa_nil)))))))
abbrev s_law_is_simplest : Stmt := top 41
theorem sc_law_is_simplest : FnScope ["told", "low", "high", "by", "parent"] ["told", "low", "high"] (defScope s_law_is_simplest) := ⟨rfl, rfl, rfl, by decide +kernel, rfl, by decide +kernel, by decide +kernel⟩
theorem d_law_is_simplest (G : Gl0 P K mg) (D : DefIn K mg "_law_is_simplest" s_law_is_simplest) (c_law_is_fraction : Callee P w K mg base T false 2 "_law_is_fraction" ["value"] f_law_is_fraction) (c_law_is_inside : Callee P w K mg base T false 2 "_law_is_inside" ["one", "low", "high"] f_law_is_inside) (c_law_parents : Callee P w K mg base T false 1 "_law_parents" ["one"] f_law_parents) : Callee P w K mg base T false 3 "_law_is_simplest" ["told", "low", "high"] f_law_is_simplest :=
  callee_of (gd := false) (k := 2) D sc_law_is_simplest rfl rfl (fun _ _ _ _ _ _ us hl => match us, hl with | [_, _, _], _ => rfl) fun f cdv A outer s H E hg hr => pxs_cons (px_if (PXW.t (pxw_or (pxt_not (pxt_truth (px_fn c_law_is_fraction hr (by decide) (fun z => nomatch z) (pxa_cons (px_var 0) (pxa_nil))))) (pxw_or1 (pxt_not (pxt_truth (px_fn c_law_is_inside hr (by decide) (fun z => nomatch z) (pxa_cons (px_var 0) (pxa_cons (px_var 1) (pxa_cons (px_var 2) (pxa_nil)))))))))) (pxs_one (px_ret (px_bl))) (pxs_nil)) (pxs_cons (px_if (pxt_gt (px_ix (px_var 0) (px_int)) (px_int)) (pxs_one (px_ret (px_not (pb_any rfl G.b_any (pxa_cons (px_comp (own := [("parent", 4)]) rfl sc_law_is_simplest.nd (pxi_tup (px_fn c_law_parents hr (by decide) (fun z => nomatch z) (pxa_cons (px_var 0) (pxa_nil)))) (blkOk_by (N := ["told", "low", "high", "by", "parent"]) (sc := defScope s_law_is_simplest) (by decide +kernel)) (fun _ _ _ _ _ => pxg_name 4 sc_law_is_simplest.nd) (fun _ _ _ _ _ => pxts_nil) (fun _ _ _ _ _ => px_fn c_law_is_inside hr (by decide) (fun z => nomatch z) (pxa_cons (px_var 4) (pxa_cons (px_var 1) (pxa_cons (px_var 2) (pxa_nil))))) (by decide)) (pxa_nil)))))) (pxs_nil)) (pxs_cons (px_set 3 sc_law_is_simplest.nd (px_ifExp (pxt_gt (px_ix (px_var 0) (px_int)) (px_int)) (px_neg (px_int)) (px_int))) (pxs_one (px_ret (px_or (px_eq hr (px_ix (px_var 0) (px_int)) (px_int)) (px_one (px_not (px_fn c_law_is_inside hr (by decide) (fun z => nomatch z) (pxa_cons (px_tup (pxa_cons (px_add (px_ix (px_var 0) (px_int)) (px_var 3)) (pxa_cons (px_int) (pxa_nil)))) (pxa_cons (px_var 1) (pxa_cons (px_var 2) (pxa_nil))))))))))))
abbrev s_law_great_fraction : Stmt := top 42
theorem sc_law_great_fraction : FnScope ["pot", "most"] ["pot", "most"] (defScope s_law_great_fraction) := ⟨rfl, rfl, rfl, by decide +kernel, rfl, by decide +kernel, by decide +kernel⟩
theorem d_law_great_fraction (G : Gl0 P K mg) (D : DefIn K mg "_law_great_fraction" s_law_great_fraction) (c_law_take : Callee P w K mg base T false 1 "_law_take" ["pot", "upto"] f_law_take) (c_law_rate : Callee P w K mg base T false 2 "_law_rate" ["top", "bottom"] f_law_rate) : Callee P w K mg base T false 3 "_law_great_fraction" ["pot", "most"] f_law_great_fraction :=
  callee_of (gd := false) (k := 2) D sc_law_great_fraction rfl rfl (fun _ _ _ _ _ _ us hl => match us, hl with | [_, _], _ => rfl) fun f cdv A outer s H E hg hr => pxs_one (px_ret (px_fn c_law_rate hr (by decide) (fun z => nomatch z) (pxa_cons (px_sub (pb_int G.b_int (pxa_cons (px_fn c_law_take hr (by decide) (fun z => nomatch z) (pxa_cons (px_var 0) (pxa_cons (px_add (px_mul (px_int) (px_var 1)) (px_int)) (pxa_nil)))) (pxa_nil))) (px_var 1)) (pxa_cons (px_add (px_int) (pb_int G.b_int (pxa_cons (px_fn c_law_take hr (by decide) (fun z => nomatch z) (pxa_cons (px_var 0) (pxa_cons (px_var 1) (pxa_nil)))) (pxa_nil)))) (pxa_nil)))))
abbrev s_law_neighbours : Stmt := top 43
theorem sc_law_neighbours : FnScope ["pot", "one", "low", "high"] ["pot"] (defScope s_law_neighbours) := ⟨rfl, rfl, rfl, by decide +kernel, rfl, by decide +kernel, by decide +kernel⟩
theorem d_law_neighbours (G : Gl0 P K mg) (D : DefIn K mg "_law_neighbours" s_law_neighbours) (c_law_great_fraction : Callee P w K mg base T false 3 "_law_great_fraction" ["pot", "most"] f_law_great_fraction) (c_law_parents : Callee P w K mg base T false 1 "_law_parents" ["one"] f_law_parents) (c_law_of : Callee P w K mg base T false 2 "_law_of" ["pot", "some"] f_law_of) : Callee P w K mg base T false 4 "_law_neighbours" ["pot"] f_law_neighbours :=
  callee_of (gd := false) (k := 3) D sc_law_neighbours rfl rfl (fun _ _ _ _ _ _ us hl => match us, hl with | [_], _ => rfl) fun f cdv A outer s H E hg hr => pxs_cons (px_set 1 sc_law_neighbours.nd (px_fn c_law_great_fraction hr (by decide) (fun z => nomatch z) (pxa_cons (px_var 0) (pxa_cons (px_int) (pxa_nil))))) (pxs_cons (px_if (pxt_eq hr (px_ix (px_var 1) (px_int)) (px_int)) (pxs_one (px_ret (px_tup (pxa_cons (px_tup (pxa_cons (px_ix (px_var 1) (px_int)) (pxa_cons (px_int) (pxa_nil)))) (pxa_cons (px_tup (pxa_cons (px_add (px_ix (px_var 1) (px_int)) (px_int)) (pxa_cons (px_int) (pxa_nil)))) (pxa_nil)))))) (pxs_nil)) (pxs_cons (px_asg (px_fn c_law_parents hr (by decide) (fun z => nomatch z) (pxa_cons (px_var 1) (pxa_nil))) (pxg_tup rfl (pxgs_cons (pxg_name 2 sc_law_neighbours.nd) (pxgs_cons (pxg_name 3 sc_law_neighbours.nd) (pxgs_nil))) (gsl_cons (gsl_cons (gsl_nil))))) (pxs_one (px_ret (px_fn c_law_of hr (by decide) (fun z => nomatch z) (pxa_cons (px_var 0) (pxa_cons (px_lst (pxa_cons (px_tup (pxa_cons (px_var 2) (pxa_cons (px_var 1) (pxa_nil)))) (pxa_cons (px_tup (pxa_cons (px_var 1) (pxa_cons (px_var 3) (pxa_nil)))) (pxa_cons (px_tup (pxa_cons (px_var 2) (pxa_cons (px_var 3) (pxa_nil)))) (pxa_nil))))) (pxa_nil))))))))
abbrev s_law_is_near_right : Stmt := top 44
theorem sc_law_is_near_right : FnScope ["pot", "one", "bottom", "told"] ["pot", "one"] (defScope s_law_is_near_right) := ⟨rfl, rfl, rfl, by decide +kernel, rfl, by decide +kernel, by decide +kernel⟩
theorem d_law_is_near_right (G : Gl0 P K mg) (D : DefIn K mg "_law_is_near_right" s_law_is_near_right) (c_law_take : Callee P w K mg base T false 1 "_law_take" ["pot", "upto"] f_law_take) (c_law_of : Callee P w K mg base T false 2 "_law_of" ["pot", "some"] f_law_of) (c_nearest_with : Callee P w K mg base T false 5 "nearest_with" ["number", "bottom"] f_nearest_with) (c_law_is_fraction : Callee P w K mg base T false 2 "_law_is_fraction" ["value"] f_law_is_fraction) (c_law_is_below : Callee P w K mg base T false 1 "_law_is_below" ["one", "other"] f_law_is_below) (c_law_plus : Callee P w K mg base T false 3 "_law_plus" ["one", "other"] f_law_plus) : Callee P w K mg base T false 6 "_law_is_near_right" ["pot", "one"] f_law_is_near_right :=
  callee_of (gd := false) (k := 5) D sc_law_is_near_right rfl rfl (fun _ _ _ _ _ _ us hl => match us, hl with | [_, _], _ => rfl) fun f cdv A outer s H E hg hr => pxs_cons (px_set 2 sc_law_is_near_right.nd (px_fn c_law_of hr (by decide) (fun z => nomatch z) (pxa_cons (px_var 0) (pxa_cons (px_lst (pxa_cons (px_int) (pxa_cons (px_int) (pxa_cons (px_pow (px_int) (px_int)) (pxa_cons (px_int) (pxa_cons (px_add (px_int) (pb_int G.b_int (pxa_cons (px_fn c_law_take hr (by decide) (fun z => nomatch z) (pxa_cons (px_var 0) (pxa_cons (px_pow (px_int) (px_int)) (pxa_nil)))) (pxa_nil)))) (pxa_nil))))))) (pxa_nil))))) (pxs_cons (px_set 3 sc_law_is_near_right.nd (px_fn c_nearest_with hr (by decide) (fun z => nomatch z) (pxa_cons (px_var 1) (pxa_cons (px_var 2) (pxa_nil))))) (pxs_cons (px_if (PXW.t (pxw_or (pxt_not (pxt_truth (px_fn c_law_is_fraction hr (by decide) (fun z => nomatch z) (pxa_cons (px_var 3) (pxa_nil))))) (pxw_or (pxt_ne hr (px_mod (pb_int G.b_int (pxa_cons (px_var 2) (pxa_nil))) (px_ix (px_var 3) (px_int))) (px_int)) (pxw_or1 (pxt_truth (px_fn c_law_is_below hr (by decide) (fun z => nomatch z) (pxa_cons (px_var 1) (pxa_cons (px_var 3) (pxa_nil))))))))) (pxs_one (px_ret (px_bl))) (pxs_nil)) (pxs_one (px_ret (px_fn c_law_is_below hr (by decide) (fun z => nomatch z) (pxa_cons (px_var 1) (pxa_cons (px_fn c_law_plus hr (by decide) (fun z => nomatch z) (pxa_cons (px_var 3) (pxa_cons (px_tup (pxa_cons (px_int) (pxa_cons (px_var 2) (pxa_nil)))) (pxa_nil)))) (pxa_nil))))))))
abbrev s_law_right : Stmt := top 45
theorem sc_law_right : FnScope ["pot", "lap", "most", "way", "one", "other", "low", "high", "whole", "caught", "made"] ["pot"] (defScope s_law_right) := ⟨rfl, rfl, rfl, by decide +kernel, rfl, by decide +kernel, by decide +kernel⟩
theorem d_law_right (G : Gl0 P K mg) (D : DefInL K mg base T "_law_right" s_law_right) (c_law_take : Callee P w K mg base T false 1 "_law_take" ["pot", "upto"] f_law_take) (c_law_of : Callee P w K mg base T false 2 "_law_of" ["pot", "some"] f_law_of) (c_law_great_fraction : Callee P w K mg base T false 3 "_law_great_fraction" ["pot", "most"] f_law_great_fraction) (c_law_plus : Callee P w K mg base T false 3 "_law_plus" ["one", "other"] f_law_plus) (c_law_neighbours : Callee P w K mg base T false 4 "_law_neighbours" ["pot"] f_law_neighbours) (c_simplest_between : Callee P w K mg base T false 5 "simplest_between" ["one", "other"] f_simplest_between) (c_law_is_below : Callee P w K mg base T false 1 "_law_is_below" ["one", "other"] f_law_is_below) (c_is_fraction : Callee P w K mg base T false 3 "is_fraction" ["value"] f_is_fraction) (c_law_is_near_right : Callee P w K mg base T false 6 "_law_is_near_right" ["pot", "one"] f_law_is_near_right) (c_does_come_ahead : Callee P w K mg base T false 5 "does_come_ahead" ["one", "other"] f_does_come_ahead) (c_law_is_bool : Callee P w K mg base T false 1 "_law_is_bool" ["answer", "due"] f_law_is_bool) (c_added : Callee P w K mg base T false 5 "added" ["one", "other"] f_added) (c_is_lowest : Callee P w K mg base T false 2 "is_lowest" ["value"] f_is_lowest) (c_law_is_simplest : Callee P w K mg base T false 3 "_law_is_simplest" ["told", "low", "high"] f_law_is_simplest) (c_nearest_with : Callee P w K mg base T false 5 "nearest_with" ["number", "bottom"] f_nearest_with) : Callee P w K mg base T true 9 "_law_right" ["pot"] f_law_right :=
  callee_ofL (gd := true) (k := 8) D sc_law_right rfl rfl (fun _ _ _ _ _ _ us hl => match us, hl with | [_], _ => rfl) fun f cdv A outer s H E hl hg hr => pxs_cons (px_for (passes_of rfl) rfl (pxi_range1 rfl G.b_range (pxa_cons (px_int) pxa_nil)) (pxg_name 1 sc_law_right.nd) (pxs_cons (px_par 2 3 rfl sc_law_right.nd (by decide) (pxa_cons (px_fn c_law_of hr (by decide) (fun z => nomatch z) (pxa_cons (px_var 0) (pxa_cons (px_lst (pxa_cons (px_int) (pxa_cons (px_int) (pxa_cons (px_pow (px_int) (px_int)) (pxa_cons (px_pow (px_int) (px_int)) (pxa_nil)))))) (pxa_nil)))) (pxa_cons (px_fn c_law_take hr (by decide) (fun z => nomatch z) (pxa_cons (px_var 0) (pxa_cons (px_int) (pxa_nil)))) (pxa_nil)))) (pxs_cons (px_par 4 5 rfl sc_law_right.nd (by decide) (pxa_cons (px_fn c_law_great_fraction hr (by decide) (fun z => nomatch z) (pxa_cons (px_var 0) (pxa_cons (px_var 2) (pxa_nil)))) (pxa_cons (px_fn c_law_great_fraction hr (by decide) (fun z => nomatch z) (pxa_cons (px_var 0) (pxa_cons (px_var 2) (pxa_nil)))) (pxa_nil)))) (pxs_cons (px_if (PXW.t (pxw_and (pxt_eq hr (px_var 3) (px_int)) (pxw_and1 (pxt_lt (px_ix (px_var 4) (px_int)) (px_pow (px_int) (px_int)))))) (pxs_cons (px_set 10 sc_law_right.nd (px_fn c_law_plus hr (by decide) (fun z => nomatch z) (pxa_cons (px_var 4) (pxa_cons (px_tup (pxa_cons (px_int) (pxa_cons (px_add (px_int) (pb_int G.b_int (pxa_cons (px_fn c_law_take hr (by decide) (fun z => nomatch z) (pxa_cons (px_var 0) (pxa_cons (px_int) (pxa_nil)))) (pxa_nil)))) (pxa_nil)))) (pxa_nil))))) (pxs_one (px_set 5 sc_law_right.nd (px_ifExp (PXW.t (pxw_and (pxt_le (pb_abs G.b_abs (pxa_cons (px_ix (px_var 10) (px_int)) (pxa_nil))) (px_pow (px_int) (px_int))) (pxw_and1 (pxt_le (px_ix (px_var 10) (px_int)) (px_pow (px_int) (px_int)))))) (px_var 10) (px_var 5))))) (pxs_nil)) (pxs_cons (px_if (pxt_eq hr (px_var 3) (px_int)) (pxs_cons (px_asg (px_fn c_law_neighbours hr (by decide) (fun z => nomatch z) (pxa_cons (px_var 0) (pxa_nil))) (pxg_tup rfl (pxgs_cons (pxg_name 4 sc_law_right.nd) (pxgs_cons (pxg_name 5 sc_law_right.nd) (pxgs_nil))) (gsl_cons (gsl_cons (gsl_nil))))) (pxs_one (px_if (pxt_ne hr (pb_repr hr (hg rfl) G.b_repr (pxa_cons (px_fn c_simplest_between hr (by decide) (fun z => nomatch z) (pxa_cons (px_var 4) (pxa_cons (px_var 5) (pxa_nil)))) (pxa_nil))) (pb_repr hr (hg rfl) G.b_repr (pxa_cons (px_tup (pxa_cons (px_add (px_ix (px_var 4) (px_int)) (px_ix (px_var 5) (px_int))) (pxa_cons (px_add (px_ix (px_var 4) (px_int)) (px_ix (px_var 5) (px_int))) (pxa_nil)))) (pxa_nil)))) (pxs_one (px_ret (px_bl))) (pxs_nil)))) (pxs_nil)) (pxs_cons (px_asg (px_ifExp (pxt_truth (px_fn c_law_is_below hr (by decide) (fun z => nomatch z) (pxa_cons (px_var 5) (pxa_cons (px_var 4) (pxa_nil))))) (px_tup (pxa_cons (px_var 5) (pxa_cons (px_var 4) (pxa_nil)))) (px_tup (pxa_cons (px_var 4) (pxa_cons (px_var 5) (pxa_nil))))) (pxg_tup rfl (pxgs_cons (pxg_name 6 sc_law_right.nd) (pxgs_cons (pxg_name 7 sc_law_right.nd) (pxgs_nil))) (gsl_cons (gsl_cons (gsl_nil))))) (pxs_cons (px_if (PXW.t (pxw_or (pxt_notB (px_fn c_is_fraction hr (by decide) (fun z => nomatch z) (pxa_cons (px_var 6) (pxa_nil))) (px_bl)) (pxw_or (pxt_notB (px_fn c_is_fraction hr (by decide) (fun z => nomatch z) (pxa_cons (px_var 7) (pxa_nil))) (px_bl)) (pxw_or1 (pxt_not (pxt_truth (px_fn c_law_is_near_right hr (by decide) (fun z => nomatch z) (pxa_cons (px_var 0) (pxa_cons (px_var 4) (pxa_nil)))))))))) (pxs_one (px_ret (px_bl))) (pxs_nil)) (pxs_cons (px_if (PXW.t (pxw_or (pxt_not (pxt_truth (px_fn c_law_is_bool hr (by decide) (fun z => nomatch z) (pxa_cons (px_fn c_does_come_ahead hr (by decide) (fun z => nomatch z) (pxa_cons (px_var 6) (pxa_cons (px_var 7) (pxa_nil)))) (pxa_cons (px_ne hr (px_var 6) (px_var 7)) (pxa_nil)))))) (pxw_or1 (pxt_notB (px_fn c_does_come_ahead hr (by decide) (fun z => nomatch z) (pxa_cons (px_var 7) (pxa_cons (px_var 6) (pxa_nil)))) (px_bl))))) (pxs_one (px_ret (px_bl))) (pxs_nil)) (pxs_cons (px_set 8 sc_law_right.nd (px_fn c_added hr (by decide) (fun z => nomatch z) (pxa_cons (px_var 6) (pxa_cons (px_var 7) (pxa_nil))))) (pxs_cons (px_if (PXW.t (pxw_or (pxt_ne hr (pb_repr hr (hg rfl) G.b_repr (pxa_cons (px_var 8) (pxa_nil))) (pb_repr hr (hg rfl) G.b_repr (pxa_cons (px_fn c_law_plus hr (by decide) (fun z => nomatch z) (pxa_cons (px_var 6) (pxa_cons (px_var 7) (pxa_nil)))) (pxa_nil)))) (pxw_or1 (pxt_notB (px_fn c_is_lowest hr (by decide) (fun z => nomatch z) (pxa_cons (px_var 8) (pxa_nil))) (px_bl))))) (pxs_one (px_ret (px_bl))) (pxs_nil)) (pxs_cons (px_if (PXW.t (pxw_and (pxt_ne hr (px_var 6) (px_var 7)) (pxw_and1 (pxt_not (pxt_truth (px_fn c_law_is_simplest hr (by decide) (fun z => nomatch z) (pxa_cons (px_fn c_simplest_between hr (by decide) (fun z => nomatch z) (pxa_cons (px_var 6) (pxa_cons (px_var 7) (pxa_nil)))) (pxa_cons (px_var 6) (pxa_cons (px_var 7) (pxa_nil)))))))))) (pxs_one (px_ret (px_bl))) (pxs_nil)) (pxs_cons (px_set 9 sc_law_right.nd (px_ix (px_heard (k := 6) G.ex G.heard hl (hr.mono (by decide)) (show LamX.lamSB (defScope s_law_right) _ = true by decide +kernel) (fun _ _ _ _ _ _ _ hr => px_fn c_simplest_between hr (by decide) (fun z => nomatch z) (pxa_cons (px_var 7) (pxa_cons (px_var 6) (pxa_nil))))) (px_int))) (pxs_cons (px_if (PXW.t (pxw_or (pxt_not (pxt_truth (pb_isinstance G.ex G.b_isinstance (pxa_cons (px_var 9) (pxa_cons (px_cls G.a_BadFraction) (pxa_nil)))))) (pxw_or1 (pxt_ne hr (pb_repr hr (hg rfl) G.b_repr (pxa_cons (px_value G.ex (px_var 9)) (pxa_nil))) (pb_repr hr (hg rfl) G.b_repr (pxa_cons (px_var 6) (pxa_nil))))))) (pxs_one (px_ret (px_bl))) (pxs_nil)) (pxs_one (px_if (pxt_not (pxt_truth (pb_isinstance G.ex G.b_isinstance (pxa_cons (px_ix (px_heard (k := 6) G.ex G.heard hl (hr.mono (by decide)) (show LamX.lamSB (defScope s_law_right) _ = true by decide +kernel) (fun _ _ _ _ _ _ _ hr => px_fn c_nearest_with hr (by decide) (fun z => nomatch z) (pxa_cons (px_var 6) (pxa_cons (px_add (px_pow (px_int) (px_int)) (px_int)) (pxa_nil))))) (px_int)) (pxa_cons (px_cls G.a_BadInt) (pxa_nil)))))) (pxs_one (px_ret (px_bl))) (pxs_nil)))))))))))))))) (pxs_one (px_ret (px_bl)))
abbrev s_law : Stmt := top 46
theorem sc_law : FnScope ["script", "place"] ["script"] (defScope s_law) := ⟨rfl, rfl, rfl, by decide +kernel, rfl, by decide +kernel, by decide +kernel⟩
theorem d_law (G : Gl0 P K mg) (D : DefIn K mg "law" s_law) (c_law_cells : Callee P w K mg base T false 1 "_law_cells" ["script", "most"] f_law_cells) (c_law_pot : Callee P w K mg base T false 1 "_law_pot" ["script", "place"] f_law_pot) (c_law_right : Callee P w K mg base T true 9 "_law_right" ["pot"] f_law_right) : Callee P w K mg base T true 10 "law" ["script"] f_law :=
  callee_of (gd := true) (k := 9) D sc_law rfl rfl (fun _ _ _ _ _ _ us hl => match us, hl with | [_], _ => rfl) fun f cdv A outer s H E hg hr => pxs_one (px_ret (pb_all rfl G.b_all (pxa_cons (px_comp (own := [("place", 1)]) rfl sc_law.nd (pxi_lst (px_fn c_law_cells hr (by decide) (fun z => nomatch z) (pxa_cons (px_var 0) (pxa_cons (px_int) (pxa_nil))))) (blkOk_by (N := ["script", "place"]) (sc := defScope s_law) (by decide +kernel)) (fun _ _ _ _ _ => pxg_name 1 sc_law.nd) (fun _ _ _ _ _ => pxts_nil) (fun _ _ _ _ _ => px_fn c_law_right hr (by decide) hg (pxa_cons (px_fn c_law_pot hr (by decide) (fun z => nomatch z) (pxa_cons (px_var 0) (pxa_cons (px_var 1) (pxa_nil)))) (pxa_nil))) (by decide)) (pxa_nil))))
end
end K45


set_option linter.all false
set_option autoImplicit false
set_option Elab.async false
set_option maxRecDepth 100000
set_option maxHeartbeats 2000000
/-! DLp: the mirror's combinators at work; the greatest common divisor, fractions in lowest terms. -/
namespace DL
open PySem
section
variable (ρ : Env) (S : Sto) (a b c : EF) (t u : TF) (s s' : SF)
@[simp] theorem ap_var (i : Nat) : eVar i ρ S = match ρ[i]? with | some (some d) => .ok d S | _ => .bad := rfl
@[simp] theorem ap_C (d : D) : eC d ρ S = .ok d S := rfl
@[simp] theorem ap_bin (g : D → D → Sto → R D) : eBin g a b ρ S = (a ρ S).bind fun x S => (b ρ S).bind fun y S => g x y S := rfl
@[simp] theorem ap_un (g : D → Sto → R D) : eUn g a ρ S = (a ρ S).bind fun x S => g x S := rfl
@[simp] theorem ap_and : eAnd a b ρ S = (a ρ S).bind fun x S => match x with | .bl true => b ρ S | .bl false => .ok (.bl false) S | _ => .bad := rfl
@[simp] theorem ap_or : eOr a b ρ S = (a ρ S).bind fun x S => match x with | .bl true => .ok (.bl true) S | .bl false => b ρ S | _ => .bad := rfl
@[simp] theorem ap_not : eNot a ρ S = (a ρ S).bind fun x S => match x with | .bl c => .ok (.bl (!c)) S | _ => .bad := rfl
@[simp] theorem ap_if : eIf t a b ρ S = (t ρ S).bind fun c S => match c with | true => a ρ S | false => b ρ S := rfl
@[simp] theorem ap_chain (g h : D → D → Sto → R D) : eChain g h a b c ρ S = (a ρ S).bind fun x S => (b ρ S).bind fun y S => (g x y S).bind fun k S => match k with | .bl true => (c ρ S).bind fun z S => h y z S | .bl false => .ok (.bl false) S | _ => .bad := rfl
@[simp] theorem ap_tOf : tOf a ρ S = (a ρ S).bind fun x S => match x with | .bl c => .ok c S | _ => .bad := rfl
@[simp] theorem ap_tAnd : DL.tAnd t u ρ S = (t ρ S).bind fun c S => match c with | true => u ρ S | false => .ok false S := rfl
@[simp] theorem ap_tOr : DL.tOr t u ρ S = (t ρ S).bind fun c S => match c with | true => .ok true S | false => u ρ S := rfl
@[simp] theorem ap_tNot : DL.tNot t ρ S = (t ρ S).bind fun c S => .ok (!c) S := rfl
@[simp] theorem ap_tTru : tTru a ρ S = (a ρ S).bind fun x S => match truD S x with | some c => .ok c S | none => .bad := rfl
@[simp] theorem ap_nil : aNil ρ S = .ok [] S := rfl
@[simp] theorem ap_cons (r : AF) : aCons a r ρ S = (a ρ S).bind fun x S => (r ρ S).bind fun xs S => .ok (x :: xs) S := rfl
@[simp] theorem ap_tup (r : AF) : eTup r ρ S = (r ρ S).bind fun xs S => if xs.length ≤ 16777216 then .ok (.tup xs) S else .bad := rfl
@[simp] theorem ap_lst (r : AF) : eLst r ρ S = (r ρ S).bind fun xs S => if xs.length ≤ 16777216 then .ok (.lst xs) S else .bad := rfl
@[simp] theorem ap_new (r : AF) : eNew r ρ S = (r ρ S).bind fun xs S => if xs.length ≤ 16777216 then .ok (.loc S.length) (S ++ [xs]) else .bad := rfl
@[simp] theorem ap_call (f : FN) (r : AF) : eCall f r ρ S = (r ρ S).bind fun xs S => f xs S := rfl
@[simp] theorem ap_sNil : sNil ρ S = .nx ρ S := rfl
@[simp] theorem ap_sSeq : sSeq s s' ρ S = (s ρ S).then fun ρ S => s' ρ S := rfl
@[simp] theorem ap_sRet : sRet a ρ S = (a ρ S).st ρ fun d S => .rt d S := rfl
@[simp] theorem ap_sRetN : sRetN ρ S = .rt .non S := rfl
@[simp] theorem ap_sBreak : sBreak ρ S = .bk ρ S := rfl
@[simp] theorem ap_sExpr : sExpr a ρ S = (a ρ S).st ρ fun _ S => .nx ρ S := rfl
@[simp] theorem ap_sIf : sIf t s s' ρ S = (t ρ S).st ρ fun c S => match c with | true => s ρ S | false => s' ρ S := rfl
@[simp] theorem ap_sAsg (g : TgF) : sAsg g a ρ S = (a ρ S).st ρ fun d S => match g d ρ with | some ρ => .nx ρ S | none => .bad := rfl
@[simp] theorem ap_sSet (i : Nat) : sSet i a ρ S = (a ρ S).st ρ fun d S => .nx (ρ.set i (some d)) S := rfl
@[simp] theorem ap_sPar (i j : Nat) (r : AF) : sPar i j r ρ S = (r ρ S).st ρ fun ds S => match ds with | [x, y] => .nx ((ρ.set i (some x)).set j (some y)) S | _ => .bad := rfl
@[simp] theorem ap_sPar3 (i j k : Nat) (r : AF) : sPar3 i j k r ρ S = (r ρ S).st ρ fun ds S => match ds with | [x, y, z] => .nx (((ρ.set i (some x)).set j (some y)).set k (some z)) S | _ => .bad := rfl
@[simp] theorem ap_sSub : sSub a b c ρ S = (c ρ S).st ρ fun v S => (a ρ S).st ρ fun o S => (b ρ S).st ρ fun i S => match setD o i v S with | some S => .nx ρ S | none => .bad := rfl
@[simp] theorem ap_sRaise (x : Str) : sRaise x a ρ S = (a ρ S).st ρ fun v S => .exc x v ρ S := rfl
@[simp] theorem ap_sFor (it : AF) (g : TgF) : sFor it g s ρ S = (it ρ S).st ρ fun ds S => forL g s ds ρ S := rfl
@[simp] theorem ap_tYes : tYes ρ S = .ok true S := rfl
@[simp] theorem ap_comp (vs : List Nat) (it : AF) (g : TgF) : eComp vs it g t a ρ S = (it ρ S).bind fun ds S => if ds.length ≤ 16777216 then (compL vs g t a ρ ds S).bind fun ys S => .ok (.lst ys) S else .bad := rfl
@[simp] theorem ap_wTup : wTup a ρ S = (a ρ S).bind fun x S => match x with | .tup xs => .ok xs S | _ => .bad := rfl
@[simp] theorem ap_wLst : wLst a ρ S = (a ρ S).bind fun x S => match x with | .lst xs => .ok xs S | _ => .bad := rfl
@[simp] theorem ap_listRg (r : AF) : eListRg r ρ S = (r ρ S).bind fun ds S => if ds.length ≤ 16777216 then .ok (.lst ds) S else .bad := rfl
@[simp] theorem ap_none : oNone ρ S = .ok none S := rfl
@[simp] theorem ap_some : oSome a ρ S = (a ρ S).bind fun x S => match x with | .int i => .ok (some i) S | _ => .bad := rfl
end
theorem rng_ok {j : Int} {r : AF} {ρ : Env} {S S' : Sto} (h : r ρ S = .ok [.int j] S') (h1 : 0 ≤ j) (h2 : j ≤ 1000000) : fRange1 r ρ S = .ok (rngL 0 j.toNat) S' := by
  have e : (2 : Int) ^ 62 = 4611686018427387904 := by decide +kernel
  unfold fRange1
  rw [h]
  show (if -(2 ^ 62) ≤ j ∧ j < 2 ^ 62 then R.ok (rngL 0 j.toNat) S' else R.bad) = _
  rw [if_pos (by rw [e]; omega)]
@[simp] theorem g_set (i : Nat) (d : D) (ρ : Env) : gSet i d ρ = some (ρ.set i (some d)) := rfl
@[simp] theorem g_nil (ρ : Env) : gsNil [] ρ = some ρ := rfl
@[simp] theorem g_cons (g : TgF) (r : TgsF) (d : D) (ds : List D) (ρ : Env) : gsCons g r (d :: ds) ρ = (g d ρ).bind fun ρ => r ds ρ := rfl
@[simp] theorem g_tup (r : TgsF) (ds : List D) (ρ : Env) : gTupD r (.tup ds) ρ = r ds ρ := rfl
@[simp] theorem d_add (i j : Int) (S : Sto) : dAdd (.int i) (.int j) S = .ok (.int (i + j)) S := rfl
@[simp] theorem d_sub (i j : Int) (S : Sto) : dSub (.int i) (.int j) S = .ok (.int (i - j)) S := rfl
@[simp] theorem d_neg (i : Int) (S : Sto) : dNeg (.int i) S = .ok (.int (-i)) S := rfl
@[simp] theorem d_lt (i j : Int) (S : Sto) : dLt (.int i) (.int j) S = .ok (.bl (decide (i < j))) S := rfl
@[simp] theorem d_le (i j : Int) (S : Sto) : dLe (.int i) (.int j) S = .ok (.bl (decide (i ≤ j))) S := rfl
@[simp] theorem d_gt (i j : Int) (S : Sto) : dGt (.int i) (.int j) S = .ok (.bl (decide (j < i))) S := rfl
@[simp] theorem d_ge (i j : Int) (S : Sto) : dGe (.int i) (.int j) S = .ok (.bl (decide (j ≤ i))) S := rfl
theorem d_mul {i j : Int} (h : mulOk i j = true) (S : Sto) : dMul (.int i) (.int j) S = .ok (.int (i * j)) S := by
  show (if mulOk i j then _ else _) = _
  rw [if_pos h]
theorem d_div {i j : Int} (h : divOk j = true) (S : Sto) : dDiv (.int i) (.int j) S = .ok (.int (i.fdiv j)) S := by
  show (if divOk j then _ else _) = _
  rw [if_pos h]
theorem d_mod {i j : Int} (h : j ≠ 0) (S : Sto) : dMod (.int i) (.int j) S = .ok (.int (i.fmod j)) S := by
  show (if j ≠ 0 then _ else _) = _
  rw [if_pos h]
@[simp] theorem f_abs (i : Int) (S : Sto) : fAbs [.int i] S = .ok (.int i.natAbs) S := by
  show R.ok (D.int (if i < 0 then -i else i)) S = _
  congr 2; split <;> omega
@[simp] theorem f_int (i : Int) (S : Sto) : fInt [.int i] S = .ok (.int i) S := rfl
@[simp] theorem f_intB (b : Bool) (S : Sto) : fInt [.bl b] S = .ok (.int (b2i b)) S := rfl
theorem at_0 {α : Type} (x : α) (xs : List α) : L2.atI (x :: xs) 0 = some x := by
  unfold L2.atI L2.ixN
  rw [if_pos (Int.le_refl 0), if_pos (by simp)]; rfl
theorem at_1 {α : Type} (x y : α) (xs : List α) : L2.atI (x :: y :: xs) 1 = some y := by
  unfold L2.atI L2.ixN
  rw [if_pos (by decide), if_pos (by simp; omega)]; rfl
theorem at_2 {α : Type} (x y z : α) (xs : List α) : L2.atI (x :: y :: z :: xs) 2 = some z := by
  unfold L2.atI L2.ixN
  rw [if_pos (by decide), if_pos (by simp; omega)]; rfl
@[simp] theorem ix_t0 (x : D) (xs : List D) (S : Sto) : dIx (.tup (x :: xs)) (.int 0) S = .ok x S := by
  show (match L2.atI (x :: xs) 0 with | some d => R.ok d S | none => R.bad) = _
  rw [at_0]
@[simp] theorem ix_t1 (x y : D) (S : Sto) : dIx (.tup [x, y]) (.int 1) S = .ok y S := by
  show (match L2.atI [x, y] 1 with | some d => R.ok d S | none => R.bad) = _
  rw [at_1]
@[simp] theorem len_t (xs : List D) (S : Sto) : fLen [.tup xs] S = .ok (.int xs.length) S := rfl
@[simp] theorem len_l (xs : List D) (S : Sto) : fLen [.lst xs] S = .ok (.int xs.length) S := rfl
/-! ### equality of data -/
theorem eqI (i j : Int) : eqD (.int i) (.int j) = some (decide (i = j)) := by
  unfold eqD
  simp [D.pd, SeqAt.shaped, PyData.eqv, PyData.canLay0, PyData.depth]
  rfl
/-- a fraction, a pair of fractions -/
def F (x : Int × Int) : D := .tup [.int x.1, .int x.2]
def F2 (x y : Int × Int) : D := .tup [F x, F y]
theorem eqF (x y : Int × Int) : eqD (F x) (F y) = some (decide (x = y)) := by
  obtain ⟨a, b⟩ := x; obtain ⟨c, d⟩ := y
  unfold eqD F
  simp [D.pd, D.pdL, SeqAt.shaped, PyData.eqv, PyData.canLay0, PyData.canLayAll0, PyData.depth, PyData.depthAll, PyData.eqvAll]
  try grind
theorem eqF2 (x y u v : Int × Int) : eqD (F2 x y) (F2 u v) = some (decide (x = u ∧ y = v)) := by
  obtain ⟨a, b⟩ := x; obtain ⟨c, d⟩ := y
  unfold eqD F2 F
  simp [D.pd, D.pdL, SeqAt.shaped, PyData.eqv, PyData.canLay0, PyData.canLayAll0, PyData.depth, PyData.depthAll, PyData.eqvAll]
  try grind
/-! ### sizes -/
theorem log_of {i : Int} {n : Nat} (h : i.natAbs < 2 ^ n) (hn : 0 < n) : i.natAbs.log2 < n := by
  by_cases z : i.natAbs = 0
  · rw [z]; simpa using hn
  · exact (Nat.log2_lt z).mpr h
theorem mulOk_of {i j : Int} (h1 : i.natAbs < 2 ^ 400000) (h2 : j.natAbs < 2 ^ 400000) : mulOk i j = true := by
  have a := log_of h1 (by omega)
  have b := log_of h2 (by omega)
  unfold mulOk
  exact decide_eq_true (by omega)
theorem divOk_of {j : Int} (h0 : j ≠ 0) (h : j.natAbs < 2 ^ 9000) : divOk j = true := by
  have a := log_of h (by omega)
  unfold divOk
  exact decide_eq_true ⟨h0, a⟩
end DL


set_option linter.all false
set_option autoImplicit false
set_option Elab.async false
set_option maxRecDepth 100000
set_option maxHeartbeats 2000000
/-! DLq: fractions in lowest terms, whole numbers only. -/
namespace DL
/-- t / b in lowest terms -/
def red (t b : Int) : Int × Int := (t.fdiv (if b < 0 then -(Int.gcd t b : Int) else (Int.gcd t b : Int)), b.fdiv (if b < 0 then -(Int.gcd t b : Int) else (Int.gcd t b : Int)))
structure Low (x : Int × Int) : Prop where
  pos : 0 < x.2
  one : Int.gcd x.1 x.2 = 1
theorem red_spec (t b : Int) (h : b ≠ 0) : ∃ g : Int, g ≠ 0 ∧ t = g * (red t b).1 ∧ b = g * (red t b).2 ∧ Low (red t b) := by
  have hg : 0 < Int.gcd t b := Int.gcd_pos_of_ne_zero_right t h
  obtain ⟨t', ht⟩ := Int.gcd_dvd_left (a := t) (b := b)
  obtain ⟨b', hb⟩ := Int.gcd_dvd_right (a := t) (b := b)
  have hg0 : (Int.gcd t b : Int) ≠ 0 := by omega
  have one : Int.gcd t' b' = 1 := by
    have e : Int.gcd ((Int.gcd t b : Int) * t') ((Int.gcd t b : Int) * b') = Int.gcd t b := by rw [← ht, ← hb]
    rw [Int.gcd_mul_left] at e
    have : Int.gcd t b * Int.gcd t' b' = Int.gcd t b * 1 := by simpa using e
    exact Nat.eq_of_mul_eq_mul_left hg this
  by_cases hn : b < 0
  · have e1 : t.fdiv (-(Int.gcd t b : Int)) = -t' := by
      have : t = (-(Int.gcd t b : Int)) * (-t') := by rw [Int.neg_mul_neg]; exact ht
      conv => lhs; arg 1; rw [this]
      exact Int.mul_fdiv_cancel_left _ (by omega)
    have e2 : b.fdiv (-(Int.gcd t b : Int)) = -b' := by
      have : b = (-(Int.gcd t b : Int)) * (-b') := by rw [Int.neg_mul_neg]; exact hb
      conv => lhs; arg 1; rw [this]
      exact Int.mul_fdiv_cancel_left _ (by omega)
    have er : red t b = (-t', -b') := by unfold red; rw [if_pos hn, e1, e2]
    have hb' : b' < 0 := by
      by_cases z : b' < 0
      · exact z
      · have : 0 ≤ (Int.gcd t b : Int) * b' := Int.mul_nonneg (by omega) (by omega)
        omega
    refine ⟨-(Int.gcd t b : Int), by omega, ?_, ?_, ⟨?_, ?_⟩⟩
    · rw [er]; show t = -(Int.gcd t b : Int) * -t'; rw [Int.neg_mul_neg]; exact ht
    · rw [er]; show b = -(Int.gcd t b : Int) * -b'; rw [Int.neg_mul_neg]; exact hb
    · rw [er]; show 0 < -b'; omega
    · rw [er]; show Int.gcd (-t') (-b') = 1; rw [Int.neg_gcd, Int.gcd_neg]; exact one
  · have e1 : t.fdiv (Int.gcd t b : Int) = t' := by conv => lhs; arg 1; rw [ht]
                                                    exact Int.mul_fdiv_cancel_left _ hg0
    have e2 : b.fdiv (Int.gcd t b : Int) = b' := by conv => lhs; arg 1; rw [hb]
                                                    exact Int.mul_fdiv_cancel_left _ hg0
    have er : red t b = (t', b') := by unfold red; rw [if_neg hn, e1, e2]
    have hb' : 0 < b' := by
      by_cases z : 0 < b'
      · exact z
      · have : (Int.gcd t b : Int) * b' ≤ 0 := Int.mul_nonpos_of_nonneg_of_nonpos (by omega) (by omega)
        omega
    exact ⟨Int.gcd t b, hg0, by rw [er]; exact ht, by rw [er]; exact hb, by rw [er]; exact hb', by rw [er]; exact one⟩
theorem low_uniq {x y : Int × Int} (hx : Low x) (hy : Low y) (h : x.1 * y.2 = y.1 * x.2) : x = y := by
  have key : ∀ {x y : Int × Int}, Low x → Low y → x.1 * y.2 = y.1 * x.2 → x.2.natAbs ∣ y.2.natAbs := fun {x y} hx hy h => by
    have d : x.2.natAbs ∣ x.1.natAbs * y.2.natAbs := by
      rw [← Int.natAbs_mul, h, Int.natAbs_mul]
      exact Nat.dvd_mul_left _ _
    have c : Nat.Coprime x.2.natAbs x.1.natAbs := by
      have := hx.one
      unfold Int.gcd at this
      rw [Nat.coprime_comm]; exact this
    exact c.dvd_of_dvd_mul_left d
  have e : x.2 = y.2 := by
    have := Nat.dvd_antisymm (key hx hy h) (key hy hx h.symm)
    have := hx.pos; have := hy.pos
    omega
  have e1 : x.1 = y.1 := by
    rw [e] at h
    exact Int.eq_of_mul_eq_mul_right (by have := hy.pos; omega) h
  exact Prod.ext e1 e
theorem red_cross (t b : Int) (h : b ≠ 0) : (red t b).1 * b = t * (red t b).2 := by
  obtain ⟨g, g0, e1, e2, _⟩ := red_spec t b h
  generalize red t b = x at *
  rw [e1, e2]; grind
theorem red_low (t b : Int) (h : b ≠ 0) : Low (red t b) := (red_spec t b h).choose_spec.2.2.2
theorem red_eq {t b u d : Int} (hb : b ≠ 0) (hd : d ≠ 0) (h : t * d = u * b) : red t b = red u d := by
  refine low_uniq (red_low t b hb) (red_low u d hd) ?_
  obtain ⟨g, g0, e1, e2, _⟩ := red_spec t b hb
  obtain ⟨k, k0, e3, e4, _⟩ := red_spec u d hd
  generalize red t b = x at *
  generalize red u d = y at *
  have : (g * k) * (x.1 * y.2) = (g * k) * (y.1 * x.2) := by rw [e1, e2, e3, e4] at h; grind
  exact Int.eq_of_mul_eq_mul_left (Int.mul_ne_zero g0 k0) this
theorem red_of_low {x : Int × Int} (h : Low x) : red x.1 x.2 = x := by
  have n : x.2 ≠ 0 := by have := h.pos; omega
  exact low_uniq (red_low _ _ n) h (red_cross _ _ n)
theorem red_ne {t b u d : Int} (hb : b ≠ 0) (hd : d ≠ 0) (h : red t b = red u d) : t * d = u * b := by
  have c1 := red_cross t b hb
  have c2 := red_cross u d hd
  obtain ⟨g, g0, e1, e2, lo⟩ := red_spec t b hb
  obtain ⟨k, k0, e3, e4, _⟩ := red_spec u d hd
  rw [← h] at e3 e4
  generalize red t b = x at *
  rw [e1, e4, e3, e2]; grind
/-- the bottom is not greater, the top neither -/
theorem red_le (t b : Int) (h : b ≠ 0) : (red t b).1.natAbs ≤ t.natAbs ∧ (red t b).2.natAbs ≤ b.natAbs := by
  obtain ⟨g, g0, e1, e2, _⟩ := red_spec t b h
  generalize red t b = x at *
  have hg : 1 ≤ g.natAbs := by omega
  constructor
  · rw [e1, Int.natAbs_mul]; exact Nat.le_mul_of_pos_left _ hg
  · rw [e2, Int.natAbs_mul]; exact Nat.le_mul_of_pos_left _ hg
theorem red_gcd (t b : Int) (h : b ≠ 0) : Int.gcd t b ≤ b.natAbs := Nat.le_of_dvd (by omega) (Int.gcd_dvd_natAbs_right t b)
end DL


set_option linter.all false
set_option autoImplicit false
set_option Elab.async false
set_option maxRecDepth 100000
set_option maxHeartbeats 2000000
/-! DLr: repr. -/
namespace DL
open PySem
theorem okS (s : String) : PyData.strOk (Str.ofString s) = true := by
  rw [Str.ofString_eq_toList]
  unfold PyData.strOk
  simp only [List.all_toArray, List.all_eq_true, List.mem_map, decide_eq_true_eq, forall_exists_index, and_imp, forall_apply_eq_imp_iff₂]
  intro c _
  have := c.valid
  unfold Char.toNat
  rcases this with h | ⟨_, h⟩
  · exact Nat.lt_trans h (by decide)
  · exact h
theorem okApp {a b : Str} (ha : PyData.strOk a = true) (hb : PyData.strOk b = true) : PyData.strOk (a ++ b) = true := by
  unfold PyData.strOk at *
  have e : (a ++ b).cps = a.cps ++ b.cps := rfl
  rw [e, Array.all_append, ha, hb]; rfl
theorem okJoin : ∀ ts : List Str, (∀ t ∈ ts, PyData.strOk t = true) → PyData.strOk (Str.join ", " ts) = true
  | [], _ => by decide +kernel
  | [x], h => h x (by simp)
  | x :: y :: r, h => by
    show PyData.strOk (x ++ Str.ofString ", " ++ Str.join ", " (y :: r)) = true
    exact okApp (okApp (h x (by simp)) (okS _)) (okJoin (y :: r) fun t ht => h t (List.mem_cons_of_mem _ ht))
mutual
/-- whole numbers (short), truth values, None, tuples of these -/
def plainP : PyData → Bool
  | .none => true
  | .bool _ => true
  | .int i => decide (i.natAbs < 2 ^ 1900)
  | .tuple xs => plainPs xs
  | _ => false
def plainPs : List PyData → Bool
  | [] => true
  | x :: xs => plainP x && plainPs xs
end
mutual
theorem ok_shown : ∀ d : PyData, plainP d = true → PyData.strOk d.shown = true
  | .none, _ => okS _
  | .bool b, _ => by cases b <;> exact okS _
  | .int i, _ => okS _
  | .tuple xs, h => by
    have hx : plainPs xs = true := by simpa [plainP] using h
    have e : (PyData.tuple xs).shown = tupleText (PyData.shownAll xs) := by simp only [PyData.shown]
    rw [e]
    refine okApp (okApp (okS _) (okJoin _ (ok_shownAll xs hx))) (okS _)
  | .str _, h => by simp [plainP] at h
  | .list _, h => by simp [plainP] at h
  | .dict _, h => by simp [plainP] at h
theorem ok_shownAll : ∀ ds : List PyData, plainPs ds = true → ∀ t ∈ PyData.shownAll ds, PyData.strOk t = true
  | [], _, t, h => by simp [PyData.shownAll] at h
  | x :: xs, hp, t, h => by
    simp only [plainPs, Bool.and_eq_true] at hp
    simp only [PyData.shownAll, List.mem_cons] at h
    rcases h with rfl | h
    · exact ok_shown x hp.1
    · exact ok_shownAll xs hp.2 t h
end
mutual
theorem plain_short : ∀ d : PyData, plainP d = true → d.leavesShort 600 = true ∧ d.showable = true ∧ d.canLay0 = true
  | .none, _ => by simp [PyData.leavesShort, PyData.showable, PyData.canLay0]
  | .bool b, _ => by simp [PyData.leavesShort, PyData.showable, PyData.canLay0]
  | .int i, h => by
    have h : i.natAbs < 2 ^ 1900 := by simpa [plainP] using h
    have h10 : (2 : Nat) ^ 1900 ≤ 10 ^ 580 := by decide +kernel
    refine ⟨?_, ?_, by simp [PyData.canLay0]⟩
    · simp only [PyData.leavesShort, decide_eq_true_eq]
      have e := int_text_length_le10 (k := 580) (a := i) (by decide) (Nat.lt_of_lt_of_le h h10)
      show (Str.ofString (toString i)).length ≤ 600
      have el : (Str.ofString (toString i)).length = (toString i).length := by first | exact ofString_length _ | exact Str.ofString_length _ | exact StrLaws.ofString_length _
      rw [el]
      exact Nat.le_trans e (by decide)
    · have := log_of (i := i) h (by decide)
      simp only [PyData.showable, decide_eq_true_eq]; omega
  | .tuple xs, h => by
    have hx : plainPs xs = true := by simpa [plainP] using h
    obtain ⟨a, b, c⟩ := plains_short xs hx
    simp [PyData.leavesShort, PyData.showable, PyData.canLay0, a, b, c]
  | .str _, h => by simp [plainP] at h
  | .list _, h => by simp [plainP] at h
  | .dict _, h => by simp [plainP] at h
theorem plains_short : ∀ ds : List PyData, plainPs ds = true → PyData.leavesShortAll 600 ds = true ∧ PyData.showableAll ds = true ∧ PyData.canLayAll0 ds = true
  | [], _ => by simp [PyData.leavesShortAll, PyData.showableAll, PyData.canLayAll0]
  | x :: xs, hp => by
    simp only [plainPs, Bool.and_eq_true] at hp
    obtain ⟨a, b, c⟩ := plain_short x hp.1
    obtain ⟨a', b', c'⟩ := plains_short xs hp.2
    simp [PyData.leavesShortAll, PyData.showableAll, PyData.canLayAll0, a, b, c, a', b', c']
end
/-- repr gives the text t -/
theorem repr_eq {x : D} {p : PyData} (h : x.pd = some p) (hp : plainP p = true) (hb : p.bulk ≤ 1000) (hd : p.depth ≤ 60) (S : Sto) : fRepr [x] S = .ok (.str p.shown) S := by
  obtain ⟨a, b, c⟩ := plain_short p hp
  have l := PyData.shown_le_bulk 600 (by decide) p a
  have l2 : p.shown.length ≤ 16777216 := by omega
  unfold fRepr
  simp [h, b, c, l2, hd]
theorem eqS {x y : Str} (hx : PyData.strOk x = true) (hy : PyData.strOk y = true) : eqD (.str x) (.str y) = some (x == y) := by
  unfold eqD
  simp [D.pd, SeqAt.shaped, PyData.canLay0, hx, hy, PyData.depth, PyData.eqv]
theorem ne_self {x : Str} (hx : PyData.strOk x = true) (S : Sto) : dNe (.str x) (.str x) S = .ok (.bl false) S := by
  unfold dNe
  rw [eqS hx hx]; simp
end DL


set_option linter.all false
set_option autoImplicit false
set_option Elab.async false
set_option maxRecDepth 100000
set_option maxHeartbeats 2000000
/-! DLt: what every plain law uses and no def of a program stands in: sizes, fractions, repr of them, stores of drawn numbers. -/
namespace DL
open PySem
theorem lt9 {n : Nat} (h : n < 2 ^ 9000) : n < 2 ^ 400000 := Nat.lt_of_lt_of_le h (Nat.pow_le_pow_right (by decide) (by omega))
/-- both parts below 2 ^ n -/
structure Sz (n : Nat) (x : Int × Int) : Prop where
  a : x.1.natAbs < 2 ^ n
  b : x.2.natAbs < 2 ^ n
theorem Sz.mono {n m : Nat} {x : Int × Int} (h : Sz n x) (hm : n ≤ m) : Sz m x := ⟨Nat.lt_of_lt_of_le h.a (Nat.pow_le_pow_right (by decide) hm), Nat.lt_of_lt_of_le h.b (Nat.pow_le_pow_right (by decide) hm)⟩
theorem mul_lt {i j : Int} {n m : Nat} (h1 : i.natAbs < 2 ^ n) (h2 : j.natAbs < 2 ^ m) : (i * j).natAbs < 2 ^ (n + m) := by
  rw [Int.natAbs_mul, Nat.pow_add]
  exact Nat.mul_lt_mul'' h1 h2
theorem up_lt {i : Int} {n m : Nat} (h : i.natAbs < 2 ^ n) (hm : n ≤ m) : i.natAbs < 2 ^ m := Nat.lt_of_lt_of_le h (Nat.pow_le_pow_right (by decide) hm)
theorem mul_ok {i j : Int} {n m : Nat} (h1 : i.natAbs < 2 ^ n) (h2 : j.natAbs < 2 ^ m) (hn : n ≤ 400000 := by omega) (hm : m ≤ 400000 := by omega) : mulOk i j = true := mulOk_of (up_lt h1 hn) (up_lt h2 hm)
theorem small_ok {i j : Int} (h1 : i.natAbs < 2 ^ 200) (h2 : j.natAbs < 2 ^ 200) : mulOk i j = true := mul_ok h1 h2
theorem lt_of40 {i : Int} {n : Nat} (h : i.natAbs ≤ 1099511627776) (hn : 41 ≤ n) : i.natAbs < 2 ^ n :=
  Nat.lt_of_lt_of_le (show i.natAbs < 2 ^ 41 by omega) (Nat.pow_le_pow_right (by decide) hn)
/-- parts of at most 2 ^ 40 -/
theorem m40 {i j : Int} (h1 : i.natAbs ≤ 1099511627776) (h2 : j.natAbs ≤ 1099511627776) : mulOk i j = true := mul_ok (n := 41) (m := 41) (lt_of40 h1 (by decide)) (lt_of40 h2 (by decide))
theorem d40 {j : Int} (h0 : j ≠ 0) (h : j.natAbs ≤ 1099511627776) : divOk j = true := divOk_of h0 (lt_of40 h (by decide))
theorem sz_w {w : Int} (h : w.natAbs ≤ 1099511627776) {n : Nat} (hn : 41 ≤ n := by omega) : Sz n (w, 1) := ⟨lt_of40 h hn, lt_of40 (by simp) hn⟩
theorem sz_q {q : Int} (h : q.natAbs ≤ 1099511627776) {n : Nat} (hn : 41 ≤ n := by omega) : Sz n (1, q) := ⟨lt_of40 (by simp) hn, lt_of40 h hn⟩
theorem sz_of {x : Int × Int} (h1 : x.1.natAbs ≤ 1099511627776) (h2 : x.2.natAbs ≤ 1099511627776) {n : Nat} (hn : 41 ≤ n := by omega) : Sz n x := ⟨lt_of40 h1 hn, lt_of40 h2 hn⟩
theorem sqn (a : Int) : 0 ≤ a * a := by
  rcases Int.le_total 0 a with h | h
  · exact Int.mul_nonneg h h
  · exact Int.mul_nonneg_of_nonpos_of_nonpos h h
theorem low_ne {x : Int × Int} (h : Low x) : x.2 ≠ 0 := by have := h.pos; omega
theorem red_sz {a b : Int} {n : Nat} (hb : b ≠ 0) (ha : a.natAbs ≤ b.natAbs) (h : b.natAbs < 2 ^ n) : Sz n (red a b) :=
  ⟨Nat.lt_of_le_of_lt (Nat.le_trans (red_le a b hb).1 ha) h, Nat.lt_of_le_of_lt (red_le a b hb).2 h⟩
theorem red_neg {a n : Int} (hn : n ≠ 0) : red (-a) n = (-(red a n).1, (red a n).2) := by
  refine low_uniq (red_low _ _ hn) ⟨(red_low a n hn).pos, ?_⟩ ?_
  · show Int.gcd (-(red a n).1) (red a n).2 = 1
    rw [Int.neg_gcd]; exact (red_low a n hn).one
  · have c1 := red_cross a n hn
    have c2 := red_cross (-a) n hn
    have : n * ((red (-a) n).1 * (red a n).2) = n * (-(red a n).1 * (red (-a) n).2) := by grind
    exact Int.eq_of_mul_eq_mul_left hn this
theorem red_one {n : Int} (hn : n ≠ 0) : red n n = (1, 1) := by
  refine low_uniq (red_low _ _ hn) ⟨by decide, by decide⟩ ?_
  have := red_cross n n hn
  have e : n * ((red n n).1) = n * (red n n).2 := by grind
  have := Int.eq_of_mul_eq_mul_left hn e
  show (red n n).1 * 1 = 1 * (red n n).2
  omega
theorem red_zero {n : Int} (hn : n ≠ 0) : red 0 n = (0, 1) := by
  have e : red 0 n = red 0 1 := red_eq hn (by decide) (by grind)
  rw [e]; decide
/-- a fraction that is told by one in lowest terms -/
theorem red_is {t b : Int} {x : Int × Int} (hb : b ≠ 0) (hx : Low x) (h : t * x.2 = x.1 * b) : red t b = x := by
  rw [← red_of_low hx]; exact red_eq hb (low_ne hx) h
theorem low_neg {x : Int × Int} (h : Low x) : Low (-x.1, x.2) := ⟨h.pos, by show Int.gcd (-x.1) x.2 = 1; rw [Int.neg_gcd]; exact h.one⟩
theorem low_whole (n : Int) : Low (n, 1) := ⟨Int.one_pos, Int.gcd_one⟩
/-- one of a combination of both -/
theorem low_comb {a b u v : Int} (hb : 0 < b) (h : a * u + b * v = 1) : Low (a, b) := by
  refine ⟨hb, ?_⟩
  have h1 : ((Int.gcd a b : Nat) : Int) ∣ a := Int.gcd_dvd_left _ _
  have h2 : ((Int.gcd a b : Nat) : Int) ∣ b := Int.gcd_dvd_right _ _
  have h3 : ((Int.gcd a b : Nat) : Int) ∣ 1 := by
    rw [← h]; exact Int.dvd_add (Int.dvd_trans h1 (Int.dvd_mul_right _ _)) (Int.dvd_trans h2 (Int.dvd_mul_right _ _))
  have h4 : Int.gcd a b ∣ 1 := by exact_mod_cast h3
  exact Nat.dvd_one.mp h4
/-- a whole number less or more changes nothing -/
theorem low_sub {x : Int × Int} (h : Low x) (w : Int) : Low (x.1 - w * x.2, x.2) := by
  refine ⟨h.pos, ?_⟩
  have := h.one
  show Int.gcd (x.1 - w * x.2) x.2 = 1
  have e : x.1 - w * x.2 = x.1 + -w * x.2 := by grind
  rw [e]; simpa using this
theorem low_flip {x : Int × Int} (h : Low x) (hx : 0 < x.1) : Low (x.2, x.1) := ⟨hx, by show Int.gcd x.2 x.1 = 1; rw [Int.gcd_comm]; exact h.one⟩
/-! ### repr -/
theorem pdF (x : Int × Int) : (F x).pd = some (.tuple [.int x.1, .int x.2]) := by simp [F, D.pd, D.pdL]
theorem rpF {x : Int × Int} (h : Sz 1900 x) (S : Sto) : fRepr [F x] S = .ok (.str (PyData.shown (.tuple [.int x.1, .int x.2]))) S :=
  repr_eq (pdF x) (by simp [plainP, plainPs, h.a, h.b]) (by simp [PyData.bulk, PyData.bulkAll]) (by simp [PyData.depth, PyData.depthAll]) S
theorem okF {x : Int × Int} (h : Sz 1900 x) : PyData.strOk (PyData.shown (.tuple [.int x.1, .int x.2])) = true := ok_shown _ (by simp [plainP, plainPs, h.a, h.b])
theorem rpN (S : Sto) : fRepr [.non] S = .ok (.str (PyData.shown .none)) S := repr_eq (x := .non) rfl rfl (by decide) (by decide) S
theorem okN : PyData.strOk (PyData.shown .none) = true := ok_shown _ rfl
theorem rpI {i : Int} (h : i.natAbs < 2 ^ 1900) (S : Sto) : fRepr [.int i] S = .ok (.str (PyData.shown (.int i))) S := repr_eq (x := .int i) rfl (by simp [plainP, h]) (by simp [PyData.bulk]) (by simp [PyData.depth]) S
theorem okI {i : Int} (h : i.natAbs < 2 ^ 1900) : PyData.strOk (PyData.shown (.int i)) = true := ok_shown _ (by simp [plainP, h])
theorem rpB (b : Bool) (S : Sto) : fRepr [.bl b] S = .ok (.str (PyData.shown (.bool b))) S := repr_eq (x := .bl b) rfl rfl (by simp [PyData.bulk]) (by simp [PyData.depth]) S
theorem okB (b : Bool) : PyData.strOk (PyData.shown (.bool b)) = true := ok_shown _ rfl
theorem evF (a b c d : Int) : PyData.eqv (.tuple [.int a, .int b]) (.tuple [.int c, .int d]) = (decide (a = c) && decide (b = d)) := by
  have h1 : PyData.eqv (.int a) (.int c) = decide (a = c) := by unfold PyData.eqv; rfl
  have h2 : PyData.eqv (.int b) (.int d) = decide (b = d) := by unfold PyData.eqv; rfl
  have h3 : PyData.eqv (.tuple [.int a, .int b]) (.tuple [.int c, .int d]) = (PyData.eqv (.int a) (.int c) && (PyData.eqv (.int b) (.int d) && true)) := by
    simp only [PyData.eqv, PyData.eqvAll]
  rw [h3, h1, h2, Bool.and_true]
theorem dEqF (x y : Int × Int) (S : Sto) : dEq (F x) (F y) S = .ok (.bl (decide (x = y))) S := by unfold dEq; rw [eqF]
theorem dNeF (x y : Int × Int) (S : Sto) : dNe (F x) (F y) S = .ok (.bl (!decide (x = y))) S := by unfold dNe; rw [eqF]
theorem dEqI (i j : Int) (S : Sto) : dEq (.int i) (.int j) S = .ok (.bl (decide (i = j))) S := by unfold dEq; rw [eqI]
theorem dNeI (i j : Int) (S : Sto) : dNe (.int i) (.int j) S = .ok (.bl (!decide (i = j))) S := by unfold dNe; rw [eqI]
theorem eqBl (a b : Bool) : eqD (.bl a) (.bl b) = some (a == b) := by
  cases a <;> cases b <;> rfl
theorem dEqBl (a b : Bool) (S : Sto) : dEq (.bl a) (.bl b) S = .ok (.bl (a == b)) S := by unfold dEq; rw [eqBl]
@[simp] theorem ixF0 (x : Int × Int) (S : Sto) : dIx (F x) (.int 0) S = .ok (.int x.1) S := by unfold F; simp
@[simp] theorem ixF1 (x : Int × Int) (S : Sto) : dIx (F x) (.int 1) S = .ok (.int x.2) S := by unfold F; simp
theorem mkF (a b : Int) : D.tup [.int a, .int b] = F (a, b) := rfl
theorem lenF (x : Int × Int) (S : Sto) : fLen [F x] S = .ok (.int 2) S := rfl
/-! ### kinds -/
theorem ki_ii : L2.kitB "int" "int" = some true := by decide +kernel
theorem ki_ib : L2.kitB "int" "bool" = some false := by decide +kernel
theorem ki_bi : L2.kitB "bool" "int" = some true := by decide +kernel
theorem ki_bb : L2.kitB "bool" "bool" = some true := by decide +kernel
theorem ki_ni : L2.kitB "NoneType" "int" = some false := by decide +kernel
theorem ki_ti : L2.kitB "tuple" "int" = some false := by decide +kernel
theorem ki_tt : L2.kitB "tuple" "tuple" = some true := by decide +kernel
theorem ki_lt : L2.kitB "list" "tuple" = some false := by decide +kernel
theorem isIntI (sb : Str → Str → Option Bool) (i : Int) (S : Sto) : fIsi sb [.int i, .ty "int"] S = .ok (.bl true) S := by simp [fIsi, tyD, ki_ii]
theorem isBoolI (sb : Str → Str → Option Bool) (i : Int) (S : Sto) : fIsi sb [.int i, .ty "bool"] S = .ok (.bl false) S := by simp [fIsi, tyD, ki_ib]
theorem isIntB (sb : Str → Str → Option Bool) (i : Bool) (S : Sto) : fIsi sb [.bl i, .ty "int"] S = .ok (.bl true) S := by simp [fIsi, tyD, ki_bi]
theorem isBoolB (sb : Str → Str → Option Bool) (i : Bool) (S : Sto) : fIsi sb [.bl i, .ty "bool"] S = .ok (.bl true) S := by simp [fIsi, tyD, ki_bb]
theorem isIntN (sb : Str → Str → Option Bool) (S : Sto) : fIsi sb [.non, .ty "int"] S = .ok (.bl false) S := by simp [fIsi, tyD, ki_ni]
theorem isIntT (sb : Str → Str → Option Bool) (xs : List D) (S : Sto) : fIsi sb [.tup xs, .ty "int"] S = .ok (.bl false) S := by simp [fIsi, tyD, ki_ti]
theorem isTupT (sb : Str → Str → Option Bool) (xs : List D) (S : Sto) : fIsi sb [.tup xs, .ty "tuple"] S = .ok (.bl true) S := by simp [fIsi, tyD, ki_tt]
theorem isTupL (sb : Str → Str → Option Bool) (xs : List D) (S : Sto) : fIsi sb [.lst xs, .ty "tuple"] S = .ok (.bl false) S := by simp [fIsi, tyD, ki_lt]
theorem isTupF (sb : Str → Str → Option Bool) (x : Int × Int) (S : Sto) : fIsi sb [F x, .ty "tuple"] S = .ok (.bl true) S := isTupT sb _ S
/-! ### numbers drawn -/
theorem ixL0 {S : Sto} {n : Nat} {x y z : D} (h : S[n]? = some [x, y, z]) : dIx (.loc n) (.int 0) S = .ok x S := by
  unfold dIx; simp only [h]; rw [at_0]
theorem ixL1 {S : Sto} {n : Nat} {x y z : D} (h : S[n]? = some [x, y, z]) : dIx (.loc n) (.int 1) S = .ok y S := by
  unfold dIx; simp only [h]; rw [at_1]
theorem ixL2 {S : Sto} {n : Nat} {x y z : D} (h : S[n]? = some [x, y, z]) : dIx (.loc n) (.int 2) S = .ok z S := by
  unfold dIx; simp only [h]; rw [at_2]
theorem st0 {S : Sto} {n : Nat} {x y z v : D} (h : S[n]? = some [x, y, z]) : setD (.loc n) (.int 0) v S = some (S.set n [v, y, z]) := by
  unfold setD; simp only [h]
  have : L2.ixN [x, y, z].length 0 = some 0 := rfl
  rw [this]; rfl
theorem st2 {S : Sto} {n : Nat} {x y z v : D} (h : S[n]? = some [x, y, z]) : setD (.loc n) (.int 2) v S = some (S.set n [x, y, v]) := by
  unfold setD; simp only [h]
  have : L2.ixN [x, y, z].length 2 = some 2 := rfl
  rw [this]; rfl
theorem got {S : Sto} {n : Nat} {l l' : List D} (h : S[n]? = some l) : (S.set n l')[n]? = some l' := List.getElem?_set_self (List.getElem?_eq_some_iff.mp h).1
theorem d_pow {i j : Int} (h : 0 ≤ j ∧ (Builtin.Int.intBits i : Int) * j ≤ 2 ^ 27) (S : Sto) : dPow (.int i) (.int j) S = .ok (.int (i ^ j.toNat)) S := by
  show (if 0 ≤ j ∧ (Builtin.Int.intBits i : Int) * j ≤ 2 ^ 27 then _ else _) = _
  rw [if_pos h]
theorem bits_le {x : Int} {k : Nat} (h : x.natAbs < 2 ^ k) (hk : 0 < k) : Builtin.Int.intBits x ≤ k := by
  have := log_of h hk
  unfold Builtin.Int.intBits
  split <;> omega
theorem fm {a u : Int} (hu : 0 < u) : 0 ≤ a.fmod u ∧ a.fmod u < u := ⟨Int.fmod_nonneg_of_pos _ hu, Int.fmod_lt_of_pos _ hu⟩
theorem p10_6 (S : Sto) : dPow (.int 10) (.int 6) S = .ok (.int 1000000) S := by rw [d_pow (by decide +kernel)]; rfl
theorem p10_3 (S : Sto) : dPow (.int 10) (.int 3) S = .ok (.int 1000) S := by rw [d_pow (by decide +kernel)]; rfl
theorem prime_ix (j : Int) (h0 : 0 ≤ j) (h5 : j < 5) : ∃ p : Int, 0 < p ∧ p < 2 ^ 31 ∧ ∀ S, dIx (.lst [.int 2147483647, .int 2147483629, .int 2147483587, .int 2147483579, .int 2147483563]) (.int j) S = .ok (.int p) S := by
  have : j = 0 ∨ j = 1 ∨ j = 2 ∨ j = 3 ∨ j = 4 := by omega
  rcases this with rfl | rfl | rfl | rfl | rfl
  · exact ⟨2147483647, by decide, by decide, fun _ => rfl⟩
  · exact ⟨2147483629, by decide, by decide, fun _ => rfl⟩
  · exact ⟨2147483587, by decide, by decide, fun _ => rfl⟩
  · exact ⟨2147483579, by decide, by decide, fun _ => rfl⟩
  · exact ⟨2147483563, by decide, by decide, fun _ => rfl⟩
theorem at_ints (ns : List Int) (p : Nat) (h : p < ns.length) : L2.atI (ns.map D.int) (p : Int) = some (.int ns[p]) := by
  unfold L2.atI L2.ixN
  rw [if_pos (by omega), if_pos (by rw [List.length_map]; omega)]
  simp [h]
theorem ints_of (l : List Int) : intsOf (l.map D.int) = some l := by
  induction l with
  | nil => rfl
  | cons a l ih => simp [intsOf, ih]
/-- no list of the store stands within a list of the store -/
def Flat (S : Sto) : Prop := ∀ l ∈ S, D.lowL 0 l = true
mutual
theorem low_mono {n m : Nat} (h : n ≤ m) : ∀ d : D, D.low n d = true → D.low m d = true
  | .loc k, q => by simp only [D.low, decide_eq_true_eq] at q ⊢; omega
  | .tup xs, q => by simp only [D.low] at q ⊢; exact lowL_mono h xs q
  | .lst xs, q => by simp only [D.low] at q ⊢; exact lowL_mono h xs q
  | .exo _ v, q => by simp only [D.low] at q ⊢; exact low_mono h v q
  | .non, _ => by simp [D.low]
  | .bl _, _ => by simp [D.low]
  | .int _, _ => by simp [D.low]
  | .str _, _ => by simp [D.low]
  | .ty _, _ => by simp [D.low]
  | .cls _, _ => by simp [D.low]
  | .fn _, _ => by simp [D.low]
theorem lowL_mono {n m : Nat} (h : n ≤ m) : ∀ ds : List D, D.lowL n ds = true → D.lowL m ds = true
  | [], _ => by simp [D.lowL]
  | x :: xs, q => by
    simp only [D.lowL, Bool.and_eq_true] at q ⊢
    exact ⟨low_mono h x q.1, lowL_mono h xs q.2⟩
end
theorem Flat.all {S : Sto} (h : Flat S) (n : Nat) : S.all (D.lowL n) = true := by
  rw [List.all_eq_true]
  exact fun l hl => lowL_mono (Nat.zero_le n) l (h l hl)
theorem Flat.set {S : Sto} (h : Flat S) (n : Nat) {l : List D} (hl : D.lowL 0 l = true) : Flat (S.set n l) := by
  intro m hm
  rcases List.mem_or_eq_of_mem_set hm with q | q
  · exact h m q
  · rw [q]; exact hl
theorem Flat.app {S : Sto} (h : Flat S) {l : List D} (hl : D.lowL 0 l = true) : Flat (S ++ [l]) := by
  intro m hm
  rcases List.mem_append.mp hm with q | q
  · exact h m q
  · rw [List.mem_singleton.mp q]; exact hl
/-- a def whose own lists are forgotten: it left the store as it was, and hands back no list of its own -/
theorem drop_ok {f : FN} {ds : List D} {d : D} {S S' : Sto} (h : f ds S = .ok d S') (hd : D.low 0 d = true) (hS : S'.take S.length = S) (hF : Flat S) : drop f ds S = .ok d S := by
  unfold drop
  rw [h]
  simp only [hS]
  rw [if_pos]
  rw [Bool.and_eq_true]
  exact ⟨low_mono (Nat.zero_le _) d hd, hF.all _⟩
theorem heard_exc {sub : Str → Str → Option Bool} {e : EF} {ρ : DL.Env} {S S' : Sto} {c : Str} {v : D} (h : e ρ S = .exc c v S') (hs : sub c "ArmError" = some true) : eHeard sub e ρ S = .ok (.tup [.exo c v, .non]) S' := by
  unfold eHeard; rw [h]; simp only [hs, if_true]
theorem isi_exo {sub : Str → Str → Option Bool} {c c' : Str} {b : Bool} (hs : sub c c' = some b) (v : D) (S : Sto) : fIsi sub [.exo c v, .cls c'] S = .ok (.bl b) S := by
  unfold fIsi; simp only [hs]
theorem value_exo {sub : Str → Str → Option Bool} {e : EF} {ρ : DL.Env} {S S' : Sto} {c : Str} {v : D} (h : e ρ S = .ok (.exo c v) S') (hs : sub c c = some true) : eValue sub e ρ S = .ok v S' := by
  unfold eValue; rw [ap_un, h]; simp only [bind_ok, hs, if_true]
/-- the pot in the store, drawn from k times at most -/
def PotAt (S : Sto) (n : Nat) (k : Int) : Prop := (∃ a b c : Int, S[n]? = some [.int a, .int b, .int c] ∧ 0 ≤ a ∧ 0 ≤ b ∧ b < 2 ^ 62 ∧ 0 ≤ c ∧ c ≤ k) ∧ Flat S
theorem PotAt.mono {S : Sto} {n : Nat} {k l : Int} (h : PotAt S n k) (hl : k ≤ l) : PotAt S n l := by
  obtain ⟨⟨a, b, c, h1, h2, h3, h4, h5, h6⟩, hF⟩ := h
  exact ⟨⟨a, b, c, h1, h2, h3, h4, h5, by omega⟩, hF⟩
theorem rngL_mem : ∀ (n : Nat) (lo : Int) (d : D), d ∈ rngL lo n → ∃ i : Int, d = .int i ∧ lo ≤ i ∧ i < lo + n
  | 0, _, _, h => by simp [rngL] at h
  | n + 1, lo, d, h => by
    simp only [rngL, List.mem_cons] at h
    rcases h with rfl | h
    · exact ⟨lo, rfl, by omega, by omega⟩
    · obtain ⟨i, e, h1, h2⟩ := rngL_mem n (lo + 1) d h
      exact ⟨i, e, by omega, by omega⟩
@[simp] theorem rngL_len : ∀ (n : Nat) (lo : Int), (rngL lo n).length = n
  | 0, _ => rfl
  | n + 1, lo => by simp [rngL, rngL_len n]
end DL


set_option linter.all false
set_option autoImplicit false
set_option Elab.async false
set_option maxRecDepth 100000
set_option maxHeartbeats 4000000
/-! what the common defs of K45 do, printed by tmpl.py -/
namespace K45
open PySem DL
theorem gcd_loop (S : Sto) : ∀ (n m : Nat), sWhile (tOf (eBin dNe (eVar 1) (eC (.int 0)))) (sPar 0 1 (aCons (eVar 1) (aCons (eBin dMod (eVar 0) (eVar 1)) (aNil)))) [some (.int (m : Int)), some (.int (n : Int))] S = .nx [some (.int (Nat.gcd m n : Nat)), some (.int 0)] S := by
  intro n
  induction n using Nat.strongRecOn with
  | _ n ih =>
    intro m
    rw [sWhile_eq]
    by_cases hn : n = 0
    · subst hn
      simp [dNe, eqI]
    · have h0 : (n : Int) ≠ 0 := by omega
      have e : (m : Int).fmod (n : Int) = ((m % n : Nat) : Int) := by
        rw [Int.fmod_eq_emod_of_nonneg _ (by omega)]; exact (Int.natCast_emod m n).symm
      simp [dNe, eqI, hn, d_mod h0, e]
      rw [← Int.natCast_emod, ih (m % n) (Nat.mod_lt _ (by omega)) n]
      rw [Nat.gcd_comm n (m % n), ← Nat.gcd_rec, Nat.gcd_comm]
theorem e_common (a b : Int) (S : Sto) : f_common [.int a, .int b] S = .ok (.int (Int.gcd a b : Nat)) S := by
  simp [f_common, mkFn, m_common, DL.start, gcd_loop]
  rfl
theorem e_law_gcd (a b : Int) (S : Sto) : f_law_gcd [.int a, .int b] S = .ok (.int (Int.gcd a b : Nat)) S := by
  simp [f_law_gcd, mkFn, m_law_gcd, DL.start, gcd_loop]
  rfl
theorem e_rate {t b : Int} (hb : b ≠ 0) (hz : b.natAbs < 2 ^ 9000) (S : Sto) : f_rate [.int t, .int b] S = .ok (F (red t b)) S := by
  have hg : Int.gcd t b < 2 ^ 9000 := Nat.lt_of_le_of_lt (red_gcd t b hb) hz
  have hp : 0 < Int.gcd t b := Int.gcd_pos_of_ne_zero_right t hb
  by_cases hn : b < 0
  · have d1 : divOk (-(Int.gcd t b : Int)) = true := divOk_of (by omega) (by omega)
    simp [f_rate, mkFn, m_rate, DL.start, e_common, hn, d_div d1, red, F]
  · have d1 : divOk (Int.gcd t b : Int) = true := divOk_of (by omega) (by omega)
    simp [f_rate, mkFn, m_rate, DL.start, e_common, hn, d_div d1, red, F]
theorem e_law_rate {t b : Int} (hb : b ≠ 0) (hz : b.natAbs < 2 ^ 9000) (S : Sto) : f_law_rate [.int t, .int b] S = .ok (F (red t b)) S := by
  have hg : Int.gcd t b < 2 ^ 9000 := Nat.lt_of_le_of_lt (red_gcd t b hb) hz
  have hp : 0 < Int.gcd t b := Int.gcd_pos_of_ne_zero_right t hb
  have hl : ((Int.gcd t b : Nat) : Int).natAbs < 2 ^ 400000 := by rw [Int.natAbs_natCast]; exact lt9 hg
  have m1 : mulOk (Int.gcd t b : Int) 1 = true := mulOk_of hl (Nat.one_lt_two_pow (by omega))
  have m2 : mulOk (Int.gcd t b : Int) (-1) = true := mulOk_of hl (Nat.one_lt_two_pow (by omega))
  by_cases hn : b < 0
  · have hn' : ¬ 0 < b := by omega
    have d1 : divOk (-(Int.gcd t b : Int)) = true := divOk_of (by omega) (by omega)
    simp [f_law_rate, mkFn, m_law_rate, DL.start, e_law_gcd, hn, hn', d_mul m2, d_div d1, red, F]
  · have hn' : 0 < b := by omega
    have d1 : divOk (Int.gcd t b : Int) = true := divOk_of (by omega) (by omega)
    simp [f_law_rate, mkFn, m_law_rate, DL.start, e_law_gcd, hn, hn', d_mul m1, d_div d1, red, F]
theorem e_plus {x y : Int × Int} (hx : Sz 4400 x) (hy : Sz 4400 y) (S : Sto) (h : x.2 * y.2 ≠ 0) : f_plus [F x, F y] S = .ok (F (red (x.1 * y.2 + y.1 * x.2) (x.2 * y.2))) S := by
  simp [f_plus, mkFn, m_plus, DL.start, d_mul (mul_ok hx.a hy.b), d_mul (mul_ok hy.a hx.b), d_mul (mul_ok hx.b hy.b)]
  rw [e_rate h (up_lt (mul_lt hx.b hy.b) (by omega))]; rfl
theorem e_less {x y : Int × Int} (hx : Sz 4400 x) (hy : Sz 4400 y) (S : Sto) (h : x.2 * y.2 ≠ 0) : f_less [F x, F y] S = .ok (F (red (x.1 * y.2 - y.1 * x.2) (x.2 * y.2))) S := by
  simp [f_less, mkFn, m_less, DL.start, d_mul (mul_ok hx.a hy.b), d_mul (mul_ok hy.a hx.b), d_mul (mul_ok hx.b hy.b)]
  rw [e_rate h (up_lt (mul_lt hx.b hy.b) (by omega))]; rfl
theorem e_over {x y : Int × Int} (hx : Sz 4400 x) (hy : Sz 4400 y) (S : Sto) (h : x.2 * y.1 ≠ 0) : f_over [F x, F y] S = .ok (F (red (x.1 * y.2) (x.2 * y.1))) S := by
  simp [f_over, mkFn, m_over, DL.start, d_mul (mul_ok hx.a hy.b), d_mul (mul_ok hx.b hy.a)]
  rw [e_rate h (up_lt (mul_lt hx.b hy.a) (by omega))]; rfl
theorem e_turned_sign (x : Int × Int) (S : Sto) : f_turned_sign [F x] S = .ok (F (-x.1, x.2)) S := by
  simp [f_turned_sign, mkFn, m_turned_sign, DL.start, F]
def sgD (a : Int) : Int := b2i (decide (0 < a)) - b2i (decide (a < 0))
theorem e_sign_of (x : Int × Int) (S : Sto) : f_sign_of [F x] S = .ok (.int (sgD x.1)) S := by
  simp [f_sign_of, mkFn, m_sign_of, DL.start, dSubB, sgD]
theorem sgp (a : Int) : 0 < sgD a ↔ 0 < a := by
  unfold sgD b2i
  by_cases h : 0 < a
  · have : ¬ a < 0 := by omega
    simp [h, this]
  · by_cases k : a < 0 <;> simp [h, k]
theorem sgn (a : Int) : sgD a < 0 ↔ a < 0 := by
  unfold sgD b2i
  by_cases h : 0 < a
  · have : ¬ a < 0 := by omega
    simp [h, this]
  · by_cases k : a < 0 <;> simp [h, k]
theorem e_is_whole (i : Int) (S : Sto) : f_is_whole [.int i] S = .ok (.bl true) S := by
  simp [f_is_whole, mkFn, m_is_whole, DL.start, isIntI, isBoolI]
theorem e_is_lowest {x : Int × Int} (h : Low x) (S : Sto) : f_is_lowest [F x] S = .ok (.bl true) S := by
  have := h.pos; have := h.one
  simp [f_is_lowest, mkFn, m_is_lowest, DL.start, isTupF, truD, e_is_whole, e_common, dNeI, dEqI, lenF, h.pos, h.one]
theorem e_is_fraction {x : Int × Int} (h : Low x) (h1 : x.1.natAbs ≤ 1000000) (h2 : x.2 ≤ 1000000) (S : Sto) : f_is_fraction [F x] S = .ok (.bl true) S := by
  have a1 : -1000000 ≤ x.1 := by omega
  have a2 : x.1 ≤ 1000000 := by omega
  simp [f_is_fraction, mkFn, m_is_fraction, DL.start, e_is_lowest h, k_MOST]
  simp [h2, a1, a2]
theorem e_look_at_fraction {x : Int × Int} (h : Low x) (h1 : x.1.natAbs ≤ 1000000) (h2 : x.2 ≤ 1000000) (S : Sto) : f_look_at_fraction [F x] S = .ok .non S := by
  simp [f_look_at_fraction, mkFn, m_look_at_fraction, DL.start, e_is_fraction h h1 h2, truD]
theorem e_is_less {x y : Int × Int} (hx : Sz 4400 x) (hy : Sz 4400 y) (S : Sto) : f_is_less [F x, F y] S = .ok (.bl (decide (x.1 * y.2 < y.1 * x.2))) S := by
  simp [f_is_less, mkFn, m_is_less, DL.start, d_mul (mul_ok hx.a hy.b), d_mul (mul_ok hy.a hx.b)]
theorem e_law_is_int (i lo hi : Int) (S : Sto) : f_law_is_int [.int i, .int lo, .int hi] S = .ok (.bl (decide (lo ≤ i) && decide (i ≤ hi))) S := by
  by_cases h : lo ≤ i
  · simp [f_law_is_int, mkFn, m_law_is_int, DL.start, isIntI, isBoolI, h]
  · simp [f_law_is_int, mkFn, m_law_is_int, DL.start, isIntI, isBoolI, h]
theorem e_law_is_bool (a b : Bool) (S : Sto) : f_law_is_bool [.bl a, .bl b] S = .ok (.bl (a == b)) S := by
  simp [f_law_is_bool, mkFn, m_law_is_bool, DL.start, isBoolB, dEqBl]
theorem e_law_plus {x y : Int × Int} (hx : Sz 4400 x) (hy : Sz 4400 y) (S : Sto) (h : x.2 * y.2 ≠ 0) : f_law_plus [F x, F y] S = .ok (F (red (x.1 * y.2 + y.1 * x.2) (x.2 * y.2))) S := by
  simp [f_law_plus, mkFn, m_law_plus, DL.start, d_mul (mul_ok hx.a hy.b), d_mul (mul_ok hy.a hx.b), d_mul (mul_ok hx.b hy.b)]
  rw [e_law_rate h (up_lt (mul_lt hx.b hy.b) (by omega))]; rfl
theorem e_law_is_below {x y : Int × Int} (hx : Sz 4400 x) (hy : Sz 4400 y) (S : Sto) : f_law_is_below [F x, F y] S = .ok (.bl (decide (x.1 * y.2 < y.1 * x.2))) S := by
  simp [f_law_is_below, mkFn, m_law_is_below, DL.start, d_mul (mul_ok hx.a hy.b), d_mul (mul_ok hy.a hx.b)]
theorem e_take {S : Sto} {n : Nat} {k u : Int} (P : PotAt S n k) (hk : k < 1000) (hu : 0 < u) (hu2 : u < 2 ^ 62) :
    ∃ d S', f_law_take [.loc n, .int u] S = .ok (.int d) S' ∧ 0 ≤ d ∧ d < u ∧ PotAt S' n (k + 1) ∧ S'.length = S.length := by
  obtain ⟨⟨a, b, c, h, ha, hb, hb2, hc, hck⟩, hF⟩ := P
  have e62 : (2 : Int) ^ 62 = 4611686018427387904 := by decide +kernel
  rw [e62] at hu2 hb2
  have hu0 : u ≠ 0 := by omega
  by_cases a0 : 0 < a
  · have dd : divOk u = true := divOk_of hu0 (Nat.lt_of_lt_of_le (show u.natAbs < 2 ^ 62 by omega) (Nat.pow_le_pow_right (by decide) (by decide)))
    refine ⟨a.fmod u, S.set n [.int (a.fdiv u), .int b, .int c], ?_, (fm hu).1, (fm hu).2, ⟨⟨a.fdiv u, b, c, got h, ?_, hb, by rw [e62]; exact hb2, hc, by omega⟩, hF.set n rfl⟩, by simp⟩
    · simp [f_law_take, mkFn, m_law_take, DL.start, ixL0 h, a0, d_mod hu0, d_div dd, st0 h]
    · exact Int.fdiv_nonneg ha (by omega)
  · have h1 : (S.set n [.int a, .int b, .int (c + 1)])[n]? = some [.int a, .int b, .int (c + 1)] := got h
    obtain ⟨p, p0, p1, hp⟩ := prime_ix ((c + 1).fmod 5) (fm (by decide)).1 (fm (by decide)).2
    have e31 : (2 : Int) ^ 31 = 2147483648 := by decide +kernel
    rw [e31] at p1
    have pn : p ≠ 0 := by omega
    have k1 : mulOk 95257 (c + 1) = true := small_ok (by decide) (Nat.lt_of_lt_of_le (show (c + 1).natAbs < 2 ^ 10 by omega) (Nat.pow_le_pow_right (by decide) (by decide)))
    have b2 : 0 ≤ (c + 1) * (c + 1) := Int.mul_nonneg (by omega) (by omega)
    have b3 : (c + 1) * (c + 1) ≤ 1000 * 1000 := Int.mul_le_mul (by omega) (by omega) (by omega) (by decide)
    have b4 : 95257 * (c + 1) * (c + 1) = 95257 * ((c + 1) * (c + 1)) := by grind
    have k2 : mulOk (95257 * (c + 1)) (c + 1) = true := small_ok (Nat.lt_of_lt_of_le (show (95257 * (c + 1)).natAbs < 2 ^ 30 by omega) (Nat.pow_le_pow_right (by decide) (by decide))) (Nat.lt_of_lt_of_le (show (c + 1).natAbs < 2 ^ 10 by omega) (Nat.pow_le_pow_right (by decide) (by decide)))
    have bi : (Builtin.Int.intBits (b + 95257 * (c + 1) * (c + 1) + 3163) : Int) * 3 ≤ 2 ^ 27 := by
      have := bits_le (x := b + 95257 * (c + 1) * (c + 1) + 3163) (k := 64) (by rw [b4]; omega) (by decide)
      have e27 : (2 : Int) ^ 27 = 134217728 := by decide +kernel
      rw [e27]; omega
    have pw3 := fun S => d_pow (i := b + 95257 * (c + 1) * (c + 1) + 3163) (j := 3) ⟨by decide, bi⟩ S
    obtain ⟨B, eB⟩ : ∃ B, Int.fmod ((b + 95257 * (c + 1) * (c + 1) + 3163) ^ 3) p = B := ⟨_, rfl⟩
    have hB := fm (a := (b + 95257 * (c + 1) * (c + 1) + 3163) ^ 3) p0
    rw [eB] at hB
    have m5 := d_mod (i := B) (show (13441 : Int) ≠ 0 by decide)
    have f5 := fm (a := B) (show (0 : Int) < 13441 by decide)
    have k3 : mulOk 419 (c + 1) = true := small_ok (by decide) (Nat.lt_of_lt_of_le (show (c + 1).natAbs < 2 ^ 10 by omega) (Nat.pow_le_pow_right (by decide) (by decide)))
    have k4 : mulOk B (B.fmod 13441 + 419 * (c + 1)) = true := small_ok (Nat.lt_of_lt_of_le (show B.natAbs < 2 ^ 31 by omega) (Nat.pow_le_pow_right (by decide) (by decide))) (Nat.lt_of_lt_of_le (show (B.fmod 13441 + 419 * (c + 1)).natAbs < 2 ^ 31 by omega) (Nat.pow_le_pow_right (by decide) (by decide)))
    have d229 : divOk 229 = true := divOk_of (by decide) (Nat.lt_of_lt_of_le (show (229 : Int).natAbs < 2 ^ 8 by decide) (Nat.pow_le_pow_right (by decide) (by decide)))
    refine ⟨(((B * (B.fmod 13441 + 419 * (c + 1))).fmod 2305843009213693907).fdiv 229).fmod u, S.set n [.int a, .int b, .int (c + 1)], ?_, (fm hu).1, (fm hu).2, ⟨⟨a, b, c + 1, h1, ha, hb, by rw [e62]; exact hb2, by omega, by omega⟩, hF.set n rfl⟩, by simp⟩
    · simp [f_law_take, mkFn, m_law_take, DL.start, ixL0 h, ixL1 h1, ixL2 h, ixL2 h1, a0, st2 h, d_mul k1, d_mul k2, d_mul k3, d_mul k4, d_mod (show (5 : Int) ≠ 0 by decide), hp, pw3, d_mod pn, eB, m5, d_mod (show (2305843009213693907 : Int) ≠ 0 by decide), d_div d229, d_mod hu0]
theorem e_of {S : Sto} {n : Nat} {k : Int} (P : PotAt S n k) (hk : k < 1000) (xs : List D) (h0 : xs ≠ []) (hl : xs.length ≤ 1000) :
    ∃ x S', x ∈ xs ∧ f_law_of [.loc n, .lst xs] S = .ok x S' ∧ PotAt S' n (k + 1) ∧ S'.length = S.length := by
  have hx : 0 < xs.length := List.length_pos_iff.mpr h0
  have e62 : (2 : Int) ^ 62 = 4611686018427387904 := by decide +kernel
  obtain ⟨d, S', h, d0, d1, P', hL⟩ := e_take (u := xs.length) P hk (by omega) (by rw [e62]; omega)
  obtain ⟨m, rfl⟩ : ∃ m : Nat, d = m := ⟨d.toNat, by omega⟩
  have hm : m < xs.length := by omega
  have ix : dIx (.lst xs) (.int m) S' = .ok xs[m] S' := by
    show (match L2.atI xs (m : Int) with | some d => R.ok d S' | none => R.bad) = _
    have : L2.atI xs (m : Int) = some xs[m] := by
      unfold L2.atI L2.ixN
      rw [if_pos (by omega), if_pos (by omega)]
      simp [hm]
    rw [this]
  exact ⟨xs[m], S', List.getElem_mem hm, by simp [f_law_of, mkFn, m_law_of, DL.start, h, ix], P', hL⟩
theorem e_pot (ns : List Int) (p : Nat) (hp : p < 3) (S : Sto) : ∃ a b : Int, f_law_pot [.lst (ns.map D.int), .int p] S = .ok (.loc S.length) (S ++ [[.int a, .int b, .int 0]]) ∧ 0 ≤ a ∧ 0 ≤ b ∧ b < 2 ^ 62 := by
  have e27 : (2 : Int) ^ 27 = 134217728 := by decide +kernel
  have e62 : (2 : Int) ^ 62 = 4611686018427387904 := by decide +kernel
  obtain ⟨T, T0, T1, hT⟩ : ∃ T : Int, 0 < T ∧ T.natAbs < 2 ^ 200 ∧ ∀ S, dPow (.int 10) (.int 60) S = .ok (.int T) S := ⟨10 ^ 60, by decide +kernel, by decide +kernel, fun S => d_pow (by decide +kernel) S⟩
  obtain ⟨U, U0, U1, hU⟩ : ∃ U : Int, 0 < U ∧ U.natAbs < 2 ^ 1000 ∧ ∀ S, dPow (.int T) (.int 5) S = .ok (.int U) S := by
    have b := bits_le T1 (by decide)
    refine ⟨T ^ 5, Int.pow_pos T0, ?_, fun S => d_pow ⟨by decide, by rw [e27]; omega⟩ S⟩
    rw [Int.natAbs_pow]
    exact Nat.lt_of_lt_of_le (Nat.pow_lt_pow_left T1 (by decide)) (by rw [← Nat.pow_mul]; exact Nat.le_refl _)
  obtain ⟨V, hV⟩ : ∃ V : Int, ∀ S, dPow (.int 10) (.int 18) S = .ok (.int V) S := ⟨10 ^ 18, fun S => d_pow (by decide +kernel) S⟩
  have m1 : mulOk 4639 (p : Int) = true := small_ok (by decide) (Nat.lt_of_lt_of_le (show (p : Int).natAbs < 2 ^ 2 by omega) (Nat.pow_le_pow_right (by decide) (by decide)))
  have m2 : mulOk 10853 (p : Int) = true := small_ok (by decide) (Nat.lt_of_lt_of_le (show (p : Int).natAbs < 2 ^ 2 by omega) (Nat.pow_le_pow_right (by decide) (by decide)))
  have m3 : mulOk (10853 * (p : Int)) (p : Int) = true := small_ok (Nat.lt_of_lt_of_le (show (10853 * (p : Int)).natAbs < 2 ^ 20 by omega) (Nat.pow_le_pow_right (by decide) (by decide))) (Nat.lt_of_lt_of_le (show (p : Int).natAbs < 2 ^ 2 by omega) (Nat.pow_le_pow_right (by decide) (by decide)))
  have cell : ∃ c : Int, ∀ (o : List (Option D)), (eIf (tOf (eBin dLt (eVar 1) (eCall fLen (aCons (eVar 0) (aNil))))) (eBin dIx (eVar 0) (eVar 1)) (eBin dAdd (eBin dAdd (eBin dMod (eCall fInt (aCons (eCall fSum (aCons (eCut (eVar 0) (oNone) (oSome (eC (.int 1)))) (aNil))) (aNil))) (eC (.int 1000211))) (eBin dMul (eC (.int 4639)) (eVar 1))) (eC (.int 3163))))
      (some (.lst (ns.map D.int)) :: some (.int p) :: o) S = .ok (.int c) S := by
    by_cases h : p < ns.length
    · refine ⟨ns[p], fun o => ?_⟩
      have ix : dIx (.lst (ns.map D.int)) (.int p) S = .ok (.int ns[p]) S := by
        show (match L2.atI (ns.map D.int) (p : Int) with | some d => R.ok d S | none => R.bad) = _
        rw [at_ints ns p h]
      simp [h, ix]
    · have cut : ∃ l : List Int, cutD (ns.map D.int) none (some 1) = l.map D.int := ⟨_, by unfold cutD; rw [← List.map_drop, ← List.map_take]⟩
      obtain ⟨l, hl⟩ := cut
      refine ⟨l.sum.fmod 1000211 + 4639 * p + 3163, fun o => ?_⟩
      simp [h, eCut, hl, fSum, ints_of, d_mod (show (1000211 : Int) ≠ 0 by decide), d_mul m1]
  obtain ⟨c, hc⟩ := cell
  have P0 : (0 : Int) < 2305843009213693951 := by decide
  have f1 := fm (a := (c.natAbs : Int)) U0
  have f2 := fm (a := c) P0
  have bb : ∀ x : Bool, 0 ≤ b2i x ∧ b2i x ≤ 1 := fun x => by cases x <;> decide
  have k1 : mulOk ((c.natAbs : Int).fmod U) (b2i (decide (V ≤ (c.natAbs : Int)))) = true := by
    refine mul_ok (n := 1000) (m := 2) ?_ ?_
    · have : ((c.natAbs : Int).fmod U).natAbs < U.natAbs := by omega
      exact Nat.lt_trans this U1
    · have := bb (decide (V ≤ (c.natAbs : Int))); omega
  have k2 : mulOk (c.fmod 2305843009213693951) 72161 = true := small_ok (Nat.lt_of_lt_of_le (show (c.fmod 2305843009213693951).natAbs < 2 ^ 62 by omega) (Nat.pow_le_pow_right (by decide) (by decide))) (by decide)
  have Un : U ≠ 0 := by omega
  have hcc := hc [none, none, none]
  refine ⟨(c.natAbs : Int).fmod U * b2i (decide (V ≤ (c.natAbs : Int))), (c.fmod 2305843009213693951 * 72161 + 10853 * p * p + 2843).fmod 2305843009213693921, ?_, Int.mul_nonneg f1.1 (bb _).1, (fm (by decide)).1, ?_⟩
  · unfold f_law_pot mkFn m_law_pot
    have st : DL.start 5 [D.lst (ns.map D.int), D.int p] = [some (.lst (ns.map D.int)), some (.int p), none, none, none] := rfl
    rw [if_pos (show [D.lst (ns.map D.int), D.int p].length = 2 from rfl), st, ap_sSeq, ap_sSet, hcc]
    simp [hT, hU, hV, d_mod Un, d_mul k1, d_mod (show (2305843009213693951 : Int) ≠ 0 by decide), d_mul k2, d_mul m2, d_mul m3, d_mod (show (2305843009213693921 : Int) ≠ 0 by decide)]
  · have := (fm (a := c.fmod 2305843009213693951 * 72161 + 10853 * p * p + 2843) (show (0 : Int) < 2305843009213693921 by decide)).2
    rw [e62]; omega
theorem e_cells (ns : List Int) (hl : ns.length ≤ 63) (m : Int) (hm : 0 < m) (hm2 : m ≤ 3) (S : Sto) : ∃ c : Nat, (c : Int) ≤ m ∧ f_law_cells [.lst (ns.map D.int), .int m] S = .ok (.lst (rngL 0 c)) S := by
  obtain ⟨c, hc⟩ : ∃ c : Int, (if (ns.length : Int) < m then (ns.length : Int) else m) = c ∧ c ≤ m ∧ 0 ≤ c := ⟨_, rfl, by split <;> omega, by split <;> omega⟩
  obtain ⟨d, hd⟩ : ∃ d : Int, (if c > 1 then c else 1) = d ∧ d ≤ m ∧ 1 ≤ d := ⟨_, rfl, by split <;> omega, by split <;> omega⟩
  have mi : fMin [.int m, .int ns.length] S = .ok (.int c) S := by rw [← hc.1]; rfl
  have ma : fMax [.int 1, .int c] S = .ok (.int d) S := by rw [← hd.1]; rfl
  refine ⟨d.toNat, by omega, ?_⟩
  have r := rng_ok (j := d) (r := aCons (eCall fMax (aCons (eC (.int 1)) (aCons (eCall fMin (aCons (eVar 1) (aCons (eCall fLen (aCons (eVar 0) (aNil))) (aNil)))) (aNil)))) aNil) (ρ := [some (.lst (ns.map D.int)), some (.int m)]) (S := S) (S' := S) (by simp [mi, ma]) (by omega) (by omega)
  unfold f_law_cells mkFn m_law_cells
  rw [if_pos (show [D.lst (ns.map D.int), D.int m].length = 2 from rfl)]
  have st : DL.start 2 [D.lst (ns.map D.int), D.int m] = [some (.lst (ns.map D.int)), some (.int m)] := rfl
  rw [st, ap_sRet, ap_listRg, r]
  simp only [bind_ok, rngL_len]
  rw [if_pos (by omega)]
  simp only [st_ok]
theorem all_cells (ns : List Int) (right : ∀ (S : Sto) (n : Nat), PotAt S n 0 → ∃ S', f_law_right [.loc n] S = .ok (.bl true) S' ∧ Flat S') :
    ∀ (ds : List D), (∀ d ∈ ds, ∃ p : Nat, p < 3 ∧ d = .int p) → ∀ S : Sto, Flat S → ∃ bs S', compL [1] (gSet 1) tYes (eCall f_law_right (aCons (eCall f_law_pot (aCons (eVar 0) (aCons (eVar 1) (aNil)))) (aNil))) [some (.lst (ns.map D.int)), none] ds S = .ok bs S' ∧ ∃ cs, bools bs = some cs ∧ cs.all id = true
  | [], _, S, _ => ⟨[], S, rfl, [], rfl, rfl⟩
  | d :: ds, h, S, hF => by
    obtain ⟨p, hp, rfl⟩ := h d (by simp)
    obtain ⟨a, b, e1, h1, h2, h3⟩ := e_pot ns p hp S
    have P : PotAt (S ++ [[.int a, .int b, .int 0]]) S.length 0 := ⟨⟨a, b, 0, by simp, h1, h2, h3, by decide, by decide⟩, hF.app rfl⟩
    obtain ⟨S1, e2, hF1⟩ := right _ _ P
    obtain ⟨bs, S2, e3, cs, e4, e5⟩ := all_cells ns right ds (fun d hd => h d (List.mem_cons_of_mem _ hd)) S1 hF1
    refine ⟨.bl true :: bs, S2, ?_, true :: cs, ?_, ?_⟩
    · unfold compL
      simp [wipeE, e1, e2, e3]
    · simp [bools, e4]
    · simpa using e5
theorem law_true_of (right : ∀ (S : Sto) (n : Nat), PotAt S n 0 → ∃ S', f_law_right [.loc n] S = .ok (.bl true) S' ∧ Flat S') : ∀ ns : List Int, ns.length ≤ 63 → (∀ z ∈ ns, Builtin.Int.intBits z ≤ 1048576) → ∃ S, f_law [.lst (ns.map D.int)] [] = .ok (.bl true) S := by
  intro ns hl _
  obtain ⟨c, hc, e1⟩ := e_cells ns hl 3 (by decide) (by decide) []
  obtain ⟨bs, S', e2, cs, e3, e4⟩ := all_cells ns right (rngL 0 c) (fun d hd => by
    obtain ⟨i, rfl, h1, h2⟩ := rngL_mem c 0 d hd
    exact ⟨i.toNat, by omega, by rw [show ((i.toNat : Nat) : Int) = i by omega]⟩) [] (fun l hl => by simp at hl)
  refine ⟨S', ?_⟩
  have st : DL.start 2 [D.lst (ns.map D.int)] = [some (.lst (ns.map D.int)), none] := rfl
  have lc : c ≤ 16777216 := by omega
  unfold f_law mkFn m_law
  rw [if_pos (show [D.lst (ns.map D.int)].length = 1 from rfl), st]
  simp [e1, e2, fAll, e3, e4, lc]
end K45


set_option linter.all false
set_option autoImplicit false
set_option Elab.async false
set_option maxRecDepth 100000
set_option maxHeartbeats 4000000
/-! the plain law of k45: the simplest fraction between two -/
namespace K45
open PySem DL
/-- one fraction below another one -/
def lt (x y : Int × Int) : Prop := x.1 * y.2 < y.1 * x.2
instance (x y : Int × Int) : Decidable (lt x y) := inferInstanceAs (Decidable (_ < _))
/-- parts of at most 2 ^ 30 -/
structure Bd (x : Int × Int) : Prop where
  a : x.1.natAbs ≤ 1073741824
  b : x.2.natAbs ≤ 1073741824
theorem Bd.sz {x : Int × Int} (h : Bd x) {n : Nat} (hn : 41 ≤ n) : Sz n x := ⟨lt_of40 (by have := h.a; omega) hn, lt_of40 (by have := h.b; omega) hn⟩
/-- the simplest between two from 0 on -/
structure Simp (x lo hi : Int × Int) : Prop where
  low : Low x
  pos : 0 < x.1
  a : lt lo x
  b : lt x hi
  min : ∀ p q : Int, 0 < q → lt lo (p, q) → lt (p, q) hi → x.1 ≤ p ∧ x.2 ≤ q
/-- how it is put together: whole parts, what is behind the last one, the fraction -/
inductive Chain : List Int → (Int × Int) → (Int × Int) → Prop
  | nil (x : Int × Int) (h : Bd x) (hl : Low x) (hp : 0 < x.1) : Chain [] x x
  | cons (w : Int) (ws : List Int) (f y : Int × Int) (c : Chain ws f y) (hw : 0 ≤ w) (hw2 : w ≤ 1073741824) (hb : Bd y) (hl : Low y) (hp : 0 < y.1) (hx : Bd (w * y.1 + y.2, y.1)) : Chain (w :: ws) f (w * y.1 + y.2, y.1)
theorem mul_lt_pos {a b c : Int} (hc : 0 < c) (h : a < b) : a * c < b * c := Int.mul_lt_mul_of_pos_right h hc
/-- floor -/
theorem floor_of {a b : Int} (hb : 0 < b) : a.fdiv b * b ≤ a ∧ a < (a.fdiv b + 1) * b := by
  have h1 := Int.fmod_add_mul_fdiv a b
  have h2 := fm (a := a) hb
  have e : a.fdiv b * b = b * a.fdiv b := Int.mul_comm _ _
  have e2 : (a.fdiv b + 1) * b = b * a.fdiv b + b := by grind
  omega
theorem le_of_mul_pos {a b : Int} (hb : 0 < b) (h : 0 < a * b) : 0 < a := by
  by_cases c : 0 < a
  · exact c
  · have := Int.mul_nonpos_of_nonpos_of_nonneg (show a ≤ 0 by omega) (show 0 ≤ b by omega); omega
section
variable {lo hi : Int × Int} (l1 : Low lo) (l2 : Low hi) (h0 : 0 ≤ lo.1) (hl : lt lo hi)
include l1 l2 h0 hl
theorem mediant_in : lt lo (lo.1 + hi.1, lo.2 + hi.2) ∧ lt (lo.1 + hi.1, lo.2 + hi.2) hi := by
  unfold lt at *
  simp only
  constructor <;> grind
/-- a whole number between -/
theorem simp_whole {w : Int} (hw : w * lo.2 ≤ lo.1) (hw2 : lo.1 < (w + 1) * lo.2) (hw0 : 0 ≤ w) (h : hi.2 < hi.1 - w * hi.2) : Simp (w + 1, 1) lo hi := by
  have p1 := l1.pos
  have p2 := l2.pos
  refine ⟨low_whole _, by simp only; omega, ?_, ?_, ?_⟩
  · unfold lt; simp only; omega
  · unfold lt; simp only; grind
  · intro p q hq a b
    unfold lt at a b
    simp only at a b
    refine ⟨?_, by simp only; omega⟩
    have : w * lo.2 * q ≤ lo.1 * q := Int.mul_le_mul_of_nonneg_right hw (by omega)
    have : 0 < (p - w * q) * lo.2 := by grind
    have : 0 < p - w * q := le_of_mul_pos p1 this
    have : w * 1 ≤ w * q := Int.mul_le_mul_of_nonneg_left (by omega) hw0
    simp only; omega
/-- one over a whole number behind a whole number -/
theorem simp_one {w q : Int} (hw : w * lo.2 = lo.1) (hw0 : 0 ≤ w) (hr : hi.1 - w * hi.2 ≤ hi.2) (hr0 : 0 < hi.1 - w * hi.2) (hq : (q - 1) * (hi.1 - w * hi.2) ≤ hi.2) (hq2 : hi.2 < q * (hi.1 - w * hi.2)) : Simp (w * q + 1, q) lo hi := by
  have p1 := l1.pos
  have p2 := l2.pos
  have q0 : 0 < q := le_of_mul_pos hr0 (by omega)
  refine ⟨low_comb q0 (u := 1) (v := -w) (by grind), ?_, ?_, ?_, ?_⟩
  · have := Int.mul_nonneg hw0 (show 0 ≤ q by omega); simp only; omega
  · unfold lt; simp only; rw [← hw]; grind
  · unfold lt; simp only; grind
  · intro p s hs a b
    unfold lt at a b
    simp only at a b
    have : 0 < (p - w * s) * lo.2 := by rw [← hw] at a; grind
    have t0 : 0 < p - w * s := le_of_mul_pos p1 this
    have t1 : (p - w * s) * hi.2 < (hi.1 - w * hi.2) * s := by grind
    have t2 : 1 * hi.2 ≤ (p - w * s) * hi.2 := Int.mul_le_mul_of_nonneg_right (by omega) (by omega)
    have t3 : (q - 1) * (hi.1 - w * hi.2) < s * (hi.1 - w * hi.2) := by
      have : s * (hi.1 - w * hi.2) = (hi.1 - w * hi.2) * s := Int.mul_comm _ _
      omega
    have t4 : 0 < (s - (q - 1)) * (hi.1 - w * hi.2) := by grind
    have t5 := le_of_mul_pos hr0 t4
    have t6 : w * q ≤ w * s := Int.mul_le_mul_of_nonneg_left (by omega) hw0
    constructor <;> (simp only; omega)
/-- by what is over the rests -/
theorem simp_step {w : Int} (hw : w * lo.2 < lo.1) (hw0 : 0 ≤ w) {y : Int × Int} (h : Simp y (hi.2, hi.1 - w * hi.2) (lo.2, lo.1 - w * lo.2)) (hr0 : 0 < hi.1 - w * hi.2) : Simp (w * y.1 + y.2, y.1) lo hi := by
  have p1 := l1.pos
  have p2 := l2.pos
  have y1 := h.pos
  have y2 := h.low.pos
  have ha := h.a
  have hb := h.b
  unfold lt at ha hb
  simp only at ha hb
  refine ⟨?_, ?_, ?_, ?_, ?_⟩
  · have := low_sub (low_flip h.low y1) (-w)
    have e : (w * y.1 + y.2, y.1) = ((y.2, y.1).1 - -w * (y.2, y.1).2, (y.2, y.1).2) := by simp only; congr 1; grind
    rw [e]; exact this
  · have := Int.mul_nonneg hw0 (show 0 ≤ y.1 by omega); simp only; omega
  · unfold lt; simp only; grind
  · unfold lt; simp only; grind
  · intro p q hq a b
    unfold lt at a b
    simp only at a b
    have : 0 < (p - w * q) * lo.2 := by
      have : w * lo.2 * q < lo.1 * q := Int.mul_lt_mul_of_pos_right hw hq
      grind
    have t0 : 0 < p - w * q := le_of_mul_pos p1 this
    have m := h.min q (p - w * q) t0 (by unfold lt; simp only; grind) (by unfold lt; simp only; grind)
    have : w * y.1 ≤ w * q := Int.mul_le_mul_of_nonneg_left m.1 hw0
    constructor <;> (simp only; omega)
end
/-! ### the loop -/
def tbT : TF := tOf (eBin dIsN (eVar 5) (eC .non))
theorem e_less_w {x : Int × Int} (l : Low x) (b : Bd x) {w : Int} (hw : w.natAbs ≤ 1073741824) (S : Sto) : f_less [F x, .tup [.int w, .int 1]] S = .ok (F (x.1 - w * x.2, x.2)) S := by
  have := e_less (b.sz (n := 4400) (by decide)) (y := (w, 1)) (sz_w (by omega)) S (by simp only [Int.mul_one]; exact low_ne l)
  rw [mkF, this]
  simp only [Int.mul_one]
  rw [red_is (low_ne l) (low_sub l w) rfl]
theorem e_over_one {x : Int × Int} (l : Low x) (b : Bd x) (h : 0 < x.1) (S : Sto) : f_over [k_ONE, F x] S = .ok (F (x.2, x.1)) S := by
  have := e_over (x := (1, 1)) (sz_w (by decide)) (b.sz (n := 4400) (by decide)) S (by simp only; omega)
  rw [show k_ONE = F (1, 1) from rfl, this]
  simp only [Int.one_mul]
  rw [red_is (by omega) (low_flip l h) rfl]
theorem e_less_one {x : Int × Int} (b : Bd x) (S : Sto) : f_is_less [k_ONE, F x] S = .ok (.bl (decide (x.2 < x.1))) S := by
  have := e_is_less (x := (1, 1)) (sz_w (by decide)) (b.sz (n := 4400) (by decide)) S
  rw [show k_ONE = F (1, 1) from rfl, this]
  simp
theorem mul_bd {a b c : Int} (h1 : 0 ≤ a) (h2 : 0 < b) (h : a * b ≤ c) : a ≤ c := by
  have : a * 1 ≤ a * b := Int.mul_le_mul_of_nonneg_left (by omega) h1
  omega
theorem tb_loop : ∀ (m : Nat) (lo hi : Int × Int), Low lo → Low hi → 0 ≤ lo.1 → lt lo hi → lo.1 ≤ 1000000 → lo.2 ≤ 1000000 → hi.1 ≤ 1000000 → hi.2 ≤ 1000000 → lo.2 + hi.2 ≤ m →
    ∀ (S : Sto) (ws : List D) (n : Nat), S[n]? = some ws → ws.length + m ≤ 16777216 → ∀ o0 o1 o6 o7 : Option D,
    ∃ vs f x, Chain vs f x ∧ Simp x lo hi ∧ x.1 ≤ lo.1 + hi.1 ∧ x.2 ≤ lo.2 + hi.2 ∧ ∃ p3 p4 p6 p7, sWhile tbT q_told_between_2B [o0, o1, some (.loc n), some (F lo), some (F hi), some .non, o6, o7] S = .nx [o0, o1, some (.loc n), p3, p4, some (F f), p6, p7] (S.set n (ws ++ vs.map D.int)) := by
  intro m
  induction m with
  | zero => exact fun lo hi l1 l2 _ _ _ _ _ _ hm => by have := l1.pos; have := l2.pos; omega
  | succ m ih =>
    intro lo hi l1 l2 h0 hl a1 a2 a3 a4 hm S ws n hn hlen o0 o1 o6 o7
    have p1 := l1.pos
    have p2 := l2.pos
    have q1 : 0 ≤ hi.1 := by
      have : 0 ≤ lo.1 * hi.2 := Int.mul_nonneg h0 (by omega)
      have : 0 < hi.1 * lo.2 := by unfold lt at hl; omega
      have := le_of_mul_pos p1 this
      omega
    obtain ⟨w, hw⟩ : ∃ w, lo.1.fdiv lo.2 = w := ⟨_, rfl⟩
    have fl := floor_of (a := lo.1) p1
    rw [hw] at fl
    have w0 : 0 ≤ w := by rw [← hw]; exact Int.fdiv_nonneg h0 (by omega)
    have wb : w ≤ 1000000 := by have := mul_bd w0 p1 fl.1; omega
    have dd : divOk lo.2 = true := d40 (by omega) (by omega)
    have b1 : Bd lo := ⟨by omega, by omega⟩
    have b2 : Bd hi := ⟨by omega, by omega⟩
    have k1 := fun S => e_less_w l1 b1 (w := w) (by omega) S
    have k2 := fun S => e_less_w l2 b2 (w := w) (by omega) S
    have r0 : 0 ≤ lo.1 - w * lo.2 := by omega
    have r0' : lo.1 - w * lo.2 < lo.2 := by
      have : (w + 1) * lo.2 = w * lo.2 + lo.2 := by grind
      omega
    have cross : (lo.1 - w * lo.2) * hi.2 < (hi.1 - w * hi.2) * lo.2 := by unfold lt at hl; grind
    have r1 : 0 < hi.1 - w * hi.2 := by
      have : 0 ≤ (lo.1 - w * lo.2) * hi.2 := Int.mul_nonneg r0 (by omega)
      exact le_of_mul_pos p1 (by omega)
    have wh : 0 ≤ w * hi.2 := Int.mul_nonneg w0 (by omega)
    have wl : 0 ≤ w * lo.2 := Int.mul_nonneg w0 (by omega)
    have b3 : Bd (hi.1 - w * hi.2, hi.2) := ⟨by simp only; omega, by simp only; omega⟩
    have b4 : Bd (lo.1 - w * lo.2, lo.2) := ⟨by simp only; omega, by simp only; omega⟩
    have k3 := fun S => e_less_one b3 S
    have start : ∀ S, q_told_between_2_1 [o0, o1, some (.loc n), some (F lo), some (F hi), some .non, o6, o7] S = .nx [o0, o1, some (.loc n), some (F lo), some (F hi), some .non, some (.int w), o7] S := fun S => by
      simp [q_told_between_2_1, d_div dd, hw]
    have next : ∀ S, q_told_between_2_2 [o0, o1, some (.loc n), some (F lo), some (F hi), some .non, some (.int w), o7] S = .nx [o0, o1, some (.loc n), some (F lo), some (F hi), some .non, some (.int w), some (F2 (lo.1 - w * lo.2, lo.2) (hi.1 - w * hi.2, hi.2))] S := fun S => by
      simp [q_told_between_2_2, k1, k2, F2]
    have md := mediant_in l1 l2 h0 hl
    have fin : ∀ x : Int × Int, Simp x lo hi → x.1 ≤ lo.1 + hi.1 ∧ x.2 ≤ lo.2 + hi.2 := fun x hx => hx.min _ _ (by omega) md.1 md.2
    have one : ∀ (x : Int × Int), Simp x lo hi → (∀ S, q_told_between_2_3 [o0, o1, some (.loc n), some (F lo), some (F hi), some .non, some (.int w), some (F2 (lo.1 - w * lo.2, lo.2) (hi.1 - w * hi.2, hi.2))] S = .nx [o0, o1, some (.loc n), some (F lo), some (F hi), some (F x), some (.int w), some (F2 (lo.1 - w * lo.2, lo.2) (hi.1 - w * hi.2, hi.2))] S) →
        ∃ vs f x, Chain vs f x ∧ Simp x lo hi ∧ x.1 ≤ lo.1 + hi.1 ∧ x.2 ≤ lo.2 + hi.2 ∧ ∃ p3 p4 p6 p7, sWhile tbT q_told_between_2B [o0, o1, some (.loc n), some (F lo), some (F hi), some .non, o6, o7] S = .nx [o0, o1, some (.loc n), p3, p4, some (F f), p6, p7] (S.set n (ws ++ vs.map D.int)) := by
      intro x hx last
      have fx := fin x hx
      have x1 := hx.pos
      have x2 := hx.low.pos
      refine ⟨[], x, x, .nil x ⟨by omega, by omega⟩ hx.low hx.pos, hx, fx.1, fx.2, some (F lo), some (F hi), some (.int w), some (F2 (lo.1 - w * lo.2, lo.2) (hi.1 - w * hi.2, hi.2)), ?_⟩
      have e : S.set n (ws ++ ([] : List Int).map D.int) = S := by
        rw [List.map_nil, List.append_nil]
        have ⟨hlt, he⟩ := List.getElem?_eq_some_iff.mp hn
        rw [← he]; exact List.set_getElem_self hlt
      rw [e, sWhile_eq]
      have t1 : tbT [o0, o1, some (.loc n), some (F lo), some (F hi), some .non, o6, o7] S = .ok true S := by simp [tbT, dIsN, D.isNon]
      rw [t1]
      simp only [st_ok]
      unfold q_told_between_2B
      rw [ap_sSeq, start, then_nx, ap_sSeq, next, then_nx, last]
      simp only
      rw [sWhile_eq]
      have t2 : tbT [o0, o1, some (.loc n), some (F lo), some (F hi), some (F x), some (.int w), some (F2 (lo.1 - w * lo.2, lo.2) (hi.1 - w * hi.2, hi.2))] S = .ok false S := by simp [tbT, dIsN, D.isNon, F]
      rw [t2]
      rfl
    by_cases c1 : hi.2 < hi.1 - w * hi.2
    · refine one (w + 1, 1) (simp_whole l1 l2 h0 hl fl.1 fl.2 w0 c1) fun S => ?_
      simp [q_told_between_2_3, F2, k3, c1, truD, q_told_between_2_3a_1, mkF]
    · by_cases c2 : lo.1 - w * lo.2 = 0
      · obtain ⟨q, hq⟩ : ∃ q, hi.2.fdiv (hi.1 - w * hi.2) + 1 = q := ⟨_, rfl⟩
        have fq := floor_of (a := hi.2) r1
        have sp := simp_one l1 l2 h0 hl (w := w) (q := q) (by omega) w0 (by omega) r1 (by rw [← hq]; simpa using fq.1) (by rw [← hq]; exact fq.2)
        refine one (w * q + 1, q) sp fun S => ?_
        have fs := fin _ sp
        have q0 := sp.low.pos
        simp only at fs q0
        have d2 : divOk (hi.1 - w * hi.2) = true := d40 (by omega) (by omega)
        have pl := fun S => e_plus (x := (w, 1)) (y := (1, q)) (sz_w (by omega)) (sz_q (by omega)) S (by simp only; omega)
        have er : red (w * q + 1 * 1) (1 * q) = (w * q + 1, q) := by
          rw [Int.one_mul, Int.one_mul]; exact red_of_low sp.low
        simp only [er] at pl
        simp [q_told_between_2_3, F2, k3, c1, truD, q_told_between_2_3b_1, dEqI, c2, q_told_between_2_3b_1a_1, d_div d2, hq, mkF, pl]
      · have r0n : 0 < lo.1 - w * lo.2 := by omega
        have lw := low_sub l1 w
        have hw' := low_sub l2 w
        have g1 : Low (hi.2, hi.1 - w * hi.2) := low_flip hw' r1
        have g2 : Low (lo.2, lo.1 - w * lo.2) := low_flip lw r0n
        have gl : lt (hi.2, hi.1 - w * hi.2) (lo.2, lo.1 - w * lo.2) := by unfold lt; simp only; grind
        have hn2 : (S.set n (ws ++ [.int w]))[n]? = some (ws ++ [.int w]) := got hn
        obtain ⟨vs, f, y, ch, sy, y1, y2, p3, p4, p6, p7, e⟩ := ih (hi.2, hi.1 - w * hi.2) (lo.2, lo.1 - w * lo.2) g1 g2 (by simp only; omega) gl (by simp only; omega) (by simp only; omega) (by simp only; omega) (by simp only; omega) (by simp only; omega)
          (S.set n (ws ++ [.int w])) (ws ++ [.int w]) n hn2 (by simp only [List.length_append, List.length_singleton]; omega) o0 o1 (some (.int w)) (some (F2 (lo.1 - w * lo.2, lo.2) (hi.1 - w * hi.2, hi.2)))
        simp only at y1 y2
        have sp := simp_step l1 l2 h0 hl (w := w) (by omega) w0 sy r1
        have fs := fin _ sp
        have yp := sy.pos
        have yq := sy.low.pos
        have wy := Int.mul_nonneg w0 (show 0 ≤ y.1 by omega)
        simp only at fs
        refine ⟨w :: vs, f, (w * y.1 + y.2, y.1), .cons w vs f y ch w0 (by omega) ⟨by omega, by omega⟩ sy.low yp ⟨by simp only; omega, by simp only; omega⟩, sp, fs.1, fs.2, p3, p4, p6, p7, ?_⟩
        have es : (S.set n (ws ++ [.int w])).set n (ws ++ [.int w] ++ vs.map D.int) = S.set n (ws ++ (w :: vs).map D.int) := by
          rw [List.set_set]; simp
        rw [es] at e
        rw [sWhile_eq]
        have t1 : tbT [o0, o1, some (.loc n), some (F lo), some (F hi), some .non, o6, o7] S = .ok true S := by simp [tbT, dIsN, D.isNon]
        rw [t1]
        simp only [st_ok]
        have ov1 := fun S => e_over_one hw' b3 r1 S
        have ov2 := fun S => e_over_one lw b4 r0n S
        simp only at ov1 ov2
        have last : q_told_between_2_3 [o0, o1, some (.loc n), some (F lo), some (F hi), some .non, some (.int w), some (F2 (lo.1 - w * lo.2, lo.2) (hi.1 - w * hi.2, hi.2))] S = .nx [o0, o1, some (.loc n), some (F (hi.2, hi.1 - w * hi.2)), some (F (lo.2, lo.1 - w * lo.2)), some .non, some (.int w), some (F2 (lo.1 - w * lo.2, lo.2) (hi.1 - w * hi.2, hi.2))] (S.set n (ws ++ [.int w])) := by
          have len : ws.length < 16777216 := by omega
          simp [q_told_between_2_3, F2, k3, c1, truD, q_told_between_2_3b_1, dEqI, c2, eAppend, hn, len, q_told_between_2_3b_1b_2, ov1, ov2]
        unfold q_told_between_2B
        rw [ap_sSeq, start, then_nx, ap_sSeq, next, then_nx, last]
        exact e
theorem low_step {y : Int × Int} (hl : Low y) (hp : 0 < y.1) (w : Int) : Low (w * y.1 + y.2, y.1) := by
  have := low_sub (low_flip hl hp) (-w)
  have e : (w * y.1 + y.2, y.1) = ((y.2, y.1).1 - -w * (y.2, y.1).2, (y.2, y.1).2) := by simp only; congr 1; grind
  rw [e]; exact this
theorem tb_back {vs : List Int} {f x : Int × Int} (c : Chain vs f x) : ∀ o0 o1 o2 o3 o4 o6 o7 : Option D, ∃ p6, ∀ (rest : List D) (S : Sto), forL (gSet 6) q_told_between_3B ((vs.map D.int).reverse ++ rest) [o0, o1, o2, o3, o4, some (F f), o6, o7] S = forL (gSet 6) q_told_between_3B rest [o0, o1, o2, o3, o4, some (F x), p6, o7] S := by
  induction c with
  | nil x h hl hp => exact fun o0 o1 o2 o3 o4 o6 o7 => ⟨o6, fun rest S => rfl⟩
  | cons w ws f y c hw hw2 hb hl hp hx ih =>
    intro o0 o1 o2 o3 o4 o6 o7
    obtain ⟨p6, e⟩ := ih o0 o1 o2 o3 o4 o6 o7
    refine ⟨some (.int w), fun rest S => ?_⟩
    have er : ((w :: ws).map D.int).reverse ++ rest = (ws.map D.int).reverse ++ (.int w :: rest) := by simp
    rw [er, e]
    have ov := fun S => e_over_one hl hb hp S
    have pl := fun S => e_plus (x := (w, 1)) (y := (y.2, y.1)) (sz_w (by omega)) (sz_of (by have := hb.b; simp only; omega) (by have := hb.a; simp only; omega)) S (by simp only; omega)
    simp only [Int.one_mul, Int.mul_one] at pl
    rw [red_is (by omega) (low_step hl hp w) rfl] at pl
    have body : q_told_between_3B [o0, o1, o2, o3, o4, some (F y), some (.int w), o7] S = .nx [o0, o1, o2, o3, o4, some (F (w * y.1 + y.2, y.1)), some (.int w), o7] S := by
      simp [q_told_between_3B, q_told_between_3_1, ov, mkF, pl]
    show (match q_told_between_3B [o0, o1, o2, o3, o4, some (F y), some (.int w), o7] S with | .nx ρ S => forL (gSet 6) q_told_between_3B rest ρ S | .ct ρ S => forL (gSet 6) q_told_between_3B rest ρ S | .bk ρ S => .nx ρ S | .rt d S => .rt d S | .exc c v ρ S => .exc c v ρ S | .bad => .bad) = _
    rw [body]
theorem e_told_between {lo hi : Int × Int} (l1 : Low lo) (l2 : Low hi) (h0 : 0 ≤ lo.1) (hl : lt lo hi) (a1 : lo.1 ≤ 1000000) (a2 : lo.2 ≤ 1000000) (a3 : hi.1 ≤ 1000000) (a4 : hi.2 ≤ 1000000) (S : Sto) (hF : Flat S) :
    ∃ x, Simp x lo hi ∧ x.1 ≤ lo.1 + hi.1 ∧ x.2 ≤ lo.2 + hi.2 ∧ f_told_between [F lo, F hi] S = .ok (F x) S := by
  have p1 := l1.pos
  have p2 := l2.pos
  have hn : (S ++ [[]])[S.length]? = some ([] : List D) := by simp
  obtain ⟨vs, f, x, ch, sp, x1, x2, p3, p4, p6, p7, e⟩ := tb_loop 2000000 lo hi l1 l2 h0 hl a1 a2 a3 a4 (by omega) (S ++ [[]]) [] S.length hn (by simp) (some (F lo)) (some (F hi)) none none
  obtain ⟨q6, e2⟩ := tb_back ch (some (F lo)) (some (F hi)) (some (.loc S.length)) p3 p4 p6 p7
  refine ⟨x, sp, x1, x2, ?_⟩
  have es : (S ++ [[]]).set S.length ([] ++ vs.map D.int) = S ++ [vs.map D.int] := by simp
  rw [es] at e
  have hg : (S ++ [vs.map D.int])[S.length]? = some (vs.map D.int) := by simp
  have e2' := e2 [] (S ++ [vs.map D.int])
  rw [List.append_nil] at e2'
  refine drop_ok (S' := S ++ [vs.map D.int]) ?_ (by simp [F, D.low, D.lowL]) (by simp) hF
  unfold mkFn
  rw [if_pos (show [F lo, F hi].length = 2 from rfl)]
  have st : DL.start 8 [F lo, F hi] = [some (F lo), some (F hi), none, none, none, none, none, none] := rfl
  rw [st]
  have h1 : q_told_between_1 [some (F lo), some (F hi), none, none, none, none, none, none] S = .nx [some (F lo), some (F hi), some (.loc S.length), some (F lo), some (F hi), some .non, none, none] (S ++ [[]]) := by
    simp [q_told_between_1]
  have h2 : q_told_between_2 [some (F lo), some (F hi), some (.loc S.length), some (F lo), some (F hi), some .non, none, none] (S ++ [[]]) = .nx [some (F lo), some (F hi), some (.loc S.length), p3, p4, some (F f), p6, p7] (S ++ [vs.map D.int]) := e
  unfold m_told_between
  rw [ap_sSeq, h1, then_nx, ap_sSeq, h2, then_nx]
  have rv : wLst (eRev (eVar 2)) [some (F lo), some (F hi), some (.loc S.length), p3, p4, some (F f), p6, p7] (S ++ [vs.map D.int]) = .ok (vs.map D.int).reverse (S ++ [vs.map D.int]) := by
    simp [eRev]
  rw [ap_sSeq, ap_sFor, rv, st_ok, e2']
  simp [forL]
/-! ### any signs -/
structure SimpG (x lo hi : Int × Int) : Prop where
  low : Low x
  a : lt lo x
  b : lt x hi
  min : ∀ p q : Int, 0 < q → lt lo (p, q) → lt (p, q) hi → x.1.natAbs ≤ p.natAbs ∧ x.2 ≤ q
/-- a told fraction -/
structure Fr (x : Int × Int) : Prop where
  low : Low x
  a : x.1.natAbs ≤ 1000000
  b : x.2 ≤ 1000000
theorem Fr.bd {x : Int × Int} (h : Fr x) : Bd x := ⟨by have := h.a; omega, by have := h.b; have := h.low.pos; omega⟩
theorem Fr.look {x : Int × Int} (h : Fr x) (S : Sto) : f_look_at_fraction [F x] S = .ok .non S := e_look_at_fraction h.low h.a h.b S
theorem Fr.less {x y : Int × Int} (h : Fr x) (k : Fr y) (S : Sto) : f_is_less [F x, F y] S = .ok (.bl (decide (lt x y))) S := e_is_less (h.bd.sz (by decide)) (k.bd.sz (by decide)) S
theorem e_simplest {x y : Int × Int} (h : Fr x) (k : Fr y) (hl : lt x y) (S : Sto) (hF : Flat S) : ∃ z, SimpG z x y ∧ z.1.natAbs ≤ 2000000 ∧ z.2 ≤ 2000000 ∧ f_simplest_between [F x, F y] S = .ok (F z) S := by
  have p1 := h.low.pos
  have p2 := k.low.pos
  have ha := h.a; have hb := h.b; have ka := k.a; have kb := k.b
  have lk1 := h.look
  have lk2 := k.look
  have ls := h.less k
  have hl' : x.1 * y.2 < y.1 * x.2 := hl
  have hd : decide (lt x y) = true := decide_eq_true hl
  by_cases c1 : x.1 < 0
  · by_cases c2 : 0 < y.1
    · refine ⟨(0, 1), ⟨low_whole 0, ?_, ?_, ?_⟩, by simp, by simp, ?_⟩
      · unfold lt; simp only; omega
      · unfold lt; simp only; omega
      · intro p q hq _ _; simp only; omega
      · have s1 := (sgn x.1).mpr c1
        have s2 := (sgp y.1).mpr c2
        simp [f_simplest_between, mkFn, m_simplest_between, q_simplest_between_3, q_simplest_between_4, q_simplest_between_5a_1, q_simplest_between_5, q_simplest_between_6, DL.start, lk1, lk2, ls, hd, truD, e_sign_of, s1, s2]; rfl
    · have lo' : Low (-y.1, y.2) := low_neg k.low
      have hi' : Low (-x.1, x.2) := low_neg h.low
      obtain ⟨z, sz, z1, z2, e⟩ := e_told_between lo' hi' (by simp only; omega) (by unfold lt at *; simp only; grind) (by simp only; omega) (by simp only; omega) (by simp only; omega) (by simp only; omega) S hF
      simp only at z1 z2
      have zp := sz.pos
      have zq := sz.low.pos
      have za := sz.a
      have zb := sz.b
      unfold lt at za zb
      simp only at za zb
      refine ⟨(-z.1, z.2), ⟨low_neg sz.low, ?_, ?_, ?_⟩, by simp only; omega, by simp only; omega, ?_⟩
      · unfold lt; simp only; grind
      · unfold lt; simp only; grind
      · intro p q hq a b
        unfold lt at a b
        simp only at a b
        have := sz.min (-p) q hq (by unfold lt; simp only; grind) (by unfold lt; simp only; grind)
        constructor <;> (simp only; omega)
      · have s1 := (sgn x.1).mpr c1
        have s2 : ¬ 0 < sgD y.1 := fun q => c2 ((sgp y.1).mp q)
        have s3 : sgD y.1 ≤ 0 := by omega
        simp [f_simplest_between, mkFn, m_simplest_between, q_simplest_between_3, q_simplest_between_4, q_simplest_between_5a_1, q_simplest_between_5, q_simplest_between_6, DL.start, lk1, lk2, ls, hd, truD, e_sign_of, s1, s2, s3, e_turned_sign, e]
  · have y0 : 0 < y.1 := by
      have : 0 ≤ x.1 * y.2 := Int.mul_nonneg (by omega) (by omega)
      exact le_of_mul_pos p1 (by omega)
    obtain ⟨z, sz, z1, z2, e⟩ := e_told_between h.low k.low (by omega) hl (by omega) (by omega) (by omega) (by omega) S hF
    have zp := sz.pos
    refine ⟨z, ⟨sz.low, sz.a, sz.b, ?_⟩, by omega, by omega, ?_⟩
    · intro p q hq a b
      have := sz.min p q hq a b
      constructor <;> omega
    · have s1 : ¬ sgD x.1 < 0 := fun q => c1 ((sgn x.1).mp q)
      have s2 := (sgp y.1).mpr y0
      have s3 : ¬ sgD y.1 ≤ 0 := by omega
      simp [f_simplest_between, mkFn, m_simplest_between, q_simplest_between_3, q_simplest_between_4, q_simplest_between_5a_1, q_simplest_between_5, q_simplest_between_6, DL.start, lk1, lk2, ls, hd, truD, e_sign_of, s1, s3, e]
/-- two that are neighbours: both tops and both bottoms -/
theorem simp_near {z x y : Int × Int} (s : SimpG z x y) (hx : 0 < x.2) (hy : 0 < y.2) (d : y.1 * x.2 - x.1 * y.2 = 1) : z = (x.1 + y.1, x.2 + y.2) := by
  have za := s.a
  have zb := s.b
  unfold lt at za zb
  have m := (s.min (x.1 + y.1) (x.2 + y.2) (by omega) (by unfold lt; simp only; grind) (by unfold lt; simp only; grind)).2
  obtain ⟨u, hu⟩ : ∃ u, z.1 * x.2 - x.1 * z.2 = u := ⟨_, rfl⟩
  obtain ⟨v, hv⟩ : ∃ v, y.1 * z.2 - z.1 * y.2 = v := ⟨_, rfl⟩
  have e2 : z.2 = u * y.2 + v * x.2 := by rw [← hu, ← hv]; grind
  have e1 : z.1 = u * y.1 + v * x.1 := by rw [← hu, ← hv]; grind
  have u1 : 1 ≤ u := by omega
  have v1 : 1 ≤ v := by omega
  have a1 : 1 * y.2 ≤ u * y.2 := Int.mul_le_mul_of_nonneg_right u1 (by omega)
  have a2 : 1 * x.2 ≤ v * x.2 := Int.mul_le_mul_of_nonneg_right v1 (by omega)
  have u2 : u = 1 := by
    by_cases c : 2 ≤ u
    · have : 2 * y.2 ≤ u * y.2 := Int.mul_le_mul_of_nonneg_right c (by omega)
      omega
    · omega
  have v2 : v = 1 := by
    by_cases c : 2 ≤ v
    · have : 2 * x.2 ≤ v * x.2 := Int.mul_le_mul_of_nonneg_right c (by omega)
      omega
    · omega
  subst u2 v2
  refine Prod.ext ?_ ?_
  · simp only; omega
  · simp only; omega
end K45


set_option linter.all false
set_option autoImplicit false
set_option Elab.async false
set_option maxRecDepth 100000
set_option maxHeartbeats 4000000
/-! the plain law of k45: parents, the nearest with a bottom -/
namespace K45
open PySem DL
theorem par_step {b t rest left old new w : Int} (h1 : b ∣ old * t - rest) (h2 : b ∣ new * t - left) : b ∣ (old - w * new) * t - (rest - w * left) := by
  obtain ⟨c, hc⟩ := h1
  obtain ⟨d, hd⟩ := h2
  exact ⟨c - w * d, by grind⟩
theorem par_loop (one t b : Int) : ∀ (n k : Nat) (j : Nat) (i old new rest left : Int) (d0 o1 o2 o7 o8 o9 o10 : Option D) (S : Sto), 0 ≤ left → left < rest → rest ≤ 4194304 → rest * left < 2 ^ n → Int.gcd rest left = 1 → b ∣ old * t - rest → b ∣ new * t - left →
    old.natAbs < 2 ^ (23 * j + 1) → new.natAbs < 2 ^ (23 * j + 1) → j + n ≤ 60 →
    ∃ old' p4 p7 p10, forL (gSet 7) q_law_parents_3B (rngL i (n + 1 + k)) [d0, o1, o2, some (.int old), some (.int new), some (.int rest), some (.int left), o7, o8, o9, o10] S = .nx [d0, o1, o2, some (.int old'), p4, some (.int 1), some (.int 0), p7, o8, o9, p10] S ∧ b ∣ old' * t - 1 := by
  intro n
  induction n with
  | zero =>
    intro k j i old new rest left d0 o1 o2 o7 o8 o9 o10 S l0 l1 lb hp hg h1 h2 s1 s2 hj
    have z : left = 0 := by
      by_cases c : left = 0
      · exact c
      · have : 1 * 1 ≤ rest * left := Int.mul_le_mul (by omega) (by omega) (by decide) (by omega)
        simp at hp; omega
    subst z
    have r1 : rest = 1 := by simp at hg; omega
    subst r1
    refine ⟨old, some (.int new), some (.int i), o10, ?_, h1⟩
    rw [show 0 + 1 + k = k + 1 by omega]
    simp [rngL, forL, q_law_parents_3B, dEqI]
  | succ n ih =>
    intro k j i old new rest left d0 o1 o2 o7 o8 o9 o10 S l0 l1 lb hp hg h1 h2 s1 s2 hj
    by_cases z : left = 0
    · subst z
      have r1 : rest = 1 := by simp at hg; omega
      subst r1
      refine ⟨old, some (.int new), some (.int i), o10, ?_, h1⟩
      rw [show n + 1 + 1 + k = n + 1 + k + 1 by omega]
      simp [rngL, forL, q_law_parents_3B, dEqI]
    · have lp : 0 < left := by omega
      obtain ⟨w, hw⟩ : ∃ w, rest.fdiv left = w := ⟨_, rfl⟩
      have fl := floor_of (a := rest) lp
      rw [hw] at fl
      have w1 : 1 ≤ w := by
        have : 0 < (w + 1 - 1) * left := by
          by_cases c : 0 < w
          · have := Int.mul_pos c lp
            have e : w + 1 - 1 = w := by omega
            rw [e]; exact this
          · have : (w + 1) * left ≤ 1 * left := Int.mul_le_mul_of_nonneg_right (by omega) l0
            omega
        have := le_of_mul_pos lp this
        omega
      have wb : w ≤ 4194304 := mul_bd (b := left) (by omega) lp (by omega)
      have e1 : (w + 1) * left = w * left + left := by grind
      have wl : 1 * left ≤ w * left := Int.mul_le_mul_of_nonneg_right w1 l0
      have hg' : Int.gcd left (rest - w * left) = 1 := by
        rw [Int.gcd_comm]
        have e : rest - w * left = rest + -w * left := by grind
        rw [e]; simpa using hg
      have hp' : left * (rest - w * left) < 2 ^ n := by
        have a1 : left * (rest - w * left) * 2 ≤ left * rest := by
          have : (rest - w * left) * 2 ≤ rest := by omega
          have := Int.mul_le_mul_of_nonneg_left this l0
          rw [Int.mul_assoc]; exact this
        have a2 : rest * left = left * rest := Int.mul_comm _ _
        rw [Int.pow_succ] at hp
        omega
      have d1 : divOk left = true := d40 (by omega) (by omega)
      have m1 : mulOk w left = true := m40 (by omega) (by omega)
      have s3 : (w * new).natAbs < 2 ^ (23 + (23 * j + 1)) := mul_lt (show w.natAbs < 2 ^ 23 by omega) s2
      have m2 : mulOk w new = true := mul_ok (n := 23) (m := 23 * j + 1) (by omega) s2 (by omega) (by omega)
      have s4 : (old - w * new).natAbs < 2 ^ (23 * (j + 1) + 1) := by
        have q1 : 2 ^ (23 * j + 1) ≤ 2 ^ (23 * (j + 1)) := Nat.pow_le_pow_right (by decide) (by omega)
        have w22 : (w * new).natAbs < 2 ^ (23 * (j + 1)) := by
          have w2 : w.natAbs ≤ 2 ^ 22 := by omega
          rw [Int.natAbs_mul]
          have : w.natAbs * new.natAbs ≤ 2 ^ 22 * new.natAbs := Nat.mul_le_mul_right _ w2
          have : 2 ^ 22 * new.natAbs < 2 ^ 22 * 2 ^ (23 * j + 1) := Nat.mul_lt_mul_of_pos_left s2 (by decide)
          have e : 2 ^ 22 * 2 ^ (23 * j + 1) = 2 ^ (23 * (j + 1)) := by rw [← Nat.pow_add]; congr 1; omega
          omega
        rw [Nat.pow_succ]
        omega
      have s5 : new.natAbs < 2 ^ (23 * (j + 1) + 1) := Nat.lt_of_lt_of_le s2 (Nat.pow_le_pow_right (by decide) (by omega))
      obtain ⟨old', p4, p7, p10, e, hd⟩ := ih k (j + 1) (i + 1) new (old - w * new) left (rest - w * left) d0 o1 o2 (some (.int i)) o8 o9 (some (.int w)) S (by omega) (by omega) (by omega) hp' hg' h2 (par_step h1 h2) s5 s4 (by omega)
      refine ⟨old', p4, p7, p10, ?_, hd⟩
      rw [← e, show n + 1 + 1 + k = n + 1 + k + 1 by omega]
      have nz : ¬ left = 0 := z
      simp [rngL, forL, q_law_parents_3B, dEqI, nz, d_div d1, hw, q_law_parents_3_3, d_mul m1, d_mul m2]
theorem e_parents {x : Int × Int} (l : Low x) (h1 : 1 < x.2) (hb : x.2 ≤ 2000000) (ha : x.1.natAbs ≤ 2000000) (S : Sto) :
    ∃ y : Int × Int, 0 < y.2 ∧ y.2 < x.2 ∧ x.1 * y.2 - y.1 * x.2 = 1 ∧ f_law_parents [F x] S = .ok (F2 y (x.1 - y.1, x.2 - y.2)) S := by
  have p := l.pos
  have hm := fm (a := x.1) p
  obtain ⟨c, hc⟩ : ∃ c, x.1.fmod x.2 = c := ⟨_, rfl⟩
  rw [hc] at hm
  have ed := Int.fmod_add_mul_fdiv x.1 x.2
  rw [hc] at ed
  have g1 : Int.gcd x.2 c = 1 := by
    have := low_sub l (x.1.fdiv x.2)
    have e : x.1 - x.1.fdiv x.2 * x.2 = c := by grind
    rw [e] at this
    rw [Int.gcd_comm]; exact this.one
  have hp : x.2 * c < 2 ^ 44 := by
    have : x.2 * c ≤ 2000000 * 2000000 := Int.mul_le_mul hb (by omega) hm.1 (by omega)
    omega
  obtain ⟨old, p4, p7, p10, e, hd⟩ := par_loop 0 x.1 x.2 44 75 0 0 0 1 x.2 c (some (F x)) (some (.int x.1)) (some (.int x.2)) none none none none S hm.1 hm.2 (by omega) hp g1 ⟨-1, by grind⟩ ⟨x.1.fdiv x.2, by grind⟩ (by decide) (by decide) (by decide)
  have hm2 := fm (a := old) p
  have ed2 := Int.fmod_add_mul_fdiv old x.2
  obtain ⟨s, hs⟩ : ∃ s, old.fmod x.2 = s := ⟨_, rfl⟩
  rw [hs] at hm2 ed2
  obtain ⟨r, hr⟩ := hd
  have key : x.1 * s - 1 = x.2 * (r - old.fdiv x.2 * x.1) := by grind
  obtain ⟨q, hq⟩ : ∃ q, r - old.fdiv x.2 * x.1 = q := ⟨_, rfl⟩
  rw [hq] at key
  have s0 : s ≠ 0 := by
    intro z
    rw [z, Int.mul_zero] at key
    have : (x.2) ∣ 1 := ⟨-q, by grind⟩
    have := Int.le_of_dvd (by decide) this
    omega
  have fq : (x.1 * s - 1).fdiv x.2 = q := by rw [key]; exact Int.mul_fdiv_cancel_left _ (by omega)
  have m1 : mulOk x.1 s = true := m40 (by omega) (by omega)
  have d1 : divOk x.2 = true := d40 (by omega) (by omega)
  have nz : x.2 ≠ 0 := by omega
  refine ⟨(q, s), by simp only; omega, by simp only; omega, by simp only; grind, ?_⟩
  have rg : fRange1 (aCons (eC (.int 120)) aNil) [some (F x), some (.int x.1), some (.int x.2), some (.int 0), some (.int 1), some (.int x.2), some (.int c), none, none, none, none] S = .ok (rngL 0 120) S := rng_ok (j := 120) (by simp) (by decide) (by decide)
  unfold f_law_parents mkFn
  rw [if_pos (show [F x].length = 1 from rfl)]
  have st : DL.start 11 [F x] = [some (F x), none, none, none, none, none, none, none, none, none, none] := rfl
  rw [st]
  unfold m_law_parents
  have h1 : q_law_parents_1 [some (F x), none, none, none, none, none, none, none, none, none, none] S = .nx [some (F x), some (.int x.1), some (.int x.2), none, none, none, none, none, none, none, none] S := by
    simp [q_law_parents_1, F]
  have h2 : q_law_parents_2 [some (F x), some (.int x.1), some (.int x.2), none, none, none, none, none, none, none, none] S = .nx [some (F x), some (.int x.1), some (.int x.2), some (.int 0), some (.int 1), some (.int x.2), some (.int c), none, none, none, none] S := by
    simp [q_law_parents_2, d_mod nz, hc]
  rw [ap_sSeq, h1, then_nx, ap_sSeq, h2, then_nx, ap_sSeq]
  unfold q_law_parents_3
  rw [ap_sFor, rg, st_ok, e, then_nx]
  simp [q_law_parents_4, q_law_parents_5, q_law_parents_6, d_mod nz, hs, d_mul m1, d_div d1, fq, mkF, F2]
/-! ### the law's own looks -/
theorem e_law_inside {z x y : Int × Int} (h : Bd z) (hx : Bd x) (hy : Bd y) (S : Sto) : f_law_is_inside [F z, F x, F y] S = .ok (.bl (decide (lt x z) && decide (lt z y))) S := by
  have a := fun S => e_law_is_below (hx.sz (n := 4400) (by decide)) (h.sz (by decide)) S
  have b := fun S => e_law_is_below (h.sz (n := 4400) (by decide)) (hy.sz (by decide)) S
  by_cases c : x.1 * z.2 < z.1 * x.2
  · simp [f_law_is_inside, mkFn, m_law_is_inside, DL.start, a, b, c, lt]; rfl
  · simp [f_law_is_inside, mkFn, m_law_is_inside, DL.start, a, b, c, lt]
theorem pow_big : ∃ T U : Int, (∀ S, dPow (.int 10) (.int 60) S = .ok (.int T) S) ∧ (∀ S, dPow (.int T) (.int 60) S = .ok (.int U) S) ∧ 1099511627776 ≤ U := by
  have e27 : (2 : Int) ^ 27 = 134217728 := by decide +kernel
  obtain ⟨T, T0, T1, hT⟩ : ∃ T : Int, 1099511627776 < T ∧ T.natAbs < 2 ^ 200 ∧ ∀ S, dPow (.int 10) (.int 60) S = .ok (.int T) S := ⟨10 ^ 60, by decide +kernel, by decide +kernel, fun S => d_pow (by decide +kernel) S⟩
  have b := bits_le T1 (by decide)
  refine ⟨T, T ^ 60, hT, fun S => d_pow ⟨by decide, by rw [e27]; omega⟩ S, ?_⟩
  have e : T ^ 60 = T ^ 59 * T := Int.pow_succ _ _
  have : 0 < T ^ 59 := Int.pow_pos (by omega)
  have : 1 * T ≤ T ^ 59 * T := Int.mul_le_mul_of_nonneg_right (by omega) (by omega)
  omega
theorem e_law_fraction {x : Int × Int} (l : Low x) (b : Bd x) (S : Sto) : f_law_is_fraction [F x] S = .ok (.bl true) S := by
  obtain ⟨T, U, hT, hU, u⟩ := pow_big
  have i1 := fun S => e_law_is_int x.1 (-U) U S
  have i2 := fun S => e_law_is_int x.2 (-U) U S
  have a1 := b.a
  have a2 := b.b
  rw [decide_eq_true (show -U ≤ x.1 by omega), decide_eq_true (show x.1 ≤ U by omega)] at i1
  rw [decide_eq_true (show -U ≤ x.2 by omega), decide_eq_true (show x.2 ≤ U by omega)] at i2
  have fx : F x = .tup [.int x.1, .int x.2] := rfl
  have p := l.pos
  have g := l.one
  unfold f_law_is_fraction mkFn m_law_is_fraction
  simp [DL.start, isTupF, truD, lenF, dNeI]
  rw [fx]
  simp [compL, wipeE, hT, hU, i1, i2, fAll, bools, p, e_law_gcd, dEqI, g]
theorem e_is_simplest {z x y : Int × Int} (s : SimpG z x y) (hx : Fr x) (hy : Fr y) (z1 : z.1.natAbs ≤ 2000000) (z2 : z.2 ≤ 2000000) (S : Sto) : f_law_is_simplest [F z, F x, F y] S = .ok (.bl true) S := by
  have p := s.low.pos
  have bz : Bd z := ⟨by omega, by omega⟩
  have fr := fun S => e_law_fraction s.low bz S
  have ins := fun S => e_law_inside bz hx.bd hy.bd S
  rw [decide_eq_true s.a, decide_eq_true s.b] at ins
  by_cases c : 1 < z.2
  · obtain ⟨w, w1, w2, w3, e⟩ := e_parents s.low c z2 z1 S
    have mz : z.1.natAbs * w.2.natAbs ≤ 2000000 * 2000000 := Nat.mul_le_mul z1 (by omega)
    have wa : w.1.natAbs ≤ 2000001 := by
      have e : w.1 * z.2 = z.1 * w.2 - 1 := by omega
      have e' : w.1.natAbs * z.2.natAbs = (z.1 * w.2 - 1).natAbs := by rw [← Int.natAbs_mul, e]
      have e2 : (z.1 * w.2).natAbs = z.1.natAbs * w.2.natAbs := Int.natAbs_mul _ _
      have k1 : z.1.natAbs * w.2.natAbs ≤ 2000000 * w.2.natAbs := Nat.mul_le_mul_right _ z1
      have k2 : 2000000 * w.2.natAbs ≤ 2000000 * z.2.natAbs := Nat.mul_le_mul_left _ (by omega)
      have k3 : w.1.natAbs * z.2.natAbs ≤ 2000001 * z.2.natAbs := by omega
      exact Nat.le_of_mul_le_mul_right k3 (by omega)
    have b1 : Bd w := ⟨by omega, by omega⟩
    have b2 : Bd (z.1 - w.1, z.2 - w.2) := ⟨by simp only; omega, by simp only; omega⟩
    have i1 := fun S => e_law_inside b1 hx.bd hy.bd S
    have i2 := fun S => e_law_inside b2 hx.bd hy.bd S
    have n1 : ¬ (lt x w ∧ lt w y) := fun q => by
      have := (s.min w.1 w.2 w1 q.1 q.2).2
      omega
    have n2 : ¬ (lt x (z.1 - w.1, z.2 - w.2) ∧ lt (z.1 - w.1, z.2 - w.2) y) := fun q => by
      have := (s.min _ _ (by omega) q.1 q.2).2
      omega
    have j1 : (decide (lt x w) && decide (lt w y)) = false := by
      rw [← Bool.decide_and]; exact decide_eq_false n1
    have j2 : (decide (lt x (z.1 - w.1, z.2 - w.2)) && decide (lt (z.1 - w.1, z.2 - w.2) y)) = false := by
      rw [← Bool.decide_and]; exact decide_eq_false n2
    rw [j1] at i1
    rw [j2] at i2
    simp [f_law_is_simplest, mkFn, m_law_is_simplest, DL.start, fr, truD, ins, c, e, F2, compL, wipeE, i1, i2, fAny, bools]
  · have z21 : z.2 = 1 := by omega
    by_cases c0 : z.1 = 0
    · have c' : ¬ 0 < z.1 := by omega
      simp [f_law_is_simplest, mkFn, m_law_is_simplest, DL.start, fr, truD, ins, c, c', dEqI, c0]
    · obtain ⟨v, hv, hv2⟩ : ∃ v : Int, (if 0 < z.1 then (-1 : Int) else 1) = v ∧ (z.1 + v).natAbs < z.1.natAbs := by
        by_cases d : 0 < z.1
        · exact ⟨-1, by rw [if_pos d], by omega⟩
        · exact ⟨1, by rw [if_neg d], by omega⟩
      have b2 : Bd (z.1 + v, 1) := ⟨by simp only; omega, by simp⟩
      have i2 := fun S => e_law_inside b2 hx.bd hy.bd S
      have n2 : ¬ (lt x (z.1 + v, 1) ∧ lt (z.1 + v, 1) y) := fun q => by
        have := (s.min _ _ (by decide) q.1 q.2).1
        omega
      have j2 : (decide (lt x (z.1 + v, 1)) && decide (lt (z.1 + v, 1) y)) = false := by
        rw [← Bool.decide_and]; exact decide_eq_false n2
      rw [j2] at i2
      by_cases d : 0 < z.1
      · rw [if_pos d] at hv
        subst hv
        simp [f_law_is_simplest, mkFn, m_law_is_simplest, DL.start, fr, truD, ins, c, d, dEqI, c0, mkF, i2]
      · rw [if_neg d] at hv
        subst hv
        simp [f_law_is_simplest, mkFn, m_law_is_simplest, DL.start, fr, truD, ins, c, d, dEqI, c0, mkF, i2]
/-! ### drawn ones -/
theorem e_great {S : Sto} {n : Nat} {k m : Int} (P : PotAt S n k) (hk : k < 900) (hm : 0 < m) (hm2 : m ≤ 1000000) : ∃ x S', f_law_great_fraction [.loc n, .int m] S = .ok (F x) S' ∧ Low x ∧ x.1.natAbs ≤ m ∧ x.2 ≤ m ∧ PotAt S' n (k + 2) ∧ S'.length = S.length := by
  have e62 : (2 : Int) ^ 62 = 4611686018427387904 := by decide +kernel
  obtain ⟨d1, S1, t1, a1, b1, P1, L1⟩ := e_take (u := 2 * m + 1) P (by omega) (by omega) (by rw [e62]; omega)
  obtain ⟨d2, S2, t2, a2, b2, P2, L2⟩ := e_take (u := m) P1 (by omega) (by omega) (by rw [e62]; omega)
  have bn : 1 + d2 ≠ 0 := by omega
  have rt := fun S => e_law_rate (t := d1 - m) bn (lt_of40 (by omega) (by decide)) S
  have l := red_le (d1 - m) (1 + d2) bn
  have lo := red_low (d1 - m) (1 + d2) bn
  have := lo.pos
  have m2 : mulOk 2 m = true := m40 (by decide) (by omega)
  refine ⟨red (d1 - m) (1 + d2), S2, ?_, lo, by omega, by omega, P2.mono (by omega), by omega⟩
  simp [f_law_great_fraction, mkFn, m_law_great_fraction, DL.start, d_mul m2, t1, t2, rt]
theorem det_low {x y : Int × Int} (hx : 0 < x.2) (hy : 0 < y.2) (d : y.1 * x.2 - x.1 * y.2 = 1) : Low x ∧ Low y :=
  ⟨low_comb hx (u := -y.2) (v := y.1) (by grind), low_comb hy (u := x.2) (v := -x.1) (by grind)⟩
theorem e_neighbours {S : Sto} {n : Nat} {k : Int} (P : PotAt S n k) (hk : k < 900) : ∃ x y S', f_law_neighbours [.loc n] S = .ok (F2 x y) S' ∧ Fr x ∧ Fr y ∧ y.1 * x.2 - x.1 * y.2 = 1 ∧ PotAt S' n (k + 3) ∧ S'.length = S.length := by
  obtain ⟨z, S1, e1, l, z1, z2, P1, L1⟩ := e_great (m := 900) P hk (by decide) (by decide)
  have p := l.pos
  by_cases c : z.2 = 1
  · refine ⟨(z.1, 1), (z.1 + 1, 1), S1, ?_, ⟨low_whole _, by simp only; omega, by simp⟩, ⟨low_whole _, by simp only; omega, by simp⟩, by simp only; omega, P1.mono (by omega), L1⟩
    simp [f_law_neighbours, mkFn, m_law_neighbours, DL.start, e1, dEqI, c, F2, F]
  · obtain ⟨w, w1, w2, w3, e⟩ := e_parents l (by omega) (by omega) (by omega) S1
    have wa : w.1.natAbs ≤ 901 := by
      have e : w.1 * z.2 = z.1 * w.2 - 1 := by omega
      have e' : w.1.natAbs * z.2.natAbs = (z.1 * w.2 - 1).natAbs := by rw [← Int.natAbs_mul, e]
      have e2 : (z.1 * w.2).natAbs = z.1.natAbs * w.2.natAbs := Int.natAbs_mul _ _
      have k1 : z.1.natAbs * w.2.natAbs ≤ 900 * w.2.natAbs := Nat.mul_le_mul_right _ (by omega)
      have k2 : 900 * w.2.natAbs ≤ 900 * z.2.natAbs := Nat.mul_le_mul_left _ (by omega)
      have k3 : w.1.natAbs * z.2.natAbs ≤ 901 * z.2.natAbs := by omega
      exact Nat.le_of_mul_le_mul_right k3 (by omega)
    have hw := (det_low w1 p w3).1
    have q0 : 0 < z.2 - w.2 := by omega
    have d2 : (z.1 - w.1) * z.2 - z.1 * (z.2 - w.2) = 1 := by grind
    have d3 : (z.1 - w.1) * w.2 - w.1 * (z.2 - w.2) = 1 := by grind
    have hv := (det_low (x := z) (y := (z.1 - w.1, z.2 - w.2)) p q0 d2).2
    have f1 : Fr w := ⟨hw, by omega, by omega⟩
    have f2 : Fr z := ⟨l, by omega, by omega⟩
    have f3 : Fr (z.1 - w.1, z.2 - w.2) := ⟨hv, by simp only; omega, by simp only; omega⟩
    obtain ⟨r, S2, hr, e2, P2, L2⟩ := e_of P1 (by omega) [F2 w z, F2 z (z.1 - w.1, z.2 - w.2), F2 w (z.1 - w.1, z.2 - w.2)] (by simp) (by simp)
    have run : f_law_neighbours [.loc n] S = .ok r S2 := by
      have er : f_law_parents [F z] S1 = .ok (.tup [F w, F (z.1 - w.1, z.2 - w.2)]) S1 := e
      have e2' : f_law_of [.loc n, .lst [.tup [F w, F z], .tup [F z, F (z.1 - w.1, z.2 - w.2)], .tup [F w, F (z.1 - w.1, z.2 - w.2)]]] S1 = .ok r S2 := e2
      simp [f_law_neighbours, mkFn, m_law_neighbours, DL.start, e1, dEqI, c, er, e2']
    simp only [List.mem_cons, List.not_mem_nil, or_false] at hr
    rcases hr with rfl | rfl | rfl
    · exact ⟨_, _, S2, run, f1, f2, w3, P2.mono (by omega), by omega⟩
    · exact ⟨_, _, S2, run, f2, f3, d2, P2.mono (by omega), by omega⟩
    · exact ⟨_, _, S2, run, f1, f3, d3, P2.mono (by omega), by omega⟩
theorem e_nearest {x : Int × Int} (h : Fr x) {b : Int} (b1 : 1 ≤ b) (b2 : b ≤ 1000000) (S : Sto) : f_nearest_with [F x, .int b] S = .ok (F (red ((x.1 * b).fdiv x.2) b)) S := by
  have lk := h.look
  have ha := h.a
  have hb := h.b
  have hp := h.low.pos
  have m1 : mulOk x.1 b = true := m40 (by omega) (by omega)
  have d1 : divOk x.2 = true := d40 (by omega) (by omega)
  have r := fun S => e_rate (t := (x.1 * b).fdiv x.2) (b := b) (by omega) (lt_of40 (by omega) (by decide)) S
  simp [f_nearest_with, mkFn, m_nearest_with, DL.start, lk, e_is_whole, truD, b1, b2, k_MOST, d_mul m1, d_div d1, r]
theorem near_le {x1 x2 y1 y2 g q b : Int} (hq : q = g * y1) (hb : b = g * y2) (h : q * x2 ≤ x1 * b) (g0 : 0 < g) : ¬ x1 * y2 < y1 * x2 := by
  intro c
  have := Int.mul_lt_mul_of_pos_left c g0
  rw [hq, hb] at h
  have e1 : g * (x1 * y2) = x1 * (g * y2) := by grind
  have e2 : g * (y1 * x2) = g * y1 * x2 := by grind
  omega
theorem near_lt {x1 x2 y1 y2 v1 v2 g q b : Int} (hq : q = g * y1) (hb : b = g * y2) (h : x1 * b < (q + 1) * x2) (g0 : 0 < g) (y0 : 0 < y2) (v0 : 0 < v2) (cr : v1 * (y2 * b) = (y1 * b + 1 * y2) * v2) : x1 * v2 < v1 * x2 := by
  rw [hq, hb] at h
  rw [hb] at cr
  have a4 : y2 * (v1 * (g * y2)) = y2 * ((g * y1 + 1) * v2) := by grind
  have a5 := Int.eq_of_mul_eq_mul_left (show y2 ≠ 0 by omega) a4
  have gy : 0 < g * y2 := Int.mul_pos g0 y0
  have e : (g * y2) * (x1 * v2) < (g * y2) * (v1 * x2) := by
    have l : x1 * (g * y2) * v2 < (g * y1 + 1) * x2 * v2 := Int.mul_lt_mul_of_pos_right h v0
    have e1 : (g * y2) * (x1 * v2) = x1 * (g * y2) * v2 := by grind
    have e2 : (g * y2) * (v1 * x2) = v1 * (g * y2) * x2 := by grind
    have e3 : (g * y1 + 1) * x2 * v2 = (g * y1 + 1) * v2 * x2 := by grind
    rw [e1, e2, a5, ← e3]; exact l
  exact Int.lt_of_mul_lt_mul_left e (by omega)
theorem e_near_right {S : Sto} {n : Nat} {k : Int} (P : PotAt S n k) (hk : k < 900) {x : Int × Int} (h : Fr x) : ∃ S', f_law_is_near_right [.loc n, F x] S = .ok (.bl true) S' ∧ PotAt S' n (k + 2) ∧ S'.length = S.length := by
  have e62 : (2 : Int) ^ 62 = 4611686018427387904 := by decide +kernel
  obtain ⟨d, S1, t1, a1, b1, P1, L1⟩ := e_take (u := 1000000) P (by omega) (by omega) (by rw [e62]; omega)
  obtain ⟨r, S2, hr, e2, P2, L2⟩ := e_of P1 (by omega) [.int 1, .int 2, .int 1000000, .int 999983, .int (1 + d)] (by simp) (by simp)
  obtain ⟨b, rfl, b1, b2⟩ : ∃ b : Int, r = .int b ∧ 1 ≤ b ∧ b ≤ 1000000 := by
    simp only [List.mem_cons, List.not_mem_nil, or_false] at hr
    rcases hr with rfl | rfl | rfl | rfl | rfl
    · exact ⟨_, rfl, by decide, by decide⟩
    · exact ⟨_, rfl, by decide, by decide⟩
    · exact ⟨_, rfl, by decide, by decide⟩
    · exact ⟨_, rfl, by decide, by decide⟩
    · exact ⟨_, rfl, by omega, by omega⟩
  have nr := fun S => e_nearest h b1 b2 S
  have ha := h.a
  have hb := h.b
  have hp := h.low.pos
  obtain ⟨q, hq⟩ : ∃ q, (x.1 * b).fdiv x.2 = q := ⟨_, rfl⟩
  have fl := floor_of (a := x.1 * b) hp
  rw [hq] at fl
  simp only [hq] at nr
  have xb : (x.1 * b).natAbs ≤ 1000000 * 1000000 := by rw [Int.natAbs_mul]; exact Nat.mul_le_mul ha (by omega)
  have qb : q.natAbs ≤ 1000000000001 := by
    have k1 : (q * x.2).natAbs = q.natAbs * x.2.natAbs := Int.natAbs_mul _ _
    have e : (q + 1) * x.2 = q * x.2 + x.2 := by grind
    have k3 : q.natAbs * x.2.natAbs ≤ 1000000000001 * x.2.natAbs := by omega
    exact Nat.le_of_mul_le_mul_right k3 (by omega)
  obtain ⟨g, g0, ea, eb, lo⟩ := red_spec q b (by omega)
  have le := red_le q b (by omega)
  generalize red q b = y at *
  have yp := lo.pos
  have gp : 0 < g := le_of_mul_pos yp (by omega)
  have xs : Sz 4400 x := h.bd.sz (by decide)
  have ys : Sz 4400 y := ⟨lt_of40 (by omega) (by decide), lt_of40 (by omega) (by decide)⟩
  obtain ⟨T, U, hT, hU, u⟩ := pow_big
  have fr : ∀ S, f_law_is_fraction [F y] S = .ok (.bl true) S := fun S => by
    have i1 := fun S => e_law_is_int y.1 (-U) U S
    have i2 := fun S => e_law_is_int y.2 (-U) U S
    rw [decide_eq_true (show -U ≤ y.1 by omega), decide_eq_true (show y.1 ≤ U by omega)] at i1
    rw [decide_eq_true (show -U ≤ y.2 by omega), decide_eq_true (show y.2 ≤ U by omega)] at i2
    have fx : F y = .tup [.int y.1, .int y.2] := rfl
    have gg := lo.one
    unfold f_law_is_fraction mkFn m_law_is_fraction
    simp [DL.start, isTupF, truD, lenF, dNeI]
    rw [fx]
    simp [compL, wipeE, hT, hU, i1, i2, fAll, bools, yp, e_law_gcd, dEqI, gg]
  have md : b.fmod y.2 = 0 := by
    rw [eb, Int.mul_comm]; exact Int.mul_fmod_right _ _
  have yn : y.2 ≠ 0 := by omega
  have bl1 := fun S => e_law_is_below xs ys S
  have nb : ¬ x.1 * y.2 < y.1 * x.2 := near_le ea eb fl.1 gp
  rw [decide_eq_false nb] at bl1
  have bs : Sz 4400 (1, b) := sz_q (by omega)
  have yb : y.2 * b ≠ 0 := Int.mul_ne_zero yn (by omega)
  have pl := fun S => e_law_plus ys bs S (by simp only; exact yb)
  simp only at pl
  have ybb : (y.2 * b).natAbs ≤ 1000000 * 1000000 := by rw [Int.natAbs_mul]; exact Nat.mul_le_mul (by omega) (by omega)
  have yab : (y.1 * b).natAbs ≤ 1000000000001 * 1000000 := by rw [Int.natAbs_mul]; exact Nat.mul_le_mul (by omega) (by omega)
  have l2 := red_low (y.1 * b + 1 * y.2) (y.2 * b) yb
  have le2 := red_le (y.1 * b + 1 * y.2) (y.2 * b) yb
  have cr := red_cross (y.1 * b + 1 * y.2) (y.2 * b) yb
  generalize red (y.1 * b + 1 * y.2) (y.2 * b) = v at *
  have vp := l2.pos
  have vs : Sz 4400 v := ⟨Nat.lt_of_lt_of_le (show v.1.natAbs < 2 ^ 60 by omega) (Nat.pow_le_pow_right (by decide) (by decide)), lt_of40 (by omega) (by decide)⟩
  have bl2 := fun S => e_law_is_below xs vs S
  have yes : x.1 * v.2 < v.1 * x.2 := near_lt ea eb fl.2 gp yp vp cr
  rw [decide_eq_true yes] at bl2
  refine ⟨S2, ?_, P2.mono (by omega), by omega⟩
  simp [f_law_is_near_right, mkFn, m_law_is_near_right, DL.start, p10_6, t1, e2, nr, fr, truD, d_mod yn, md, dNeI, bl1, mkF, pl, bl2]
end K45


set_option linter.all false
set_option autoImplicit false
set_option Elab.async false
set_option maxRecDepth 100000
set_option maxHeartbeats 4000000
/-! the plain law of k45: one lap, the law -/
namespace K45
open PySem DL
theorem Fr.nz {x : Int × Int} (h : Fr x) : x.2 ≠ 0 := low_ne h.low
theorem Fr.s {x : Int × Int} (h : Fr x) : Sz 4400 x := h.bd.sz (by decide)
theorem s_11 {S : Sto} {n : Nat} {k : Int} (P : PotAt S n k) (hk : k < 900) (o1 o2 o3 o4 o5 o6 o7 o8 o9 o10 : Option D) :
    ∃ m w S', q_law_right_1_1 [some (.loc n), o1, o2, o3, o4, o5, o6, o7, o8, o9, o10] S = .nx [some (.loc n), o1, some (.int m), some (.int w), o4, o5, o6, o7, o8, o9, o10] S' ∧ 0 < m ∧ m ≤ 1000000 ∧ PotAt S' n (k + 2) := by
  have e62 : (2 : Int) ^ 62 = 4611686018427387904 := by decide +kernel
  obtain ⟨r, S1, hr, e1, P1, L1⟩ := e_of P (by omega) [.int 3, .int 1000, .int 1000000, .int 1000000] (by simp) (by simp)
  obtain ⟨w, S2, t1, a1, b1, P2, L2⟩ := e_take (u := 3) P1 (by omega) (by omega) (by rw [e62]; omega)
  obtain ⟨m, rfl, m1, m2⟩ : ∃ m : Int, r = .int m ∧ 0 < m ∧ m ≤ 1000000 := by
    simp only [List.mem_cons, List.not_mem_nil, or_false] at hr
    rcases hr with rfl | rfl | rfl | rfl
    · exact ⟨_, rfl, by decide, by decide⟩
    · exact ⟨_, rfl, by decide, by decide⟩
    · exact ⟨_, rfl, by decide, by decide⟩
    · exact ⟨_, rfl, by decide, by decide⟩
  exact ⟨m, w, S2, by simp [q_law_right_1_1, p10_6, e1, t1], m1, m2, P2.mono (by omega)⟩
theorem s_12 {S : Sto} {n : Nat} {k m : Int} (P : PotAt S n k) (hk : k < 890) (m1 : 0 < m) (m2 : m ≤ 1000000) (o1 o3 o4 o5 o6 o7 o8 o9 o10 : Option D) :
    ∃ x y S', q_law_right_1_2 [some (.loc n), o1, some (.int m), o3, o4, o5, o6, o7, o8, o9, o10] S = .nx [some (.loc n), o1, some (.int m), o3, some (F x), some (F y), o6, o7, o8, o9, o10] S' ∧ Fr x ∧ Fr y ∧ PotAt S' n (k + 4) := by
  obtain ⟨x, S1, e1, l1, x1, x2, P1, L1⟩ := e_great P (by omega) m1 m2
  obtain ⟨y, S2, e2, l2, y1, y2, P2, L2⟩ := e_great P1 (by omega) m1 m2
  exact ⟨x, y, S2, by simp [q_law_right_1_2, e1, e2], ⟨l1, by omega, by omega⟩, ⟨l2, by omega, by omega⟩, P2.mono (by omega)⟩
theorem s_13 {S : Sto} {n : Nat} {k w : Int} (P : PotAt S n k) (hk : k < 890) {x y : Int × Int} (hx : Fr x) (hy : Fr y) (o1 o2 o6 o7 o8 o9 o10 : Option D) :
    ∃ y' p10 S', q_law_right_1_3 [some (.loc n), o1, o2, some (.int w), some (F x), some (F y), o6, o7, o8, o9, o10] S = .nx [some (.loc n), o1, o2, some (.int w), some (F x), some (F y'), o6, o7, o8, o9, p10] S' ∧ Fr y' ∧ PotAt S' n (k + 1) := by
  have e62 : (2 : Int) ^ 62 = 4611686018427387904 := by decide +kernel
  by_cases c : w = 1
  · by_cases c2 : x.2 < 1000
    · obtain ⟨d, S1, t1, a1, b1, P1, L1⟩ := e_take (u := 999) P (by omega) (by omega) (by rw [e62]; omega)
      have hn : x.2 * (1 + d) ≠ 0 := Int.mul_ne_zero hx.nz (by omega)
      have pl := fun S => e_law_plus hx.s (y := (1, 1 + d)) (sz_q (by omega)) S hn
      simp only at pl
      have lo := red_low (x.1 * (1 + d) + 1 * x.2) (x.2 * (1 + d)) hn
      generalize red (x.1 * (1 + d) + 1 * x.2) (x.2 * (1 + d)) = v at *
      by_cases c3 : v.1.natAbs ≤ 1000000
      · by_cases c4 : v.2 ≤ 1000000
        · have c3' : (v.1.natAbs : Int) ≤ 1000000 := by omega
          exact ⟨v, some (F v), S1, by simp [q_law_right_1_3, dEqI, c, p10_3, c2, q_law_right_1_3a_1, t1, mkF, pl, q_law_right_1_3a_2, p10_6, c3', c4], ⟨lo, c3, c4⟩, P1⟩
        · have c3' : (v.1.natAbs : Int) ≤ 1000000 := by omega
          exact ⟨y, some (F v), S1, by simp [q_law_right_1_3, dEqI, c, p10_3, c2, q_law_right_1_3a_1, t1, mkF, pl, q_law_right_1_3a_2, p10_6, c3', c4], hy, P1⟩
      · have c3' : ¬ (v.1.natAbs : Int) ≤ 1000000 := by omega
        exact ⟨y, some (F v), S1, by simp [q_law_right_1_3, dEqI, c, p10_3, c2, q_law_right_1_3a_1, t1, mkF, pl, q_law_right_1_3a_2, p10_6, c3'], hy, P1⟩
    · exact ⟨y, o10, S, by simp [q_law_right_1_3, dEqI, c, p10_3, c2], hy, P.mono (by omega)⟩
  · exact ⟨y, o10, S, by simp [q_law_right_1_3, dEqI, c], hy, P.mono (by omega)⟩
theorem s_14 {S : Sto} {n : Nat} {k w : Int} (P : PotAt S n k) (hk : k < 890) {x y : Int × Int} (hx : Fr x) (hy : Fr y) (o1 o2 o6 o7 o8 o9 o10 : Option D) :
    ∃ x' y' S', q_law_right_1_4 [some (.loc n), o1, o2, some (.int w), some (F x), some (F y), o6, o7, o8, o9, o10] S = .nx [some (.loc n), o1, o2, some (.int w), some (F x'), some (F y'), o6, o7, o8, o9, o10] S' ∧ Fr x' ∧ Fr y' ∧ PotAt S' n (k + 3) := by
  by_cases c : w = 2
  · obtain ⟨a, b, S1, e1, fa, fb, d, P1, L1⟩ := e_neighbours P (by omega)
    have hl : lt a b := by unfold lt; omega
    obtain ⟨z, sz, z1, z2, e2⟩ := e_simplest fa fb hl S1 P1.2
    have ez := simp_near sz fa.low.pos fb.low.pos d
    have szz : Sz 1900 z := ⟨lt_of40 (by omega) (by decide), lt_of40 (by have := sz.low.pos; omega) (by decide)⟩
    have rp := fun S => rpF szz S
    have ns := fun S => ne_self (okF szz) S
    rw [ez] at e2 rp ns
    refine ⟨a, b, S1, ?_, fa, fb, P1⟩
    have e1' : f_law_neighbours [.loc n] S = .ok (.tup [F a, F b]) S1 := e1
    simp [q_law_right_1_4, dEqI, c, q_law_right_1_4a_1, e1', q_law_right_1_4a_2, e2, mkF, rp, ns]
  · exact ⟨x, y, S, by simp [q_law_right_1_4, dEqI, c], hx, hy, P.mono (by omega)⟩
theorem s_15 {S : Sto} {x y : Int × Int} (hx : Fr x) (hy : Fr y) (o0 o1 o2 o3 o6 o7 o8 o9 o10 : Option D) :
    ∃ l h, q_law_right_1_5 [o0, o1, o2, o3, some (F x), some (F y), o6, o7, o8, o9, o10] S = .nx [o0, o1, o2, o3, some (F x), some (F y), some (F l), some (F h), o8, o9, o10] S ∧ Fr l ∧ Fr h ∧ ¬ lt h l := by
  have b := fun S => e_law_is_below hy.s hx.s S
  by_cases c : y.1 * x.2 < x.1 * y.2
  · exact ⟨y, x, by simp [q_law_right_1_5, b, c, truD], hy, hx, by unfold lt; omega⟩
  · exact ⟨x, y, by simp [q_law_right_1_5, b, c, truD], hx, hy, by unfold lt; omega⟩
theorem s_16 {S : Sto} {n : Nat} {k : Int} (P : PotAt S n k) (hk : k < 890) {x y l h : Int × Int} (hx : Fr x) (hl : Fr l) (hh : Fr h) (o1 o2 o3 o5 o8 o9 o10 : Option D) :
    ∃ S', q_law_right_1_6 [some (.loc n), o1, o2, o3, some (F x), o5, some (F l), some (F h), o8, o9, o10] S = .nx [some (.loc n), o1, o2, o3, some (F x), o5, some (F l), some (F h), o8, o9, o10] S' ∧ PotAt S' n (k + 2) := by
  have f1 := fun S => e_is_fraction hl.low hl.a hl.b S
  have f2 := fun S => e_is_fraction hh.low hh.a hh.b S
  obtain ⟨S1, e, P1, _⟩ := e_near_right P (by omega) hx
  exact ⟨S1, by simp [q_law_right_1_6, f1, f2, dNotB, e, truD], P1⟩
theorem s_17 {S : Sto} {l h : Int × Int} (hl : Fr l) (hh : Fr h) (hn : ¬ lt h l) (o0 o1 o2 o3 o4 o5 o8 o9 o10 : Option D) :
    q_law_right_1_7 [o0, o1, o2, o3, o4, o5, some (F l), some (F h), o8, o9, o10] S = .nx [o0, o1, o2, o3, o4, o5, some (F l), some (F h), o8, o9, o10] S := by
  have k1 := hl.look
  have k2 := hh.look
  have l1 := hl.less hh
  have l2 := hh.less hl
  rw [decide_eq_false hn] at l2
  have e1 : ∀ S, f_does_come_ahead [F l, F h] S = .ok (.bl (decide (lt l h))) S := fun S => by simp [f_does_come_ahead, mkFn, m_does_come_ahead, DL.start, k1, k2, l1]
  have e2 : ∀ S, f_does_come_ahead [F h, F l] S = .ok (.bl false) S := fun S => by simp [f_does_come_ahead, mkFn, m_does_come_ahead, DL.start, k1, k2, l2]
  have q : decide (lt l h) = !decide (l = h) := by
    by_cases c : l = h
    · rw [decide_eq_true c, decide_eq_false]
      · rfl
      · rw [c]; unfold lt; omega
    · rw [decide_eq_false c, decide_eq_true]
      · rfl
      · unfold lt at *
        have : l.1 * h.2 ≠ h.1 * l.2 := fun e => c (low_uniq hl.low hh.low e)
        omega
  have ne := fun S => dNeF l h S
  have ib := fun S => e_law_is_bool (decide (lt l h)) (!decide (l = h)) S
  rw [q] at ib e1
  simp only [beq_self_eq_true] at ib
  simp [q_law_right_1_7, e1, ne, ib, truD, e2, dNotB]
theorem s_18 {S : Sto} {l h : Int × Int} (hl : Fr l) (hh : Fr h) (o0 o1 o2 o3 o4 o5 o8 o9 o10 : Option D) :
    ∃ v, Low v ∧ Sz 1900 v ∧ (∀ S, f_law_plus [F l, F h] S = .ok (F v) S) ∧ q_law_right_1_8 [o0, o1, o2, o3, o4, o5, some (F l), some (F h), o8, o9, o10] S = .nx [o0, o1, o2, o3, o4, o5, some (F l), some (F h), some (F v), o9, o10] S := by
  have k1 := hl.look
  have k2 := hh.look
  have hn : l.2 * h.2 ≠ 0 := Int.mul_ne_zero hl.nz hh.nz
  have pl := fun S => e_plus hl.s hh.s S hn
  have pl2 := fun S => e_law_plus hl.s hh.s S hn
  have le := red_le (l.1 * h.2 + h.1 * l.2) (l.2 * h.2) hn
  have a1 := hl.a; have a2 := hl.b; have a3 := hh.a; have a4 := hh.b; have a5 := hl.low.pos; have a6 := hh.low.pos
  have m1 : (l.1 * h.2).natAbs ≤ 1000000 * 1000000 := by rw [Int.natAbs_mul]; exact Nat.mul_le_mul (by omega) (by omega)
  have m2 : (h.1 * l.2).natAbs ≤ 1000000 * 1000000 := by rw [Int.natAbs_mul]; exact Nat.mul_le_mul (by omega) (by omega)
  have m3 : (l.2 * h.2).natAbs ≤ 1000000 * 1000000 := by rw [Int.natAbs_mul]; exact Nat.mul_le_mul (by omega) (by omega)
  refine ⟨_, red_low _ _ hn, ⟨?_, ?_⟩, pl2, ?_⟩
  · exact Nat.lt_of_lt_of_le (show _ < 2 ^ 60 by omega) (Nat.pow_le_pow_right (by decide) (by decide))
  · exact Nat.lt_of_lt_of_le (show _ < 2 ^ 60 by omega) (Nat.pow_le_pow_right (by decide) (by decide))
  · simp [q_law_right_1_8, f_added, mkFn, m_added, DL.start, k1, k2, pl]
theorem s_19 {S : Sto} {l h v : Int × Int} (lv : Low v) (sv : Sz 1900 v) (pl : ∀ S, f_law_plus [F l, F h] S = .ok (F v) S) (o0 o1 o2 o3 o4 o5 o9 o10 : Option D) :
    q_law_right_1_9 [o0, o1, o2, o3, o4, o5, some (F l), some (F h), some (F v), o9, o10] S = .nx [o0, o1, o2, o3, o4, o5, some (F l), some (F h), some (F v), o9, o10] S := by
  have rp := fun S => rpF sv S
  have ns := fun S => ne_self (okF sv) S
  have lw := fun S => e_is_lowest lv S
  simp [q_law_right_1_9, pl, rp, ns, lw, dNotB]
theorem s_110 {S : Sto} {l h : Int × Int} (hF : Flat S) (hl : Fr l) (hh : Fr h) (hn : ¬ lt h l) (o0 o1 o2 o3 o4 o5 o8 o9 o10 : Option D) :
    q_law_right_1_10 [o0, o1, o2, o3, o4, o5, some (F l), some (F h), o8, o9, o10] S = .nx [o0, o1, o2, o3, o4, o5, some (F l), some (F h), o8, o9, o10] S := by
  have ne := fun S => dNeF l h S
  by_cases c : l = h
  · rw [decide_eq_true c] at ne
    simp [q_law_right_1_10, ne]
  · have q : lt l h := by
      unfold lt at *
      have : l.1 * h.2 ≠ h.1 * l.2 := fun e => c (low_uniq hl.low hh.low e)
      omega
    rw [decide_eq_false c] at ne
    obtain ⟨z, sz, z1, z2, e⟩ := e_simplest hl hh q S hF
    have ss := fun S => e_is_simplest sz hl hh z1 z2 S
    simp [q_law_right_1_10, ne, e, ss, truD]
theorem s_1_last {S : Sto} {l h : Int × Int} (hl : Fr l) (hh : Fr h) (hn : ¬ lt h l) (o0 o1 o2 o3 o4 o5 o8 o9 o10 : Option D) :
    ∃ p9, (sSeq q_law_right_1_11 (sSeq q_law_right_1_12 q_law_right_1_13)) [o0, o1, o2, o3, o4, o5, some (F l), some (F h), o8, o9, o10] S = .nx [o0, o1, o2, o3, o4, o5, some (F l), some (F h), o8, p9, o10] S := by
  have k1 := hl.look
  have k2 := hh.look
  have l2 := hh.less hl
  rw [decide_eq_false hn] at l2
  have bad : ∀ S, f_simplest_between [F h, F l] S = .exc "BadFraction" (F l) S := fun S => by
    simp [f_simplest_between, mkFn, m_simplest_between, q_simplest_between_3, q_simplest_between_4, q_simplest_between_5a_1, q_simplest_between_5, q_simplest_between_6, DL.start, k1, k2, l2, truD]
  have bad2 : ∀ S, f_nearest_with [F l, .int (1000000 + 1)] S = .exc "BadInt" (.int (1000000 + 1)) S := fun S => by
    simp [f_nearest_with, mkFn, m_nearest_with, DL.start, k1, e_is_whole, truD, k_MOST]
  have h1 := heard_exc (sub := sub0) (e := eCall f_simplest_between (aCons (eVar 7) (aCons (eVar 6) (aNil)))) (ρ := [o0, o1, o2, o3, o4, o5, some (F l), some (F h), o8, o9, o10]) (S := S) (S' := S) (c := "BadFraction") (v := F l) (by simp [bad]) (by decide)
  have sl : Sz 1900 l := hl.bd.sz (by decide)
  have rp := fun S => rpF sl S
  have ns := fun S => ne_self (okF sl) S
  have i1 := fun S => isi_exo (sub := sub0) (c := "BadFraction") (c' := "BadFraction") (b := true) (by decide) (F l) S
  have v1 := value_exo (sub := sub0) (e := eVar 9) (ρ := [o0, o1, o2, o3, o4, o5, some (F l), some (F h), o8, some (.exo "BadFraction" (F l)), o10]) (S := S) (S' := S) (c := "BadFraction") (v := F l) (by simp) (by decide)
  have h2 := heard_exc (sub := sub0) (e := eCall f_nearest_with (aCons (eVar 6) (aCons (eBin dAdd (eBin dPow (eC (.int 10)) (eC (.int 6))) (eC (.int 1))) (aNil)))) (ρ := [o0, o1, o2, o3, o4, o5, some (F l), some (F h), o8, some (.exo "BadFraction" (F l)), o10]) (S := S) (S' := S) (c := "BadInt") (v := .int (1000000 + 1)) (by
    simp only [ap_call, ap_cons, ap_var, ap_bin, ap_C, ap_nil, List.getElem?_cons_succ, List.getElem?_cons_zero, bind_ok, p10_6, d_add]
    exact bad2 S) (by decide)
  have i2 := fun S => isi_exo (sub := sub0) (c := "BadInt") (c' := "BadInt") (b := true) (by decide) (.int (1000000 + 1)) S
  have ix1 : dIx (.tup [.exo "BadFraction" (F l), .non]) (.int 0) S = .ok (.exo "BadFraction" (F l)) S := ix_t0 _ _ S
  have ix2 : dIx (.tup [.exo "BadInt" (.int (1000000 + 1)), .non]) (.int 0) S = .ok (.exo "BadInt" (.int (1000000 + 1))) S := ix_t0 _ _ S
  refine ⟨some (.exo "BadFraction" (F l)), ?_⟩
  have e1 : q_law_right_1_11 [o0, o1, o2, o3, o4, o5, some (F l), some (F h), o8, o9, o10] S = .nx [o0, o1, o2, o3, o4, o5, some (F l), some (F h), o8, some (.exo "BadFraction" (F l)), o10] S := by
    unfold q_law_right_1_11
    rw [ap_sSet, ap_bin, h1]
    simp only [bind_ok, ap_C, ix1, st_ok]
    rfl
  have e2 : q_law_right_1_12 [o0, o1, o2, o3, o4, o5, some (F l), some (F h), o8, some (.exo "BadFraction" (F l)), o10] S = .nx [o0, o1, o2, o3, o4, o5, some (F l), some (F h), o8, some (.exo "BadFraction" (F l)), o10] S := by
    simp [q_law_right_1_12, i1, truD, v1, rp, ns]
  have e3 : q_law_right_1_13 [o0, o1, o2, o3, o4, o5, some (F l), some (F h), o8, some (.exo "BadFraction" (F l)), o10] S = .nx [o0, o1, o2, o3, o4, o5, some (F l), some (F h), o8, some (.exo "BadFraction" (F l)), o10] S := by
    unfold q_law_right_1_13
    simp only [ap_sIf, ap_tNot, ap_tTru, ap_call, ap_cons, ap_bin, h2, bind_ok, ap_C, ix2, ap_nil, i2, truD, st_ok, Bool.not_true, ap_sNil]
  rw [ap_sSeq, e1, then_nx, ap_sSeq, e2, then_nx, e3]
theorem e_lap {S : Sto} {n : Nat} {k : Int} (P : PotAt S n k) (hk : k < 800) (o1 o2 o3 o4 o5 o6 o7 o8 o9 o10 : Option D) :
    ∃ p2 p3 p4 p5 p6 p7 p8 p9 p10 S', q_law_right_1B [some (.loc n), o1, o2, o3, o4, o5, o6, o7, o8, o9, o10] S = .nx [some (.loc n), o1, p2, p3, p4, p5, p6, p7, p8, p9, p10] S' ∧ PotAt S' n (k + 12) := by
  obtain ⟨m, w, S1, e1, m1, m2, P1⟩ := s_11 P (by omega) o1 o2 o3 o4 o5 o6 o7 o8 o9 o10
  obtain ⟨x, y, S2, e2, hx, hy, P2⟩ := s_12 P1 (by omega) m1 m2 o1 (some (.int w)) o4 o5 o6 o7 o8 o9 o10
  obtain ⟨y, p10, S3, e3, hy, P3⟩ := s_13 (w := w) P2 (by omega) hx hy o1 (some (.int m)) o6 o7 o8 o9 o10
  obtain ⟨x, y, S4, e4, hx, hy, P4⟩ := s_14 (w := w) P3 (by omega) hx hy o1 (some (.int m)) o6 o7 o8 o9 p10
  obtain ⟨l, h, e5, hl, hh, hn⟩ := s_15 (S := S4) hx hy (some (.loc n)) o1 (some (.int m)) (some (.int w)) o6 o7 o8 o9 p10
  obtain ⟨S6, e6, P6⟩ := s_16 (y := y) P4 (by omega) hx hl hh o1 (some (.int m)) (some (.int w)) (some (F y)) o8 o9 p10
  have e7 := s_17 (S := S6) hl hh hn (some (.loc n)) o1 (some (.int m)) (some (.int w)) (some (F x)) (some (F y)) o8 o9 p10
  obtain ⟨v, lv, sv, pv, e8⟩ := s_18 (S := S6) hl hh (some (.loc n)) o1 (some (.int m)) (some (.int w)) (some (F x)) (some (F y)) o8 o9 p10
  have e9 := s_19 (S := S6) (l := l) (h := h) lv sv pv (some (.loc n)) o1 (some (.int m)) (some (.int w)) (some (F x)) (some (F y)) o9 p10
  have e10 := s_110 P6.2 hl hh hn (some (.loc n)) o1 (some (.int m)) (some (.int w)) (some (F x)) (some (F y)) (some (F v)) o9 p10
  obtain ⟨p9, e11⟩ := s_1_last (S := S6) hl hh hn (some (.loc n)) o1 (some (.int m)) (some (.int w)) (some (F x)) (some (F y)) (some (F v)) o9 p10
  refine ⟨some (.int m), some (.int w), some (F x), some (F y), some (F l), some (F h), some (F v), p9, p10, S6, ?_, P6.mono (by omega)⟩
  unfold q_law_right_1B
  rw [ap_sSeq, e1, then_nx, ap_sSeq, e2, then_nx, ap_sSeq, e3, then_nx, ap_sSeq, e4, then_nx, ap_sSeq, e5, then_nx, ap_sSeq, e6, then_nx, ap_sSeq, e7, then_nx, ap_sSeq, e8, then_nx, ap_sSeq, e9, then_nx, ap_sSeq, e10, then_nx, e11]
theorem e_laps {n : Nat} : ∀ (ds : List D) (S : Sto) (k : Int), PotAt S n k → k + 12 * ds.length ≤ 700 → ∀ o1 o2 o3 o4 o5 o6 o7 o8 o9 o10 : Option D,
    ∃ p1 p2 p3 p4 p5 p6 p7 p8 p9 p10 S', forL (gSet 1) q_law_right_1B ds [some (.loc n), o1, o2, o3, o4, o5, o6, o7, o8, o9, o10] S = .nx [some (.loc n), p1, p2, p3, p4, p5, p6, p7, p8, p9, p10] S' ∧ Flat S'
  | [], S, k, P, hk, o1, o2, o3, o4, o5, o6, o7, o8, o9, o10 => ⟨o1, o2, o3, o4, o5, o6, o7, o8, o9, o10, S, rfl, P.2⟩
  | d :: ds, S, k, P, hk, o1, o2, o3, o4, o5, o6, o7, o8, o9, o10 => by
    simp only [List.length_cons] at hk
    obtain ⟨p2, p3, p4, p5, p6, p7, p8, p9, p10, S1, e1, P1⟩ := e_lap P (by omega) (some d) o2 o3 o4 o5 o6 o7 o8 o9 o10
    obtain ⟨q1, q2, q3, q4, q5, q6, q7, q8, q9, q10, S2, e2, F2⟩ := e_laps ds S1 (k + 12) P1 (by omega) (some d) p2 p3 p4 p5 p6 p7 p8 p9 p10
    refine ⟨q1, q2, q3, q4, q5, q6, q7, q8, q9, q10, S2, ?_, F2⟩
    show (match q_law_right_1B [some (.loc n), some d, o2, o3, o4, o5, o6, o7, o8, o9, o10] S with | .nx ρ S => forL (gSet 1) q_law_right_1B ds ρ S | .ct ρ S => forL (gSet 1) q_law_right_1B ds ρ S | .bk ρ S => .nx ρ S | .rt d S => .rt d S | .exc c v ρ S => .exc c v ρ S | .bad => .bad) = _
    rw [e1]; exact e2
theorem e_right (S : Sto) (n : Nat) (P : PotAt S n 0) : ∃ S', f_law_right [.loc n] S = .ok (.bl true) S' ∧ Flat S' := by
  obtain ⟨p1, p2, p3, p4, p5, p6, p7, p8, p9, p10, S1, e1, F1⟩ := e_laps (rngL 0 6) S 0 P (by simp) none none none none none none none none none none
  have rg : fRange1 (aCons (eC (.int 6)) aNil) [some (.loc n), none, none, none, none, none, none, none, none, none, none] S = .ok (rngL 0 6) S := rng_ok (j := 6) (by simp) (by decide) (by decide)
  refine ⟨S1, ?_, F1⟩
  unfold f_law_right mkFn
  rw [if_pos (show [D.loc n].length = 1 from rfl)]
  have st : DL.start 11 [D.loc n] = [some (.loc n), none, none, none, none, none, none, none, none, none, none] := rfl
  unfold m_law_right q_law_right_1
  rw [st, ap_sSeq, ap_sFor, rg, st_ok, e1, then_nx]
  simp
theorem law_true : ∀ ns : List Int, ns.length ≤ 63 → (∀ z ∈ ns, Builtin.Int.intBits z ≤ 1048576) → ∃ S, f_law [.lst (ns.map D.int)] [] = .ok (.bl true) S := law_true_of e_right
end K45


set_option Elab.async false
set_option linter.all false
set_option maxRecDepth 100000
/-! the end of elbowsexactly_k45_whole_simplest_fractio, printed by gen.py -/
namespace K45
open PySem PySem.Spec L2 DL
open PyProof.Rows hiding St b2i
theorem law_all {P : Program} {w : World} {K : PySem.W.Frag} {mg : Str → Option Value} {base : Heap} {T : List (Addr × Str)} (G : Gl0 P K mg) (D_is_whole : DefIn K mg "is_whole" s_is_whole) (D_common : DefIn K mg "common" s_common) (D_rate : DefIn K mg "rate" s_rate) (D_is_lowest : DefIn K mg "is_lowest" s_is_lowest) (D_is_fraction : DefIn K mg "is_fraction" s_is_fraction) (D_look_at_fraction : DefIn K mg "look_at_fraction" s_look_at_fraction) (D_plus : DefIn K mg "plus" s_plus) (D_less : DefIn K mg "less" s_less) (D_over : DefIn K mg "over" s_over) (D_turned_sign : DefIn K mg "turned_sign" s_turned_sign) (D_sign_of : DefIn K mg "sign_of" s_sign_of) (D_is_less : DefIn K mg "is_less" s_is_less) (D_added : DefIn K mg "added" s_added) (D_does_come_ahead : DefIn K mg "does_come_ahead" s_does_come_ahead) (D_told_between : DefIn K mg "told_between" s_told_between) (D_simplest_between : DefIn K mg "simplest_between" s_simplest_between) (D_nearest_with : DefIn K mg "nearest_with" s_nearest_with) (D_law_pot : DefIn K mg "_law_pot" s_law_pot) (D_law_take : DefIn K mg "_law_take" s_law_take) (D_law_of : DefIn K mg "_law_of" s_law_of) (D_law_cells : DefIn K mg "_law_cells" s_law_cells) (D_law_is_int : DefIn K mg "_law_is_int" s_law_is_int) (D_law_is_bool : DefIn K mg "_law_is_bool" s_law_is_bool) (D_law_gcd : DefIn K mg "_law_gcd" s_law_gcd) (D_law_rate : DefIn K mg "_law_rate" s_law_rate) (D_law_plus : DefIn K mg "_law_plus" s_law_plus) (D_law_is_below : DefIn K mg "_law_is_below" s_law_is_below) (D_law_is_fraction : DefIn K mg "_law_is_fraction" s_law_is_fraction) (D_law_parents : DefIn K mg "_law_parents" s_law_parents) (D_law_is_inside : DefIn K mg "_law_is_inside" s_law_is_inside) (D_law_is_simplest : DefIn K mg "_law_is_simplest" s_law_is_simplest) (D_law_great_fraction : DefIn K mg "_law_great_fraction" s_law_great_fraction) (D_law_neighbours : DefIn K mg "_law_neighbours" s_law_neighbours) (D_law_is_near_right : DefIn K mg "_law_is_near_right" s_law_is_near_right) (D_law_right : DefInL K mg base T "_law_right" s_law_right) (D_law : DefIn K mg "law" s_law) : Callee P w K mg base T true 10 "law" ["script"] f_law := by
  have c_is_whole := d_is_whole (P := P) (w := w) (base := base) (T := T) G D_is_whole
  have c_common := d_common (P := P) (w := w) (base := base) (T := T) G D_common
  have c_rate := d_rate (P := P) (w := w) (base := base) (T := T) G D_rate c_common
  have c_is_lowest := d_is_lowest (P := P) (w := w) (base := base) (T := T) G D_is_lowest c_is_whole c_common
  have c_is_fraction := d_is_fraction (P := P) (w := w) (base := base) (T := T) G D_is_fraction c_is_lowest
  have c_look_at_fraction := d_look_at_fraction (P := P) (w := w) (base := base) (T := T) G D_look_at_fraction c_is_fraction
  have c_plus := d_plus (P := P) (w := w) (base := base) (T := T) G D_plus c_rate
  have c_less := d_less (P := P) (w := w) (base := base) (T := T) G D_less c_rate
  have c_over := d_over (P := P) (w := w) (base := base) (T := T) G D_over c_rate
  have c_turned_sign := d_turned_sign (P := P) (w := w) (base := base) (T := T) G D_turned_sign
  have c_sign_of := d_sign_of (P := P) (w := w) (base := base) (T := T) G D_sign_of
  have c_is_less := d_is_less (P := P) (w := w) (base := base) (T := T) G D_is_less
  have c_added := d_added (P := P) (w := w) (base := base) (T := T) G D_added c_look_at_fraction c_plus
  have c_does_come_ahead := d_does_come_ahead (P := P) (w := w) (base := base) (T := T) G D_does_come_ahead c_look_at_fraction c_is_less
  have c_told_between := d_told_between (P := P) (w := w) (base := base) (T := T) G D_told_between c_less c_is_less c_plus c_over
  have c_simplest_between := d_simplest_between (P := P) (w := w) (base := base) (T := T) G D_simplest_between c_look_at_fraction c_is_less c_sign_of c_turned_sign c_told_between
  have c_nearest_with := d_nearest_with (P := P) (w := w) (base := base) (T := T) G D_nearest_with c_look_at_fraction c_is_whole c_rate
  have c_law_pot := d_law_pot (P := P) (w := w) (base := base) (T := T) G D_law_pot
  have c_law_take := d_law_take (P := P) (w := w) (base := base) (T := T) G D_law_take
  have c_law_of := d_law_of (P := P) (w := w) (base := base) (T := T) G D_law_of c_law_take
  have c_law_cells := d_law_cells (P := P) (w := w) (base := base) (T := T) G D_law_cells
  have c_law_is_int := d_law_is_int (P := P) (w := w) (base := base) (T := T) G D_law_is_int
  have c_law_is_bool := d_law_is_bool (P := P) (w := w) (base := base) (T := T) G D_law_is_bool
  have c_law_gcd := d_law_gcd (P := P) (w := w) (base := base) (T := T) G D_law_gcd
  have c_law_rate := d_law_rate (P := P) (w := w) (base := base) (T := T) G D_law_rate c_law_gcd
  have c_law_plus := d_law_plus (P := P) (w := w) (base := base) (T := T) G D_law_plus c_law_rate
  have c_law_is_below := d_law_is_below (P := P) (w := w) (base := base) (T := T) G D_law_is_below
  have c_law_is_fraction := d_law_is_fraction (P := P) (w := w) (base := base) (T := T) G D_law_is_fraction c_law_is_int c_law_gcd
  have c_law_parents := d_law_parents (P := P) (w := w) (base := base) (T := T) G D_law_parents
  have c_law_is_inside := d_law_is_inside (P := P) (w := w) (base := base) (T := T) G D_law_is_inside c_law_is_below
  have c_law_is_simplest := d_law_is_simplest (P := P) (w := w) (base := base) (T := T) G D_law_is_simplest c_law_is_fraction c_law_is_inside c_law_parents
  have c_law_great_fraction := d_law_great_fraction (P := P) (w := w) (base := base) (T := T) G D_law_great_fraction c_law_take c_law_rate
  have c_law_neighbours := d_law_neighbours (P := P) (w := w) (base := base) (T := T) G D_law_neighbours c_law_great_fraction c_law_parents c_law_of
  have c_law_is_near_right := d_law_is_near_right (P := P) (w := w) (base := base) (T := T) G D_law_is_near_right c_law_take c_law_of c_nearest_with c_law_is_fraction c_law_is_below c_law_plus
  have c_law_right := d_law_right (P := P) (w := w) (base := base) (T := T) G D_law_right c_law_take c_law_of c_law_great_fraction c_law_plus c_law_neighbours c_simplest_between c_law_is_below c_is_fraction c_law_is_near_right c_does_come_ahead c_law_is_bool c_added c_is_lowest c_law_is_simplest c_nearest_with
  have c_law := d_law (P := P) (w := w) (base := base) (T := T) G D_law c_law_cells c_law_pot c_law_right
  exact c_law
end K45
open PySem PySem.W PyProof.Rows in
set_option maxRecDepth 100000 in
set_option maxHeartbeats 0 in
theorem PySem.Challenge.cw_elbowsexactly_k45_whole_simplest_fractio_holds : PySem.Challenge.rw_elbowsexactly_k45_whole_simplest_fractio.Holds := by
  w_on; o_law; k_head; (case hw => w_witness2)
  k_fill
  refine DL.law_walk (l := PySem.Challenge.rw_elbowsexactly_k45_whole_simplest_fractio) (n := 63) (k := 10) (x := "script") (fn := K45.f_law) rfl (by decide) rfl ⟨rfl, by decide, by decide⟩ (fun w h Y => PySem.W.km_in_of Y) ?F K45.law_true
  case F =>
    intro w mg mb mean h Y KX G GT
    have D_is_whole : DL.DefOf KX mg "is_whole" K45.s_is_whole := by
      refine' DL.defIn_of KX G ?a ?l ?c ?k
      (case a => k_is); (case l => k_is); (case c => k_is); (case k => k_is)
    have D_common : DL.DefOf KX mg "common" K45.s_common := by
      refine' DL.defIn_of KX G ?a ?l ?c ?k
      (case a => k_is); (case l => k_is); (case c => k_is); (case k => k_is)
    have D_rate : DL.DefOf KX mg "rate" K45.s_rate := by
      refine' DL.defIn_of KX G ?a ?l ?c ?k
      (case a => k_is); (case l => k_is); (case c => k_is); (case k => k_is)
    have D_is_lowest : DL.DefOf KX mg "is_lowest" K45.s_is_lowest := by
      refine' DL.defIn_of KX G ?a ?l ?c ?k
      (case a => k_is); (case l => k_is); (case c => k_is); (case k => k_is)
    have D_is_fraction : DL.DefOf KX mg "is_fraction" K45.s_is_fraction := by
      refine' DL.defIn_of KX G ?a ?l ?c ?k
      (case a => k_is); (case l => k_is); (case c => k_is); (case k => k_is)
    have D_look_at_fraction : DL.DefOf KX mg "look_at_fraction" K45.s_look_at_fraction := by
      refine' DL.defIn_of KX G ?a ?l ?c ?k
      (case a => k_is); (case l => k_is); (case c => k_is); (case k => k_is)
    have D_plus : DL.DefOf KX mg "plus" K45.s_plus := by
      refine' DL.defIn_of KX G ?a ?l ?c ?k
      (case a => k_is); (case l => k_is); (case c => k_is); (case k => k_is)
    have D_less : DL.DefOf KX mg "less" K45.s_less := by
      refine' DL.defIn_of KX G ?a ?l ?c ?k
      (case a => k_is); (case l => k_is); (case c => k_is); (case k => k_is)
    have D_over : DL.DefOf KX mg "over" K45.s_over := by
      refine' DL.defIn_of KX G ?a ?l ?c ?k
      (case a => k_is); (case l => k_is); (case c => k_is); (case k => k_is)
    have D_turned_sign : DL.DefOf KX mg "turned_sign" K45.s_turned_sign := by
      refine' DL.defIn_of KX G ?a ?l ?c ?k
      (case a => k_is); (case l => k_is); (case c => k_is); (case k => k_is)
    have D_sign_of : DL.DefOf KX mg "sign_of" K45.s_sign_of := by
      refine' DL.defIn_of KX G ?a ?l ?c ?k
      (case a => k_is); (case l => k_is); (case c => k_is); (case k => k_is)
    have D_is_less : DL.DefOf KX mg "is_less" K45.s_is_less := by
      refine' DL.defIn_of KX G ?a ?l ?c ?k
      (case a => k_is); (case l => k_is); (case c => k_is); (case k => k_is)
    have D_added : DL.DefOf KX mg "added" K45.s_added := by
      refine' DL.defIn_of KX G ?a ?l ?c ?k
      (case a => k_is); (case l => k_is); (case c => k_is); (case k => k_is)
    have D_does_come_ahead : DL.DefOf KX mg "does_come_ahead" K45.s_does_come_ahead := by
      refine' DL.defIn_of KX G ?a ?l ?c ?k
      (case a => k_is); (case l => k_is); (case c => k_is); (case k => k_is)
    have D_told_between : DL.DefOf KX mg "told_between" K45.s_told_between := by
      refine' DL.defIn_of KX G ?a ?l ?c ?k
      (case a => k_is); (case l => k_is); (case c => k_is); (case k => k_is)
    have D_simplest_between : DL.DefOf KX mg "simplest_between" K45.s_simplest_between := by
      refine' DL.defIn_of KX G ?a ?l ?c ?k
      (case a => k_is); (case l => k_is); (case c => k_is); (case k => k_is)
    have D_nearest_with : DL.DefOf KX mg "nearest_with" K45.s_nearest_with := by
      refine' DL.defIn_of KX G ?a ?l ?c ?k
      (case a => k_is); (case l => k_is); (case c => k_is); (case k => k_is)
    have D_law_pot : DL.DefOf KX mg "_law_pot" K45.s_law_pot := by
      refine' DL.defIn_of KX G ?a ?l ?c ?k
      (case a => k_is); (case l => k_is); (case c => k_is); (case k => k_is)
    have D_law_take : DL.DefOf KX mg "_law_take" K45.s_law_take := by
      refine' DL.defIn_of KX G ?a ?l ?c ?k
      (case a => k_is); (case l => k_is); (case c => k_is); (case k => k_is)
    have D_law_of : DL.DefOf KX mg "_law_of" K45.s_law_of := by
      refine' DL.defIn_of KX G ?a ?l ?c ?k
      (case a => k_is); (case l => k_is); (case c => k_is); (case k => k_is)
    have D_law_cells : DL.DefOf KX mg "_law_cells" K45.s_law_cells := by
      refine' DL.defIn_of KX G ?a ?l ?c ?k
      (case a => k_is); (case l => k_is); (case c => k_is); (case k => k_is)
    have D_law_is_int : DL.DefOf KX mg "_law_is_int" K45.s_law_is_int := by
      refine' DL.defIn_of KX G ?a ?l ?c ?k
      (case a => k_is); (case l => k_is); (case c => k_is); (case k => k_is)
    have D_law_is_bool : DL.DefOf KX mg "_law_is_bool" K45.s_law_is_bool := by
      refine' DL.defIn_of KX G ?a ?l ?c ?k
      (case a => k_is); (case l => k_is); (case c => k_is); (case k => k_is)
    have D_law_gcd : DL.DefOf KX mg "_law_gcd" K45.s_law_gcd := by
      refine' DL.defIn_of KX G ?a ?l ?c ?k
      (case a => k_is); (case l => k_is); (case c => k_is); (case k => k_is)
    have D_law_rate : DL.DefOf KX mg "_law_rate" K45.s_law_rate := by
      refine' DL.defIn_of KX G ?a ?l ?c ?k
      (case a => k_is); (case l => k_is); (case c => k_is); (case k => k_is)
    have D_law_plus : DL.DefOf KX mg "_law_plus" K45.s_law_plus := by
      refine' DL.defIn_of KX G ?a ?l ?c ?k
      (case a => k_is); (case l => k_is); (case c => k_is); (case k => k_is)
    have D_law_is_below : DL.DefOf KX mg "_law_is_below" K45.s_law_is_below := by
      refine' DL.defIn_of KX G ?a ?l ?c ?k
      (case a => k_is); (case l => k_is); (case c => k_is); (case k => k_is)
    have D_law_is_fraction : DL.DefOf KX mg "_law_is_fraction" K45.s_law_is_fraction := by
      refine' DL.defIn_of KX G ?a ?l ?c ?k
      (case a => k_is); (case l => k_is); (case c => k_is); (case k => k_is)
    have D_law_parents : DL.DefOf KX mg "_law_parents" K45.s_law_parents := by
      refine' DL.defIn_of KX G ?a ?l ?c ?k
      (case a => k_is); (case l => k_is); (case c => k_is); (case k => k_is)
    have D_law_is_inside : DL.DefOf KX mg "_law_is_inside" K45.s_law_is_inside := by
      refine' DL.defIn_of KX G ?a ?l ?c ?k
      (case a => k_is); (case l => k_is); (case c => k_is); (case k => k_is)
    have D_law_is_simplest : DL.DefOf KX mg "_law_is_simplest" K45.s_law_is_simplest := by
      refine' DL.defIn_of KX G ?a ?l ?c ?k
      (case a => k_is); (case l => k_is); (case c => k_is); (case k => k_is)
    have D_law_great_fraction : DL.DefOf KX mg "_law_great_fraction" K45.s_law_great_fraction := by
      refine' DL.defIn_of KX G ?a ?l ?c ?k
      (case a => k_is); (case l => k_is); (case c => k_is); (case k => k_is)
    have D_law_neighbours : DL.DefOf KX mg "_law_neighbours" K45.s_law_neighbours := by
      refine' DL.defIn_of KX G ?a ?l ?c ?k
      (case a => k_is); (case l => k_is); (case c => k_is); (case k => k_is)
    have D_law_is_near_right : DL.DefOf KX mg "_law_is_near_right" K45.s_law_is_near_right := by
      refine' DL.defIn_of KX G ?a ?l ?c ?k
      (case a => k_is); (case l => k_is); (case c => k_is); (case k => k_is)
    have L_law_right : DL.LamOf KX mg "_law_right" K45.s_law_right := by
      refine' DL.lamE_mk KX G ?a ?l ?c ?k ?t ?d ?n ?b
      (case b => exact PySem.W.km_tabs_of Y _ (List.Mem.head _)); (case a => k_is); (case l => k_is); (case c => k_is); (case k => k_is); (case t => first | k_is | kernel_rfl); (case d => first | k_is | kernel_rfl); (case n => first | k_is | kernel_rfl)
    have D_law : DL.DefOf KX mg "law" K45.s_law := by
      refine' DL.defIn_of KX G ?a ?l ?c ?k
      (case a => k_is); (case l => k_is); (case c => k_is); (case k => k_is)
    have c_MOST : DL.CstOf KX mg "MOST" K45.k_MOST := by
      refine' DL.cst_of (n := 30) KX G ?a ?e
      (case a => k_is); (case e => kernel_rfl)
    have c_ONE : DL.CstOf KX mg "ONE" K45.k_ONE := by
      refine' DL.cst_of (n := 30) KX G ?a ?e
      (case a => k_is); (case e => kernel_rfl)
    have c_ZERO : DL.CstOf KX mg "ZERO" K45.k_ZERO := by
      refine' DL.cst_of (n := 30) KX G ?a ?e
      (case a => k_is); (case e => kernel_rfl)
    have A_BadFraction : DL.ArmOf KX PySem.Challenge.rw_elbowsexactly_k45_whole_simplest_fractio.prog "BadFraction" := by
      refine' ⟨_, _, _, DL.arm_mk KX ?aC ?aD ?xL ?hb ?sa ?ga ?gg ?noN ?iC ?tC ?kC ?exC ?vC ?tyC ?hdC ?clD ?mD ?sm ?ca ?cn ?ctk ?cm ?th ?zlf ?zcd ?zlc ?zhv ?zhf ?zle ?ztop⟩
      (case aC => first | k_is | kernel_rfl); (case aD => first | k_is | kernel_rfl); (case xL => first | k_is | kernel_rfl); (case hb => decide +kernel); (case sa => first | k_is | kernel_rfl); (case ga => first | k_is | kernel_rfl); (case gg => first | k_is | kernel_rfl); (case noN => first | k_is | kernel_rfl); (case iC => first | k_is | kernel_rfl); (case tC => first | k_is | kernel_rfl); (case kC => first | k_is | kernel_rfl); (case exC => first | k_is | kernel_rfl); (case vC => first | k_is | kernel_rfl); (case tyC => first | k_is | kernel_rfl); (case hdC => first | k_is | kernel_rfl); (case clD => first | k_is | kernel_rfl); (case mD => first | k_is | kernel_rfl); (case sm => first | k_is | kernel_rfl); (case ca => first | k_is | kernel_rfl); (case cn => first | k_is | kernel_rfl); (case ctk => first | k_is | kernel_rfl); (case cm => first | k_is | kernel_rfl); (case th => first | k_is | kernel_rfl); (case zlf => first | k_is | kernel_rfl); (case zcd => first | k_is | kernel_rfl); (case zlc => first | k_is | kernel_rfl); (case zhv => rfl); (case zhf => first | rfl | decide +kernel); (case zle => first | k_is | kernel_rfl); (case ztop => first | rfl | decide +kernel)
    have A_BadInt : DL.ArmOf KX PySem.Challenge.rw_elbowsexactly_k45_whole_simplest_fractio.prog "BadInt" := by
      refine' ⟨_, _, _, DL.arm_mk KX ?aC ?aD ?xL ?hb ?sa ?ga ?gg ?noN ?iC ?tC ?kC ?exC ?vC ?tyC ?hdC ?clD ?mD ?sm ?ca ?cn ?ctk ?cm ?th ?zlf ?zcd ?zlc ?zhv ?zhf ?zle ?ztop⟩
      (case aC => first | k_is | kernel_rfl); (case aD => first | k_is | kernel_rfl); (case xL => first | k_is | kernel_rfl); (case hb => decide +kernel); (case sa => first | k_is | kernel_rfl); (case ga => first | k_is | kernel_rfl); (case gg => first | k_is | kernel_rfl); (case noN => first | k_is | kernel_rfl); (case iC => first | k_is | kernel_rfl); (case tC => first | k_is | kernel_rfl); (case kC => first | k_is | kernel_rfl); (case exC => first | k_is | kernel_rfl); (case vC => first | k_is | kernel_rfl); (case tyC => first | k_is | kernel_rfl); (case hdC => first | k_is | kernel_rfl); (case clD => first | k_is | kernel_rfl); (case mD => first | k_is | kernel_rfl); (case sm => first | k_is | kernel_rfl); (case ca => first | k_is | kernel_rfl); (case cn => first | k_is | kernel_rfl); (case ctk => first | k_is | kernel_rfl); (case cm => first | k_is | kernel_rfl); (case th => first | k_is | kernel_rfl); (case zlf => first | k_is | kernel_rfl); (case zcd => first | k_is | kernel_rfl); (case zlc => first | k_is | kernel_rfl); (case zhv => rfl); (case zhf => first | rfl | decide +kernel); (case zle => first | k_is | kernel_rfl); (case ztop => first | rfl | decide +kernel)
    have X_BadFraction : DL.ExcOf KX mg PySem.Challenge.rw_elbowsexactly_k45_whole_simplest_fractio.prog "BadFraction" := by
      refine' DL.exc_mk KX G A_BadFraction ?z
      (case z => k_is)
    have X_BadInt : DL.ExcOf KX mg PySem.Challenge.rw_elbowsexactly_k45_whole_simplest_fractio.prog "BadInt" := by
      refine' DL.exc_mk KX G A_BadInt ?z
      (case z => k_is)
    have HD : DL.HeardOf KX mg := by
      refine' DL.heard_mk KX G ?a ?aD ?l ?c ?k ?b ?hw
      (case a => k_is); (case aD => k_is); (case l => k_is); (case c => k_is); (case k => k_is); (case b => exact fun us hl => match us, hl with | [_], _ => rfl); (case hw => exact fun _ _ _ => rfl)
    have b_abs : mg "abs" = none := by
      refine' PySem.W.mg_none_of KX G ?a
      (case a => k_is)
    have b_all : mg "all" = none := by
      refine' PySem.W.mg_none_of KX G ?a
      (case a => k_is)
    have b_any : mg "any" = none := by
      refine' PySem.W.mg_none_of KX G ?a
      (case a => k_is)
    have b_bool : mg "bool" = none := by
      refine' PySem.W.mg_none_of KX G ?a
      (case a => k_is)
    have b_int : mg "int" = none := by
      refine' PySem.W.mg_none_of KX G ?a
      (case a => k_is)
    have b_isinstance : mg "isinstance" = none := by
      refine' PySem.W.mg_none_of KX G ?a
      (case a => k_is)
    have b_len : mg "len" = none := by
      refine' PySem.W.mg_none_of KX G ?a
      (case a => k_is)
    have b_list : mg "list" = none := by
      refine' PySem.W.mg_none_of KX G ?a
      (case a => k_is)
    have b_max : mg "max" = none := by
      refine' PySem.W.mg_none_of KX G ?a
      (case a => k_is)
    have b_min : mg "min" = none := by
      refine' PySem.W.mg_none_of KX G ?a
      (case a => k_is)
    have b_range : mg "range" = none := by
      refine' PySem.W.mg_none_of KX G ?a
      (case a => k_is)
    have b_repr : mg "repr" = none := by
      refine' PySem.W.mg_none_of KX G ?a
      (case a => k_is)
    have b_sum : mg "sum" = none := by
      refine' PySem.W.mg_none_of KX G ?a
      (case a => k_is)
    have b_tuple : mg "tuple" = none := by
      refine' PySem.W.mg_none_of KX G ?a
      (case a => k_is)
    have v_BadFraction : ∃ C, mg "BadFraction" = some (.ref C) := by
      refine' DL.cls_mk KX G ?a
      (case a => k_is)
    have v_BadInt : ∃ C, mg "BadInt" = some (.ref C) := by
      refine' DL.cls_mk KX G ?a
      (case a => k_is)
    have SUB : DL.SubOf KX mg PySem.Challenge.rw_elbowsexactly_k45_whole_simplest_fractio.prog K45.sub0 := by
      refine ⟨fun c c' b e => ?_⟩
      unfold K45.sub0 at e
      split at e
      · (rename_i hh; obtain ⟨rfl, rfl⟩ := hh; cases e; refine' DL.sub_mk KX G A_BadFraction ?a1 ?a ?k ?e; (case a1 => k_is); (case a => k_is); (case k => first | k_is | kernel_rfl); (case e => first | k_is | kernel_rfl))
      split at e
      · (rename_i hh; obtain ⟨rfl, rfl⟩ := hh; cases e; refine' DL.sub_mk KX G A_BadFraction ?a1 ?a ?k ?e; (case a1 => k_is); (case a => k_is); (case k => first | k_is | kernel_rfl); (case e => first | k_is | kernel_rfl))
      split at e
      · (rename_i hh; obtain ⟨rfl, rfl⟩ := hh; cases e; refine' DL.sub_mk KX G A_BadFraction ?a1 ?a ?k ?e; (case a1 => k_is); (case a => k_is); (case k => first | k_is | kernel_rfl); (case e => first | k_is | kernel_rfl))
      split at e
      · (rename_i hh; obtain ⟨rfl, rfl⟩ := hh; cases e; refine' DL.sub_mk KX G A_BadInt ?a1 ?a ?k ?e; (case a1 => k_is); (case a => k_is); (case k => first | k_is | kernel_rfl); (case e => first | k_is | kernel_rfl))
      split at e
      · (rename_i hh; obtain ⟨rfl, rfl⟩ := hh; cases e; refine' DL.sub_mk KX G A_BadInt ?a1 ?a ?k ?e; (case a1 => k_is); (case a => k_is); (case k => first | k_is | kernel_rfl); (case e => first | k_is | kernel_rfl))
      split at e
      · (rename_i hh; obtain ⟨rfl, rfl⟩ := hh; cases e; refine' DL.sub_mk KX G A_BadInt ?a1 ?a ?k ?e; (case a1 => k_is); (case a => k_is); (case k => first | k_is | kernel_rfl); (case e => first | k_is | kernel_rfl))
      · cases e
    have GL := (⟨b_abs, b_all, b_any, b_bool, b_int, b_isinstance, b_len, b_list, b_max, b_min, b_range, b_repr, b_sum, b_tuple, c_MOST, c_ONE, c_ZERO, X_BadFraction, X_BadInt, v_BadFraction, v_BadInt, SUB, HD⟩ : K45.Gl0 PySem.Challenge.rw_elbowsexactly_k45_whole_simplest_fractio.prog _ mg)
    obtain ⟨cc, qq, L, h1, h2, h3⟩ := L_law_right.ex
    exact ⟨_, [(cc, qq)], [(qq, PySem.Str.ofString "_law_right" ++ PySem.Str.ofString ".<locals>." ++ PySem.Str.ofString "<lambda>")], (by simp), (by simpa using h3), (by simpa using h2), (by simpa using PySem.W.codeHd_of_K KX h1), fun base KB GB TB => K45.law_all GL D_is_whole D_common D_rate D_is_lowest D_is_fraction D_look_at_fraction D_plus D_less D_over D_turned_sign D_sign_of D_is_less D_added D_does_come_ahead D_told_between D_simplest_between D_nearest_with D_law_pot D_law_take D_law_of D_law_cells D_law_is_int D_law_is_bool D_law_gcd D_law_rate D_law_plus D_law_is_below D_law_is_fraction D_law_parents D_law_is_inside D_law_is_simplest D_law_great_fraction D_law_neighbours D_law_is_near_right (L.def (TB (cc, qq) (by simp)) (by simp) (by simp)) D_law⟩
#print axioms PySem.Challenge.cw_elbowsexactly_k45_whole_simplest_fractio_holds


