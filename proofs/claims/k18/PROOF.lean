import PyProof.Rows.All
import HandS.ForMost
import HandS.IsInst
import HandS.ForExc
import HandS.Deep
import HandS.Wide
import HandS.Style
import HandS.CallSlots
import HandS.EndTab
import HandS.Conv
import HandS.RaiseMore
import HandS.TupAny
import KE.KExcSuper
import OpenK.KCell
import KE.KExcIs
import HandS.ExcValue
import PyProof.TwoTypesSub
import PyProof.Rows.IntBool
import PySem.Challenge.RW_elbowsexactly_k18_whole_turns_near_ways
import PyProof.ReprBulk
import Wide.FinOn
import HandS.ForSpec
set_option linter.all false
set_option autoImplicit false
/-! DLs: plain data, results and the combinators of the mirror (semantics alone). -/
namespace DL
open PySem

inductive D where
  | non
  | bl (b : Bool)
  | int (i : Int)
  | str (x : Str)
  | tup (xs : List D)
  | lst (xs : List D)
  | loc (n : Nat)
  | exo (c : Str) (v : D)
  | ty (n : String)
  | cls (c : Str)
  | fn (n : Nat)

/-- the mutable lists, by number -/
abbrev Sto := List (List D)
/-- the slots of a def -/
abbrev Env := List (Option D)

inductive R (α : Type) where
  | ok (a : α) (S : Sto)
  | exc (c : Str) (v : D) (S : Sto)
  | bad
def R.bind {α β : Type} (r : R α) (k : α → Sto → R β) : R β := match r with
  | .ok a S => k a S
  | .exc c v S => .exc c v S
  | .bad => .bad
@[simp] theorem bind_ok {α β : Type} (a : α) (S : Sto) (k : α → Sto → R β) : (R.ok a S).bind k = k a S := rfl
@[simp] theorem bind_exc {α β : Type} (c : Str) (v : D) (S : Sto) (k : α → Sto → R β) : (R.exc c v S).bind k = .exc c v S := rfl
@[simp] theorem bind_bad {α β : Type} (k : α → Sto → R β) : (R.bad : R α).bind k = .bad := rfl

abbrev EF := Env → Sto → R D
abbrev TF := Env → Sto → R Bool
abbrev AF := Env → Sto → R (List D)
abbrev FN := List D → Sto → R D

inductive RS where
  | nx (ρ : Env) (S : Sto)
  | rt (d : D) (S : Sto)
  | bk (ρ : Env) (S : Sto)
  | ct (ρ : Env) (S : Sto)
  | exc (c : Str) (v : D) (ρ : Env) (S : Sto)
  | bad
abbrev SF := Env → Sto → RS

/-! ### expressions -/
def eVar (i : Nat) : EF := fun ρ S => match ρ[i]? with
  | some (some d) => .ok d S
  | _ => .bad
def eC (d : D) : EF := fun _ S => .ok d S
def eBin (g : D → D → Sto → R D) (a b : EF) : EF := fun ρ S => (a ρ S).bind fun x S => (b ρ S).bind fun y S => g x y S
def eUn (g : D → Sto → R D) (a : EF) : EF := fun ρ S => (a ρ S).bind fun x S => g x S
def eAnd (a b : EF) : EF := fun ρ S => (a ρ S).bind fun x S => match x with
  | .bl true => b ρ S
  | .bl false => .ok (.bl false) S
  | _ => .bad
def eOr (a b : EF) : EF := fun ρ S => (a ρ S).bind fun x S => match x with
  | .bl true => .ok (.bl true) S
  | .bl false => b ρ S
  | _ => .bad
def eNot (a : EF) : EF := fun ρ S => (a ρ S).bind fun x S => match x with
  | .bl c => .ok (.bl (!c)) S
  | _ => .bad
def eIf (t : TF) (a b : EF) : EF := fun ρ S => (t ρ S).bind fun c S => match c with
  | true => a ρ S
  | false => b ρ S
def eChain (g h : D → D → Sto → R D) (a b c : EF) : EF := fun ρ S => (a ρ S).bind fun x S => (b ρ S).bind fun y S => (g x y S).bind fun k S => match k with
  | .bl true => (c ρ S).bind fun z S => h y z S
  | .bl false => .ok (.bl false) S
  | _ => .bad
/-! ### tests -/
def tOf (a : EF) : TF := fun ρ S => (a ρ S).bind fun x S => match x with
  | .bl c => .ok c S
  | _ => .bad
def tAnd (a b : TF) : TF := fun ρ S => (a ρ S).bind fun c S => match c with
  | true => b ρ S
  | false => .ok false S
def tOr (a b : TF) : TF := fun ρ S => (a ρ S).bind fun c S => match c with
  | true => .ok true S
  | false => b ρ S
def tNot (a : TF) : TF := fun ρ S => (a ρ S).bind fun c S => .ok (!c) S
def truD (S : Sto) : D → Option Bool
  | .non => some false
  | .bl b => some b
  | .int i => some (i != 0)
  | .str x => if x.length ≤ 16777216 then some (x.length != 0) else none
  | .tup xs => some (!xs.isEmpty)
  | .lst xs => some (!xs.isEmpty)
  | .loc n => (S[n]?).map fun xs => !xs.isEmpty
  | _ => none
def tTru (a : EF) : TF := fun ρ S => (a ρ S).bind fun x S => match truD S x with
  | some c => .ok c S
  | none => .bad
/-! ### arguments, displays, calls -/
def aNil : AF := fun _ S => .ok [] S
def aCons (a : EF) (r : AF) : AF := fun ρ S => (a ρ S).bind fun x S => (r ρ S).bind fun xs S => .ok (x :: xs) S
def eTup (a : AF) : EF := fun ρ S => (a ρ S).bind fun xs S => if xs.length ≤ 16777216 then .ok (.tup xs) S else .bad
def eLst (a : AF) : EF := fun ρ S => (a ρ S).bind fun xs S => if xs.length ≤ 16777216 then .ok (.lst xs) S else .bad
/-- a list that may be changed -/
def eNew (a : AF) : EF := fun ρ S => (a ρ S).bind fun xs S => if xs.length ≤ 16777216 then .ok (.loc S.length) (S ++ [xs]) else .bad
def eCall (f : FN) (a : AF) : EF := fun ρ S => (a ρ S).bind fun xs S => f xs S

/-! ### statements -/
def R.st {α : Type} (r : R α) (ρ : Env) (k : α → Sto → RS) : RS := match r with
  | .ok a S => k a S
  | .exc c v S => .exc c v ρ S
  | .bad => .bad
@[simp] theorem st_ok {α : Type} (a : α) (S : Sto) (ρ : Env) (k : α → Sto → RS) : (R.ok a S).st ρ k = k a S := rfl
@[simp] theorem st_exc {α : Type} (c : Str) (v : D) (S : Sto) (ρ : Env) (k : α → Sto → RS) : (R.exc c v S).st ρ k = .exc c v ρ S := rfl
@[simp] theorem st_bad {α : Type} (ρ : Env) (k : α → Sto → RS) : (R.bad : R α).st ρ k = .bad := rfl
def RS.then (r : RS) (k : Env → Sto → RS) : RS := match r with
  | .nx ρ S => k ρ S
  | .rt d S => .rt d S
  | .bk ρ S => .bk ρ S
  | .ct ρ S => .ct ρ S
  | .exc c v ρ S => .exc c v ρ S
  | .bad => .bad
@[simp] theorem then_nx (ρ : Env) (S : Sto) (k : Env → Sto → RS) : (RS.nx ρ S).then k = k ρ S := rfl
@[simp] theorem then_rt (d : D) (S : Sto) (k : Env → Sto → RS) : (RS.rt d S).then k = .rt d S := rfl
@[simp] theorem then_bk (ρ : Env) (S : Sto) (k : Env → Sto → RS) : (RS.bk ρ S).then k = .bk ρ S := rfl
@[simp] theorem then_ct (ρ : Env) (S : Sto) (k : Env → Sto → RS) : (RS.ct ρ S).then k = .ct ρ S := rfl
@[simp] theorem then_exc (c : Str) (v : D) (ρ : Env) (S : Sto) (k : Env → Sto → RS) : (RS.exc c v ρ S).then k = .exc c v ρ S := rfl
@[simp] theorem then_bad (k : Env → Sto → RS) : (RS.bad).then k = .bad := rfl
def sNil : SF := fun ρ S => .nx ρ S
def sSeq (a b : SF) : SF := fun ρ S => (a ρ S).then fun ρ S => b ρ S
def sBreak : SF := fun ρ S => .bk ρ S
def sCont : SF := fun ρ S => .ct ρ S
def sRet (a : EF) : SF := fun ρ S => (a ρ S).st ρ fun d S => .rt d S
def sRetN : SF := fun _ S => .rt .non S
def sExpr (a : EF) : SF := fun ρ S => (a ρ S).st ρ fun _ S => .nx ρ S
def sIf (t : TF) (a b : SF) : SF := fun ρ S => (t ρ S).st ρ fun c S => match c with
  | true => a ρ S
  | false => b ρ S
def sNever : SF := fun _ _ => .bad
/-- targets -/
abbrev TgF := D → Env → Option Env
def gSet (i : Nat) : TgF := fun d ρ => some (ρ.set i (some d))
abbrev TgsF := List D → Env → Option Env
def gsNil : TgsF := fun ds ρ => match ds with
  | [] => some ρ
  | _ => none
def gsCons (t : TgF) (r : TgsF) : TgsF := fun ds ρ => match ds with
  | d :: ds => (t d ρ).bind fun ρ => r ds ρ
  | _ => none
def gTupD (r : TgsF) : TgF := fun d ρ => match d with
  | .tup ds => r ds ρ
  | _ => none
def sAsg (g : TgF) (a : EF) : SF := fun ρ S => (a ρ S).st ρ fun d S => match g d ρ with
  | some ρ => .nx ρ S
  | none => .bad
def sSet (i : Nat) (a : EF) : SF := fun ρ S => (a ρ S).st ρ fun d S => .nx (ρ.set i (some d)) S
/-- a, b = e1, e2: two different names -/
def sPar (i j : Nat) (a : AF) : SF := fun ρ S => (a ρ S).st ρ fun ds S => match ds with
  | [x, y] => .nx ((ρ.set i (some x)).set j (some y)) S
  | _ => .bad
def sPar3 (i j k : Nat) (a : AF) : SF := fun ρ S => (a ρ S).st ρ fun ds S => match ds with
  | [x, y, z] => .nx (((ρ.set i (some x)).set j (some y)).set k (some z)) S
  | _ => .bad
/-- name op= e -/
def sAug (i : Nat) (g : D → D → Sto → R D) (a : EF) : SF := fun ρ S => match ρ[i]? with
  | some (some x) => (a ρ S).st ρ fun y S => (g x y S).st ρ fun z S => .nx (ρ.set i (some z)) S
  | _ => .bad
/-- o[i] = e, o a list of the store -/
def setD (o i v : D) (S : Sto) : Option Sto := match o, i with
  | .loc n, .int k => match S[n]? with
    | some xs => match L2.ixN xs.length k with
      | some j => some (S.set n (xs.set j v))
      | none => none
    | none => none
  | _, _ => none
def sSub (o i a : EF) : SF := fun ρ S => (a ρ S).st ρ fun v S => (o ρ S).st ρ fun o S => (i ρ S).st ρ fun i S => match setD o i v S with
  | some S => .nx ρ S
  | none => .bad
/-- raise C(e) -/
def sRaise (c : Str) (a : EF) : SF := fun ρ S => (a ρ S).st ρ fun v S => .exc c v ρ S
/-! loops -/
def wIter (t : TF) (b : SF) : Nat → Env → Sto → RS
  | 0, _, _ => .bad
  | n + 1, ρ, S => (t ρ S).st ρ fun c S => match c with
    | false => .nx ρ S
    | true => match b ρ S with
      | .nx ρ S => wIter t b n ρ S
      | .ct ρ S => wIter t b n ρ S
      | .bk ρ S => .nx ρ S
      | .rt d S => .rt d S
      | .exc c v ρ S => .exc c v ρ S
      | .bad => .bad
theorem wIter_mono {t : TF} {b : SF} : ∀ {n : Nat} {ρ : Env} {S : Sto}, wIter t b n ρ S ≠ .bad → ∀ m, n ≤ m → wIter t b m ρ S = wIter t b n ρ S
  | 0, _, _, h, _, _ => absurd rfl h
  | n + 1, ρ, S, h, m, hm => by
    obtain ⟨k, rfl⟩ : ∃ k, m = k + 1 := ⟨m - 1, by omega⟩
    unfold wIter at h ⊢
    cases e : t ρ S with
    | ok c S1 =>
      rw [e] at h
      simp only [st_ok] at h ⊢
      cases c with
      | false => rfl
      | true =>
        simp only at h ⊢
        cases e2 : b ρ S1 with
        | nx ρ2 S2 => rw [e2] at h; exact wIter_mono h k (by omega)
        | ct ρ2 S2 => rw [e2] at h; exact wIter_mono h k (by omega)
        | _ => rfl
    | exc c v S1 => rfl
    | bad => rfl
open Classical in
noncomputable def sWhile (t : TF) (b : SF) : SF := fun ρ S => if h : ∃ n, wIter t b n ρ S ≠ .bad then wIter t b (Classical.choose h) ρ S else .bad
theorem sWhile_of {t : TF} {b : SF} {ρ : Env} {S : Sto} {n : Nat} (h : wIter t b n ρ S ≠ .bad) : sWhile t b ρ S = wIter t b n ρ S := by
  have hx : ∃ n, wIter t b n ρ S ≠ .bad := ⟨n, h⟩
  unfold sWhile
  rw [dif_pos hx]
  have h2 := Classical.choose_spec hx
  rcases Nat.le_total n (Classical.choose hx) with z | z
  · exact wIter_mono h _ z
  · exact (wIter_mono h2 _ z).symm
theorem sWhile_some {t : TF} {b : SF} {ρ : Env} {S : Sto} (h : sWhile t b ρ S ≠ .bad) : ∃ n, wIter t b n ρ S = sWhile t b ρ S := by
  unfold sWhile at h ⊢
  split at h
  · rename_i hx
    exact ⟨_, by rw [dif_pos hx]⟩
  · exact absurd rfl h
/-- one turn -/
theorem sWhile_eq (t : TF) (b : SF) (ρ : Env) (S : Sto) : sWhile t b ρ S = (t ρ S).st ρ fun c S => match c with
    | false => .nx ρ S
    | true => match b ρ S with
      | .nx ρ S => sWhile t b ρ S
      | .ct ρ S => sWhile t b ρ S
      | .bk ρ S => .nx ρ S
      | .rt d S => .rt d S
      | .exc c v ρ S => .exc c v ρ S
      | .bad => .bad := by
  have key : ∀ n, wIter t b (n + 1) ρ S = (t ρ S).st ρ fun c S => match c with
    | false => .nx ρ S
    | true => match b ρ S with
      | .nx ρ S => wIter t b n ρ S
      | .ct ρ S => wIter t b n ρ S
      | .bk ρ S => .nx ρ S
      | .rt d S => .rt d S
      | .exc c v ρ S => .exc c v ρ S
      | .bad => .bad := fun n => rfl
  have one : ∀ r : RS, (∀ n, wIter t b (n + 1) ρ S = r) → sWhile t b ρ S = r := by
    intro r hr
    by_cases h : wIter t b 1 ρ S = .bad
    · by_cases h2 : sWhile t b ρ S = .bad
      · rw [h2, ← h]; exact hr 0
      · obtain ⟨n, hn⟩ := sWhile_some h2
        cases n with
        | zero => exact absurd hn.symm h2
        | succ n => rw [← hn]; exact hr n
    · rw [sWhile_of h]; exact hr 0
  have step : ∀ ρ2 S2, (∀ n, wIter t b (n + 1) ρ S = wIter t b n ρ2 S2) → sWhile t b ρ S = sWhile t b ρ2 S2 := by
    intro ρ2 S2 hr
    by_cases h : sWhile t b ρ2 S2 = .bad
    · by_cases h2 : sWhile t b ρ S = .bad
      · rw [h, h2]
      · obtain ⟨n, hn⟩ := sWhile_some h2
        cases n with
        | zero => exact absurd hn.symm h2
        | succ n =>
          rw [hr n] at hn
          have h3 : wIter t b n ρ2 S2 ≠ .bad := by rw [hn]; exact h2
          rw [sWhile_of h3, hn]
    · obtain ⟨n, hn⟩ := sWhile_some h
      have h3 : wIter t b (n + 1) ρ S ≠ .bad := by rw [hr n, hn]; exact h
      rw [sWhile_of h3, hr n, hn]
  cases e : t ρ S with
  | ok c S1 =>
    rw [e] at key
    simp only [st_ok] at key ⊢
    cases c with
    | false => exact one _ key
    | true =>
      simp only at key ⊢
      cases e2 : b ρ S1 with
      | nx ρ2 S2 => rw [e2] at key; exact step _ _ key
      | ct ρ2 S2 => rw [e2] at key; exact step _ _ key
      | _ => rw [e2] at key; exact one _ key
  | exc c v S1 => rw [e] at key; exact one _ key
  | bad => rw [e] at key; exact one _ key
def forL (g : TgF) (b : SF) : List D → Env → Sto → RS
  | [], ρ, S => .nx ρ S
  | d :: ds, ρ, S => match g d ρ with
    | none => .bad
    | some ρ => match b ρ S with
      | .nx ρ S => forL g b ds ρ S
      | .ct ρ S => forL g b ds ρ S
      | .bk ρ S => .nx ρ S
      | .rt d S => .rt d S
      | .exc c v ρ S => .exc c v ρ S
      | .bad => .bad
/-- what is walked, as data -/
def sFor (it : AF) (g : TgF) (b : SF) : SF := fun ρ S => (it ρ S).st ρ fun ds S => forL g b ds ρ S
/-- the block's own slots are forgotten -/
def wipeE (ρ : Env) : List Nat → Env
  | [] => ρ
  | v :: vs => (wipeE ρ vs).set v none
def compL (vs : List Nat) (g : TgF) (t : TF) (e : EF) (ρ : Env) : List D → Sto → R (List D)
  | [], S => .ok [] S
  | d :: ds, S => match g d (wipeE ρ vs) with
    | none => .bad
    | some ρ1 => match t ρ1 S with
      | .ok true S => match e ρ1 S with
        | .ok y S => (compL vs g t e ρ ds S).bind fun ys S => .ok (y :: ys) S
        | _ => .bad
      | .ok false S => compL vs g t e ρ ds S
      | _ => .bad
def tYes : TF := fun _ S => .ok true S
/-- a list comprehension: its items, as a list that is never changed -/
def eComp (vs : List Nat) (it : AF) (g : TgF) (t : TF) (e : EF) : EF := fun ρ S => (it ρ S).bind fun ds S => if ds.length ≤ 16777216 then (compL vs g t e ρ ds S).bind fun ys S => .ok (.lst ys) S else .bad
def start (n : Nat) (ds : List D) : Env := ds.map some ++ List.replicate (n - ds.length) none
/-- a def by its body: m parameters, n slots -/
def mkFn (m n : Nat) (b : SF) : FN := fun ds S => if ds.length = m then match b (start n ds) S with
    | .nx _ S => .ok .non S
    | .rt d S => .ok d S
    | .exc c v _ S => .exc c v S
    | _ => .bad
  else .bad
/-! lists below n alone -/
mutual
def D.low (n : Nat) : D → Bool
  | .loc m => decide (m < n)
  | .tup xs => D.lowL n xs
  | .lst xs => D.lowL n xs
  | .exo _ v => D.low n v
  | _ => true
def D.lowL (n : Nat) : List D → Bool
  | [] => true
  | x :: xs => D.low n x && D.lowL n xs
end
/-- a def whose own lists are forgotten when it is left -/
def drop (f : FN) : FN := fun ds S => match f ds S with
  | .ok d S' => if d.low S.length && (S'.take S.length).all (D.lowL S.length) then .ok d (S'.take S.length) else .bad
  | .exc c v S' => if v.low S.length && (S'.take S.length).all (D.lowL S.length) then .exc c v (S'.take S.length) else .bad
  | .bad => .bad

/-! ### operations on values -/
def iBin (f : Int → Int → Int) (x y : D) (S : Sto) : R D := match x, y with
  | .int i, .int j => .ok (.int (f i j)) S
  | _, _ => .bad
def iCmp (f : Int → Int → Bool) (x y : D) (S : Sto) : R D := match x, y with
  | .int i, .int j => .ok (.bl (f i j)) S
  | _, _ => .bad
def dAdd := iBin (· + ·)
def dSub := iBin (· - ·)
/-- together below a million bits -/
def mulOk (i j : Int) : Bool := decide (i.natAbs.log2 + j.natAbs.log2 < 1000000)
def dMul (x y : D) (S : Sto) : R D := match x, y with
  | .int i, .int j => if mulOk i j then .ok (.int (i * j)) S else .bad
  | _, _ => .bad
/-- a divisor other than 0, below 2 ^ 9000 -/
def divOk (j : Int) : Bool := decide (j ≠ 0 ∧ j.natAbs.log2 < 9000)
def dDiv (x y : D) (S : Sto) : R D := match x, y with
  | .int i, .int j => if divOk j then .ok (.int (i.fdiv j)) S else .bad
  | _, _ => .bad
def dMod (x y : D) (S : Sto) : R D := match x, y with
  | .int i, .int j => if j ≠ 0 then .ok (.int (i.fmod j)) S else .bad
  | _, _ => .bad
def dPow (x y : D) (S : Sto) : R D := match x, y with
  | .int i, .int j => if 0 ≤ j ∧ (Builtin.Int.intBits i : Int) * j ≤ 2 ^ 27 then .ok (.int (i ^ j.toNat)) S else .bad
  | _, _ => .bad
def dLt := iCmp fun i j => decide (i < j)
def dLe := iCmp fun i j => decide (i ≤ j)
def dGt := iCmp fun i j => decide (j < i)
def dGe := iCmp fun i j => decide (j ≤ i)
def b2i (b : Bool) : Int := if b then 1 else 0
/-- True - False -/
def dSubB (x y : D) (S : Sto) : R D := match x, y with
  | .bl i, .bl j => .ok (.int (b2i i - b2i j)) S
  | .int i, .int j => .ok (.int (i - j)) S
  | _, _ => .bad
def dNeg (x : D) (S : Sto) : R D := match x with
  | .int i => .ok (.int (-i)) S
  | _ => .bad
/-! as the library's data, where no list is one of the store -/
mutual
def D.pd : D → Option PyData
  | .non => some .none
  | .bl b => some (.bool b)
  | .int i => some (.int i)
  | .str x => some (.str x)
  | .tup xs => (D.pdL xs).map .tuple
  | .lst xs => (D.pdL xs).map .list
  | _ => none
def D.pdL : List D → Option (List PyData)
  | [] => some []
  | x :: xs => (D.pd x).bind fun y => (D.pdL xs).map fun ys => y :: ys
end
def eqD (x y : D) : Option Bool := x.pd.bind fun a => y.pd.bind fun b => if SeqAt.shaped a && SeqAt.shaped b then some (PyData.eqv a b) else none
def dEq (x y : D) (S : Sto) : R D := match eqD x y with
  | some c => .ok (.bl c) S
  | none => .bad
def dNe (x y : D) (S : Sto) : R D := match eqD x y with
  | some c => .ok (.bl (!c)) S
  | none => .bad
def D.isNon : D → Bool
  | .non => true
  | _ => false
def dIsN (x y : D) (S : Sto) : R D := if y.isNon then .ok (.bl x.isNon) S else .bad
def dNotN (x y : D) (S : Sto) : R D := if y.isNon then .ok (.bl (!x.isNon)) S else .bad
def dIsB (x y : D) (S : Sto) : R D := match x, y with
  | .bl b, .bl c => .ok (.bl (b == c)) S
  | _, _ => .bad
def dNotB (x y : D) (S : Sto) : R D := match x, y with
  | .bl b, .bl c => .ok (.bl (!(b == c))) S
  | _, _ => .bad
/-- x in xs, xs a list or a tuple -/
def inD (x y : D) : Option Bool := x.pd.bind fun a => y.pd.bind fun b => match b with
  | .tuple bs => if SeqAt.shaped a && SeqAt.shaped (.tuple bs) then some (bs.any fun z => PyData.eqv z a) else none
  | .list bs => if SeqAt.shaped a && SeqAt.shaped (.list bs) then some (bs.any fun z => PyData.eqv z a) else none
  | _ => none
def dIn (x y : D) (S : Sto) : R D := match inD x y with
  | some c => .ok (.bl c) S
  | none => .bad
def dNotIn (x y : D) (S : Sto) : R D := match inD x y with
  | some c => .ok (.bl (!c)) S
  | none => .bad
def dIx (x y : D) (S : Sto) : R D := match y with
  | .int i => match x with
    | .tup xs => match L2.atI xs i with
      | some d => .ok d S
      | none => .bad
    | .lst xs => match L2.atI xs i with
      | some d => .ok d S
      | none => .bad
    | .loc n => match S[n]? with
      | some xs => match L2.atI xs i with
        | some d => .ok d S
        | none => .bad
      | none => .bad
    | _ => .bad
  | _ => .bad
def lenD (S : Sto) : D → Option Nat
  | .tup xs => some xs.length
  | .lst xs => some xs.length
  | .loc n => (S[n]?).map List.length
  | .str x => if x.length ≤ 16777216 then some x.length else none
  | _ => none
def fLen : FN := fun ds S => match ds with
  | [x] => match lenD S x with
    | some n => .ok (.int n) S
    | none => .bad
  | _ => .bad
def fAbs : FN := fun ds S => match ds with
  | [.int i] => .ok (.int (if i < 0 then -i else i)) S
  | _ => .bad
def fInt : FN := fun ds S => match ds with
  | [.int i] => .ok (.int i) S
  | [.bl b] => .ok (.int (b2i b)) S
  | _ => .bad
def fMax : FN := fun ds S => match ds with
  | [.int i, .int j] => .ok (.int (if j > i then j else i)) S
  | _ => .bad
def fMin : FN := fun ds S => match ds with
  | [.int i, .int j] => .ok (.int (if j < i then j else i)) S
  | _ => .bad
/-- the items of a list or tuple -/
def items (S : Sto) : D → Option (List D)
  | .tup xs => some xs
  | .lst xs => some xs
  | .loc n => S[n]?
  | _ => none
def bools : List D → Option (List Bool)
  | [] => some []
  | .bl b :: xs => (bools xs).map (b :: ·)
  | _ :: _ => none
def intsOf : List D → Option (List Int)
  | [] => some []
  | .int b :: xs => (intsOf xs).map (b :: ·)
  | _ :: _ => none
def fAll : FN := fun ds S => match ds with
  | [.lst xs] => match bools xs with
    | some bs => .ok (.bl (bs.all id)) S
    | none => .bad
  | _ => .bad
def fAny : FN := fun ds S => match ds with
  | [.lst xs] => match bools xs with
    | some bs => .ok (.bl (bs.any id)) S
    | none => .bad
  | _ => .bad
def fSum : FN := fun ds S => match ds with
  | [.lst xs] => match intsOf xs with
    | some bs => .ok (.int bs.sum) S
    | none => .bad
  | _ => .bad
/-- the built-in type of a value -/
def tyD : D → Option String
  | .non => some "NoneType"
  | .bl _ => some "bool"
  | .int _ => some "int"
  | .str _ => some "str"
  | .tup _ => some "tuple"
  | .lst _ => some "list"
  | .loc _ => some "list"
  | _ => none
/-- isinstance(x, T), T a built-in type, or an own class by its name: sub tells which class lies under which -/
def fIsi (sub : Str → Str → Option Bool) : FN := fun ds S => match ds with
  | [x, .ty T] => match (tyD x).bind fun t => L2.kitB t T with
    | some b => .ok (.bl b) S
    | none => .bad
  | [.exo c _, .cls c'] => match sub c c' with
    | some b => .ok (.bl b) S
    | none => .bad
  | _ => .bad
/-- the ints 0 .. n - 1 of range(n) -/
def rngL : Int → Nat → List D
  | _, 0 => []
  | lo, n + 1 => .int lo :: rngL (lo + 1) n
def fRange1 : AF → AF := fun a ρ S => (a ρ S).bind fun ds S => match ds with
  | [.int j] => if -(2 ^ 62) ≤ j ∧ j < 2 ^ 62 then .ok (rngL 0 j.toNat) S else .bad
  | _ => .bad
def fRange2 : AF → AF := fun a ρ S => (a ρ S).bind fun ds S => match ds with
  | [.int i, .int j] => if -(2 ^ 62) ≤ i ∧ i < 2 ^ 62 ∧ -(2 ^ 62) ≤ j ∧ j < 2 ^ 62 then .ok (rngL i (j - i).toNat) S else .bad
  | _ => .bad
/-- a tuple, a list that is never changed, walked -/
def wTup (e : EF) : AF := fun ρ S => (e ρ S).bind fun x S => match x with
  | .tup xs => .ok xs S
  | _ => .bad
def wLst (e : EF) : AF := fun ρ S => (e ρ S).bind fun x S => match x with
  | .lst xs => .ok xs S
  | _ => .bad
/-- repr(x) -/
def fRepr : FN := fun ds S => match ds with
  | [x] => match x.pd with
    | some p => if p.showable && p.canLay0 && decide (p.shown.length ≤ 16777216) && decide (p.depth ≤ 60) then .ok (.str p.shown) S else .bad
    | none => .bad
  | _ => .bad
/-- list(range(..)), tuple(range(..)) -/
def eListRg (it : AF) : EF := fun ρ S => (it ρ S).bind fun ds S => if ds.length ≤ 16777216 then .ok (.lst ds) S else .bad
def eTupRg (it : AF) : EF := fun ρ S => (it ρ S).bind fun ds S => if ds.length ≤ 16777216 then .ok (.tup ds) S else .bad
/-- tuple(x), list(x) of a list or tuple -/
def fTuple : FN := fun ds S => match ds with
  | [x] => match items S x with
    | some xs => .ok (.tup xs) S
    | none => .bad
  | _ => .bad
def fList : FN := fun ds S => match ds with
  | [x] => match items S x with
    | some xs => .ok (.lst xs) S
    | none => .bad
  | _ => .bad
/-- x[lo:hi] of a list: a list that is never changed; of a tuple -/
def cutD (xs : List D) (lo hi : Option Int) : List D := (xs.drop (HT.sIx xs.length 0 lo)).take (HT.sIx xs.length xs.length hi - HT.sIx xs.length 0 lo)
abbrev OF := Env → Sto → R (Option Int)
def oNone : OF := fun _ S => .ok none S
def oSome (e : EF) : OF := fun ρ S => (e ρ S).bind fun x S => match x with
  | .int i => .ok (some i) S
  | _ => .bad
def eCut (e : EF) (lo hi : OF) : EF := fun ρ S => (e ρ S).bind fun x S => (lo ρ S).bind fun lo S => (hi ρ S).bind fun hi S => match x with
  | .lst xs => .ok (.lst (cutD xs lo hi)) S
  | .loc n => match S[n]? with
    | some xs => .ok (.lst (cutD xs lo hi)) S
    | none => .bad
  | .tup xs => .ok (.tup (cutD xs lo hi)) S
  | _ => .bad
/-- x[::-1] of a list -/
def eRev (e : EF) : EF := eUn (fun x S => match x with
  | .lst xs => .ok (.lst xs.reverse) S
  | .loc n => match S[n]? with
    | some xs => .ok (.lst xs.reverse) S
    | none => .bad
  | _ => .bad) e
/-- x.append(v) -/
def eAppend (o v : EF) : EF := fun ρ S => (o ρ S).bind fun o S => match o with
  | .loc n => (v ρ S).bind fun v S => match S[n]? with
    | some xs => if xs.length < 16777216 then .ok .non (S.set n (xs ++ [v])) else .bad
    | none => .bad
  | _ => .bad
/-- e.value of a caught exception -/
def eValue (sub : Str → Str → Option Bool) (e : EF) : EF := eUn (fun x S => match x with
  | .exo c v => if sub c c = some true then .ok v S else .bad
  | _ => .bad) e
/-- f(lambda: body), f being: try: return (None, call()) except C as error: return (error, None) -/
def eHeard (sub : Str → Str → Option Bool) (e : EF) : EF := fun ρ S => match e ρ S with
  | .ok d S => .ok (.tup [.non, d]) S
  | .exc c v S => if sub c "ArmError" = some true then .ok (.tup [.exo c v, .non]) S else .bad
  | .bad => .bad
end DL


set_option linter.all false
set_option autoImplicit false
/-! DLs2: further words of the mirror. -/
namespace DL
open PySem
/-- x + y of ints or bools -/
def dAddB (x y : D) (S : Sto) : R D := match x, y with
  | .int i, .int j => .ok (.int (i + j)) S
  | .bl i, .bl j => .ok (.int (b2i i + b2i j)) S
  | .int i, .bl j => .ok (.int (i + b2i j)) S
  | .bl i, .int j => .ok (.int (b2i i + j)) S
  | _, _ => .bad
/-- a list comprehension whose list is changed later -/
def eCompN (vs : List Nat) (it : AF) (g : TgF) (t : TF) (e : EF) : EF := fun ρ S => (it ρ S).bind fun ds S => if ds.length ≤ 16777216 then (compL vs g t e ρ ds S).bind fun ys S => .ok (.loc S.length) (S ++ [ys]) else .bad
end DL


set_option linter.all false
set_option autoImplicit false
set_option Elab.async false
set_option maxRecDepth 100000
set_option maxHeartbeats 2000000
/-! DLw: what the hand layer's values stand for, and the rules of the mirror. -/
namespace DL
open PySem PySem.Spec L2
open PyProof.Rows hiding St

/-- an exception object of the class C, its own dict at dx, its fields set as fresh ones are -/
def ExV (C : Addr) (dx a : Addr) : HO := .ext fun h => ∃ (oe : Obj) (vs : Array Value), h.get? a = some oe ∧ Zc (.ref C) (some dx) oe ∧ oe.data = .fields vs

/-- the mutable lists' addresses; those that nothing stands for just now -/
structure Bt where
  l : List Addr
  h : List Addr
/-- a list that is never changed -/
def FzL (K : PySem.W.Frag) (β : Bt) (H : Hp) (a : Addr) (xs : List V) : Prop :=
  (H a = some (.lst xs) ∧ a ∉ β.l ∧ a ∉ β.h) ∨ (∃ o, H a = some (.frz o (.lst xs))) ∨
    ∃ (o : Obj) (its : Array Value) (n : Nat), K.lookup a = some o ∧ o.cls = .type "list" ∧ o.dict = none ∧ o.data = .seq its n ∧ its.size ≤ sizeLine ∧ Vals xs its.toList
theorem FzL.sq {K : PySem.W.Frag} {β : Bt} {H : Hp} {a : Addr} {xs : List V} (h : FzL K β H a xs) : SqL K H a xs := by
  rcases h with h | h | h
  · exact .inl (.inl h.1)
  · exact .inl (.inr h)
  · exact .inr h

/-- where one stands: the written part, the module's names -/
structure Wo where
  K : PySem.W.Frag
  mg : Str → Option Value
  T : List (Addr × Str)

mutual
/-- v is d -/
def Rep (w : Wo) (β : Bt) (H : Hp) : D → V → Prop
  | .non, v => v = .non
  | .bl b, v => v = .bl b
  | .int i, v => v = .int i
  | .str x, v => v = .str x
  | .tup ds, v => ∃ a xs, v = .ref a ∧ SqT w.K H a xs ∧ RepL w β H ds xs
  | .lst ds, v => ∃ a xs, v = .ref a ∧ FzL w.K β H a xs ∧ RepL w β H ds xs
  | .loc n, v => ∃ a, v = .ref a ∧ β.l[n]? = some a
  | .exo c d, v => ∃ a C dx x, v = .ref a ∧ w.mg c = some (.ref C) ∧ H a = some (ExV C dx a) ∧ H dx = some (.xd [(("value" : Str), x)]) ∧ Rep w β H d x
  | .ty n, v => v = .ty n
  | .cls c, v => ∃ C, v = .ref C ∧ w.mg c = some (.ref C)
  | .fn _, _ => False
def RepL (w : Wo) (β : Bt) (H : Hp) : List D → List V → Prop
  | [], xs => xs = []
  | d :: ds, xs => ∃ x xr, xs = x :: xr ∧ Rep w β H d x ∧ RepL w β H ds xr
end

/-- nothing stands there, but a table of code objects perhaps -/
def NT (H : Hp) (p : Addr) : Prop := ∀ o, H p = some o → ∃ ps, o = .tbl ps
theorem NT.of {H : Hp} {p : Addr} (h : H p = none) : NT H p := fun o e => by rw [h] at e; cases e
theorem NT.lst {H : Hp} {p : Addr} {xs : List V} (n : NT H p) (h : H p = some (.lst xs)) : False := by
  obtain ⟨ps, e⟩ := n _ h
  cases e
/-- what may happen: new objects, changes at the mutable lists, tables; new hidden lists -/
structure ExtW (β : Bt) (H : Hp) (β' : Bt) (H' : Hp) : Prop where
  pre : ∃ ν, β'.l = β.l ++ ν ∧ ∀ p ∈ ν, NT H p
  hid : ∀ a ∈ β'.h, a ∈ β.h ∨ NT H a
  keep : ∀ a o, H a = some o → (∀ xs, o ≠ .lst xs) → (∀ ps, o ≠ .tbl ps) → H' a = some o
  lsts : ∀ a xs, H a = some (.lst xs) → a ∉ β.l → H' a = some (.lst xs)
  dom : ∀ a, NT H' a → NT H a
/-- what a step may do: the hidden lists are the same -/
structure Ext (β : Bt) (H : Hp) (β' : Bt) (H' : Hp) : Prop extends ExtW β H β' H' where
  heq : β'.h = β.h
instance {β β' : Bt} {H H' : Hp} : Coe (Ext β H β' H') (ExtW β H β' H') := ⟨Ext.toExtW⟩
theorem ExtW.refl (β : Bt) (H : Hp) : ExtW β H β H := ⟨⟨[], by simp, fun _ h => nomatch h⟩, fun _ h => .inl h, fun _ _ h _ _ => h, fun _ _ h _ => h, fun _ h => h⟩
theorem Ext.refl (β : Bt) (H : Hp) : Ext β H β H := ⟨.refl β H, rfl⟩
theorem ExtW.trans {β β1 β2 : Bt} {H H1 H2 : Hp} (a : ExtW β H β1 H1) (b : ExtW β1 H1 β2 H2) : ExtW β H β2 H2 := by
  obtain ⟨ν1, e1, f1⟩ := a.pre
  obtain ⟨ν2, e2, f2⟩ := b.pre
  have back : ∀ p, NT H1 p → NT H p := a.dom
  refine ⟨⟨ν1 ++ ν2, by rw [e2, e1, List.append_assoc], fun p hp => ?_⟩, fun c hc => ?_, fun c o h n1 n2 => b.keep c o (a.keep c o h n1 n2) n1 n2, fun c xs h n => b.lsts c xs (a.lsts c xs h n) fun hc => ?_, fun c h => a.dom c (b.dom c h)⟩
  · rcases List.mem_append.mp hp with z | z
    · exact f1 p z
    · exact back p (f2 p z)
  · rcases b.hid c hc with z | z
    · exact a.hid c z
    · exact .inr (back c z)
  · rw [e1] at hc
    rcases List.mem_append.mp hc with z | z
    · exact n z
    · exact (f1 c z).lst h
theorem Ext.trans {β β1 β2 : Bt} {H H1 H2 : Hp} (a : Ext β H β1 H1) (b : Ext β1 H1 β2 H2) : Ext β H β2 H2 := ⟨a.toExtW.trans b.toExtW, b.heq.trans a.heq⟩
theorem Ext.same {β : Bt} {H H' : Hp} (h : Same H H') : Ext β H β H' := ⟨⟨⟨[], by simp, fun _ h => nomatch h⟩, fun _ h => .inl h, fun a o e _ _ => h a o e, fun a xs e _ => h a _ e, fun a n o e => n o (h a o e)⟩, rfl⟩
theorem same_upd {H : Hp} {p : Addr} {o : HO} (h : H p = none) : Same H (upd H p o) := fun b u e => by
  rw [upd_ne (ne_of_none e h)]; exact e
theorem Ext.new {β : Bt} {H : Hp} {p : Addr} {o : HO} (h : H p = none) : Ext β H β (upd H p o) := .same (same_upd h)

section
variable {w : Wo} {β β' : Bt} {H H' : Hp} {a : Addr} {xs : List V} {d : D} {v : V} {ds : List D} {vs : List V}
theorem ExtW.tup (e : ExtW β H β' H') (h : SqT w.K H a xs) : SqT w.K H' a xs := by
  rcases h with (h | ⟨o, h⟩) | h
  · exact .inl (.inl (e.keep _ _ h (fun _ z => nomatch z) fun _ z => nomatch z))
  · exact .inl (.inr ⟨o, e.keep _ _ h (fun _ z => nomatch z) fun _ z => nomatch z⟩)
  · exact .inr h
theorem ExtW.fz (e : ExtW β H β' H') (h : FzL w.K β H a xs) : FzL w.K β' H' a xs := by
  rcases h with ⟨h, n, n2⟩ | ⟨o, h⟩ | h
  · refine .inl ⟨e.lsts _ _ h n, fun hc => ?_, fun hc => ?_⟩
    · obtain ⟨ν, e1, f1⟩ := e.pre
      rw [e1] at hc
      rcases List.mem_append.mp hc with z | z
      · exact n z
      · exact (f1 a z).lst h
    · rcases e.hid a hc with z | z
      · exact n2 z
      · exact z.lst h
  · exact .inr (.inl ⟨o, e.keep _ _ h (fun _ z => nomatch z) fun _ z => nomatch z⟩)
  · exact .inr (.inr h)
theorem ExtW.get (e : ExtW β H β' H') {n : Nat} (h : β.l[n]? = some a) : β'.l[n]? = some a := by
  obtain ⟨ν, e1, _⟩ := e.pre
  rw [e1, List.getElem?_append_left (List.getElem?_eq_some_iff.mp h).1]
  exact h
mutual
theorem Rep.ext (e : ExtW β H β' H') : ∀ (d : D) (v : V), Rep w β H d v → Rep w β' H' d v
  | .non, _, h => h
  | .bl _, _, h => h
  | .int _, _, h => h
  | .str _, _, h => h
  | .tup ds, _, ⟨a, xs, r, h, l⟩ => ⟨a, xs, r, e.tup h, RepL.ext e ds xs l⟩
  | .lst ds, _, ⟨a, xs, r, h, l⟩ => ⟨a, xs, r, e.fz h, RepL.ext e ds xs l⟩
  | .loc n, _, ⟨a, r, h⟩ => ⟨a, r, e.get h⟩
  | .exo c d, _, ⟨a, C, dx, x, r, h1, h2, h3, h4⟩ => ⟨a, C, dx, x, r, h1, e.keep _ _ h2 (fun _ z => by unfold ExV at z; cases z) (fun _ z => by unfold ExV at z; cases z), e.keep _ _ h3 (fun _ z => nomatch z) (fun _ z => nomatch z), Rep.ext e d x h4⟩
  | .ty _, _, h => h
  | .cls _, _, h => h
  | .fn _, _, h => h
theorem RepL.ext (e : ExtW β H β' H') : ∀ (ds : List D) (vs : List V), RepL w β H ds vs → RepL w β' H' ds vs
  | [], _, h => h
  | d :: ds, _, ⟨x, xr, r, h, l⟩ => ⟨x, xr, r, Rep.ext e d x h, RepL.ext e ds xr l⟩
end
theorem RepL.length : ∀ {ds : List D} {vs : List V}, RepL w β H ds vs → ds.length = vs.length
  | [], _, h => by subst h; rfl
  | d :: ds, _, ⟨x, xr, r, h, l⟩ => by subst r; simp [RepL.length l]
theorem RepL.get : ∀ {ds : List D} {vs : List V} {i : Nat} {d : D}, RepL w β H ds vs → ds[i]? = some d → ∃ v, vs[i]? = some v ∧ Rep w β H d v
  | [], _, _, _, _, e => by simp at e
  | d :: ds, _, 0, _, ⟨x, xr, r, h, l⟩, e => by
    simp at e; subst e; subst r; exact ⟨x, rfl, h⟩
  | d :: ds, _, i + 1, _, ⟨x, xr, r, h, l⟩, e => by
    subst r
    obtain ⟨v, h1, h2⟩ := RepL.get (i := i) l (by simpa using e)
    exact ⟨v, by simpa using h1, h2⟩
theorem RepL.set (h : Rep w β H d v) : ∀ {ds : List D} {vs : List V} (i : Nat), RepL w β H ds vs → RepL w β H (ds.set i d) (vs.set i v)
  | [], _, _, h => by subst h; exact rfl
  | d' :: ds, _, 0, ⟨x, xr, r, h', l⟩ => by subst r; exact ⟨v, xr, rfl, h, l⟩
  | d' :: ds, _, i + 1, ⟨x, xr, r, h', l⟩ => by subst r; exact ⟨x, xr.set i v, rfl, h', RepL.set h i l⟩
theorem RepL.append : ∀ {ds es : List D} {vs us : List V}, RepL w β H ds vs → RepL w β H es us → RepL w β H (ds ++ es) (vs ++ us)
  | [], _, _, _, h, l => by subst h; exact l
  | d :: ds, _, _, _, ⟨x, xr, r, h', l⟩, k => by subst r; exact ⟨x, _, rfl, h', RepL.append l k⟩
theorem RepL.mem : ∀ {ds : List D} {vs : List V}, RepL w β H ds vs → ∀ (i : Nat) (d : D), ds[i]? = some d → ∃ v, vs[i]? = some v ∧ Rep w β H d v := fun l _ _ e => l.get e

/-- the mutable lists as they stand -/
structure SOk (w : Wo) (β : Bt) (H : Hp) (S : Sto) : Prop where
  tabs : LamX.Tabs w.T H
  nodup : β.l.Nodup
  hid : ∀ a ∈ β.h, (∃ xs, H a = some (.lst xs)) ∧ a ∉ β.l
  len : β.l.length = S.length
  at_ : ∀ (n : Nat) (a : Addr) (ds : List D), β.l[n]? = some a → S[n]? = some ds → ∃ xs, H a = some (.lst xs) ∧ RepL w β H ds xs
theorem SOk.get {S : Sto} (k : SOk w β H S) {n : Nat} {a : Addr} (h : β.l[n]? = some a) : ∃ ds xs, S[n]? = some ds ∧ H a = some (.lst xs) ∧ RepL w β H ds xs := by
  have hl : n < S.length := by rw [← k.len]; exact (List.getElem?_eq_some_iff.mp h).1
  obtain ⟨xs, h1, h2⟩ := k.at_ n a S[n] h (by simp [hl])
  exact ⟨S[n], xs, by simp [hl], h1, h2⟩
theorem SOk.new {S : Sto} {p : Addr} {o : HO} (k : SOk w β H S) (h : H p = none) : SOk w β (upd H p o) S :=
  ⟨k.tabs.ext (same_upd h), k.nodup, fun a ha => ⟨(k.hid a ha).1.imp fun xs e => same_upd h _ _ e, (k.hid a ha).2⟩, k.len, fun n a ds e1 e2 => by
    obtain ⟨xs, h1, h2⟩ := k.at_ n a ds e1 e2
    exact ⟨xs, same_upd h _ _ h1, RepL.ext (Ext.new h).toExtW ds xs h2⟩⟩

/-- the slots -/
def RepE (w : Wo) (β : Bt) (H : Hp) (ρ : Env) (σ : St) : Prop := σ.length = ρ.length ∧ ∀ (i : Nat) (d : D), ρ[i]? = some (some d) → ∃ v, σ[i]? = some (some v) ∧ Rep w β H d v
theorem RepE.ext {ρ : Env} {σ : St} (k : RepE w β H ρ σ) (e : ExtW β H β' H') : RepE w β' H' ρ σ := ⟨k.1, fun i d h => by
  obtain ⟨v, h1, h2⟩ := k.2 i d h
  exact ⟨v, h1, Rep.ext e d v h2⟩⟩
theorem RepE.set {ρ : Env} {σ : St} (k : RepE w β H ρ σ) (h : Rep w β H d v) (i : Nat) : RepE w β H (ρ.set i (some d)) (σ.set i (some v)) := by
  refine ⟨by simp [k.1], fun j d' e => ?_⟩
  by_cases hj : i = j
  · subst hj
    have hl : i < ρ.length := by
      have := (List.getElem?_eq_some_iff.mp e).1
      simpa using this
    rw [List.getElem?_set_self hl] at e
    cases e
    exact ⟨v, List.getElem?_set_self (by rw [k.1]; exact hl), h⟩
  · rw [List.getElem?_set_ne hj] at e
    rw [List.getElem?_set_ne hj]
    exact k.2 j d' e
theorem RepE.unset {ρ : Env} {σ : St} (k : RepE w β H ρ σ) (i : Nat) : RepE w β H (ρ.set i none) (σ.set i none) := by
  refine ⟨by simp [k.1], fun j d' e => ?_⟩
  by_cases hj : i = j
  · subst hj
    by_cases hl : i < ρ.length
    · rw [List.getElem?_set_self hl] at e; cases e
    · rw [List.getElem?_eq_none (by simpa using hl)] at e; cases e
  · rw [List.getElem?_set_ne hj] at e
    rw [List.getElem?_set_ne hj]
    exact k.2 j d' e
theorem RepE.wipe {ρ : Env} {σ : St} (k : RepE w β H ρ σ) : ∀ vs : List Nat, RepE w β H (wipeE ρ vs) (wipe σ vs)
  | [] => k
  | v :: vs => (RepE.wipe k vs).unset v
end

/-! ### readings -/
/-- what is wanted of an exception: its class by name, its value -/
abbrev WD := WX
/-- behind a step: Q of the value, W of an exception -/
def post (w : Wo) (W : WX) (σ : St) (β : Bt) (H : Hp) (r : R D) (Q : VK) : Prop := match r with
  | .ok d S => ∀ v β' H', Ext β H β' H' → SOk w β' H' S → Rep w β' H' d v → Q v H'
  | .exc c d S => ∀ C dx v β' H', Ext β H β' H' → SOk w β' H' S → w.mg c = some (.ref C) → H' dx = some (.xd [(("value" : Str), v)]) → Rep w β' H' d v → W (.ref C) (some dx) σ H'
  | .bad => False
def postT (w : Wo) (W : WX) (σ : St) (β : Bt) (H : Hp) (r : R Bool) (Q : Bool → Hp → Prop) : Prop := match r with
  | .ok d S => ∀ β' H', Ext β H β' H' → SOk w β' H' S → Q d H'
  | .exc c d S => ∀ C dx v β' H', Ext β H β' H' → SOk w β' H' S → w.mg c = some (.ref C) → H' dx = some (.xd [(("value" : Str), v)]) → Rep w β' H' d v → W (.ref C) (some dx) σ H'
  | .bad => False
def postA (w : Wo) (W : WX) (σ : St) (β : Bt) (H : Hp) (r : R (List D)) (Q : List V → Hp → Prop) : Prop := match r with
  | .ok d S => ∀ v β' H', Ext β H β' H' → SOk w β' H' S → RepL w β' H' d v → Q v H'
  | .exc c d S => ∀ C dx v β' H', Ext β H β' H' → SOk w β' H' S → w.mg c = some (.ref C) → H' dx = some (.xd [(("value" : Str), v)]) → Rep w β' H' d v → W (.ref C) (some dx) σ H'
  | .bad => False
section
variable {w : Wo} {W : WX} {σ : St} {β β' : Bt} {H H' : Hp}
theorem post.ext {r : R D} {Q : VK} (p : post w W σ β H r Q) (e : Ext β H β' H') : post w W σ β' H' r Q := by
  cases r with
  | ok d S => exact fun v β2 H2 e2 => p v β2 H2 (e.trans e2)
  | exc c d S => exact fun C dx v β2 H2 e2 => p C dx v β2 H2 (e.trans e2)
  | bad => exact p
theorem postT.ext {r : R Bool} {Q : Bool → Hp → Prop} (p : postT w W σ β H r Q) (e : Ext β H β' H') : postT w W σ β' H' r Q := by
  cases r with
  | ok d S => exact fun β2 H2 e2 => p β2 H2 (e.trans e2)
  | exc c d S => exact fun C dx v β2 H2 e2 => p C dx v β2 H2 (e.trans e2)
  | bad => exact p
theorem postA.ext {r : R (List D)} {Q : List V → Hp → Prop} (p : postA w W σ β H r Q) (e : Ext β H β' H') : postA w W σ β' H' r Q := by
  cases r with
  | ok d S => exact fun v β2 H2 e2 => p v β2 H2 (e.trans e2)
  | exc c d S => exact fun C dx v β2 H2 e2 => p C dx v β2 H2 (e.trans e2)
  | bad => exact p
end
/-- the reading of an expression by its mirror -/
def tE (w : Wo) (W : WX) (f : EF) : TE := fun σ H Q => ∃ β ρ S, SOk w β H S ∧ RepE w β H ρ σ ∧ post w W σ β H (f ρ S) Q
def tT (w : Wo) (W : WX) (f : TF) : TT := fun σ H Q => ∃ β ρ S, SOk w β H S ∧ RepE w β H ρ σ ∧ postT w W σ β H (f ρ S) Q
def tA (w : Wo) (W : WX) (f : AF) : TA := fun σ H Q => ∃ β ρ S, SOk w β H S ∧ RepE w β H ρ σ ∧ postA w W σ β H (f ρ S) Q

section
variable {w : Wo} {W : WX} {σ : St} {β : Bt} {H : Hp} {ρ : Env} {S : Sto}
/-- the first step of two -/
theorem tE_bind {f : EF} {g : D → Sto → R D} {Q : VK} {Z : VK} (hs : SOk w β H S) (he : RepE w β H ρ σ) (h : post w W σ β H ((f ρ S).bind g) Q)
    (k : ∀ d S1 v β1 H1, Ext β H β1 H1 → SOk w β1 H1 S1 → RepE w β1 H1 ρ σ → Rep w β1 H1 d v → post w W σ β1 H1 (g d S1) Q → Z v H1) : tE w W f σ H Z := by
  refine ⟨β, ρ, S, hs, he, ?_⟩
  cases e : f ρ S with
  | ok d S1 =>
    rw [e] at h
    exact fun v β1 H1 x k1 r => k d S1 v β1 H1 x k1 (he.ext x) r (post.ext h x)
  | exc c d S1 => rw [e] at h; exact h
  | bad => rw [e] at h; exact h
theorem tE_bindT {f : EF} {g : D → Sto → R Bool} {Q : Bool → Hp → Prop} {Z : VK} (hs : SOk w β H S) (he : RepE w β H ρ σ) (h : postT w W σ β H ((f ρ S).bind g) Q)
    (k : ∀ d S1 v β1 H1, Ext β H β1 H1 → SOk w β1 H1 S1 → RepE w β1 H1 ρ σ → Rep w β1 H1 d v → postT w W σ β1 H1 (g d S1) Q → Z v H1) : tE w W f σ H Z := by
  refine ⟨β, ρ, S, hs, he, ?_⟩
  cases e : f ρ S with
  | ok d S1 =>
    rw [e] at h
    exact fun v β1 H1 x k1 r => k d S1 v β1 H1 x k1 (he.ext x) r (postT.ext h x)
  | exc c d S1 => rw [e] at h; exact h
  | bad => rw [e] at h; exact h
theorem tE_bindA {f : EF} {g : D → Sto → R (List D)} {Q : List V → Hp → Prop} {Z : VK} (hs : SOk w β H S) (he : RepE w β H ρ σ) (h : postA w W σ β H ((f ρ S).bind g) Q)
    (k : ∀ d S1 v β1 H1, Ext β H β1 H1 → SOk w β1 H1 S1 → RepE w β1 H1 ρ σ → Rep w β1 H1 d v → postA w W σ β1 H1 (g d S1) Q → Z v H1) : tE w W f σ H Z := by
  refine ⟨β, ρ, S, hs, he, ?_⟩
  cases e : f ρ S with
  | ok d S1 =>
    rw [e] at h
    exact fun v β1 H1 x k1 r => k d S1 v β1 H1 x k1 (he.ext x) r (postA.ext h x)
  | exc c d S1 => rw [e] at h; exact h
  | bad => rw [e] at h; exact h
theorem tT_bind {f : TF} {g : Bool → Sto → R D} {Q : VK} {Z : Bool → Hp → Prop} (hs : SOk w β H S) (he : RepE w β H ρ σ) (h : post w W σ β H ((f ρ S).bind g) Q)
    (k : ∀ d S1 β1 H1, Ext β H β1 H1 → SOk w β1 H1 S1 → RepE w β1 H1 ρ σ → post w W σ β1 H1 (g d S1) Q → Z d H1) : tT w W f σ H Z := by
  refine ⟨β, ρ, S, hs, he, ?_⟩
  cases e : f ρ S with
  | ok d S1 =>
    rw [e] at h
    exact fun β1 H1 x k1 => k d S1 β1 H1 x k1 (he.ext x) (post.ext h x)
  | exc c d S1 => rw [e] at h; exact h
  | bad => rw [e] at h; exact h
theorem tT_bindT {f : TF} {g : Bool → Sto → R Bool} {Q : Bool → Hp → Prop} {Z : Bool → Hp → Prop} (hs : SOk w β H S) (he : RepE w β H ρ σ) (h : postT w W σ β H ((f ρ S).bind g) Q)
    (k : ∀ d S1 β1 H1, Ext β H β1 H1 → SOk w β1 H1 S1 → RepE w β1 H1 ρ σ → postT w W σ β1 H1 (g d S1) Q → Z d H1) : tT w W f σ H Z := by
  refine ⟨β, ρ, S, hs, he, ?_⟩
  cases e : f ρ S with
  | ok d S1 =>
    rw [e] at h
    exact fun β1 H1 x k1 => k d S1 β1 H1 x k1 (he.ext x) (postT.ext h x)
  | exc c d S1 => rw [e] at h; exact h
  | bad => rw [e] at h; exact h
theorem tA_bind {f : AF} {g : List D → Sto → R D} {Q : VK} {Z : List V → Hp → Prop} (hs : SOk w β H S) (he : RepE w β H ρ σ) (h : post w W σ β H ((f ρ S).bind g) Q)
    (k : ∀ d S1 v β1 H1, Ext β H β1 H1 → SOk w β1 H1 S1 → RepE w β1 H1 ρ σ → RepL w β1 H1 d v → post w W σ β1 H1 (g d S1) Q → Z v H1) : tA w W f σ H Z := by
  refine ⟨β, ρ, S, hs, he, ?_⟩
  cases e : f ρ S with
  | ok d S1 =>
    rw [e] at h
    exact fun v β1 H1 x k1 r => k d S1 v β1 H1 x k1 (he.ext x) r (post.ext h x)
  | exc c d S1 => rw [e] at h; exact h
  | bad => rw [e] at h; exact h
theorem tA_bindA {f : AF} {g : List D → Sto → R (List D)} {Q : List V → Hp → Prop} {Z : List V → Hp → Prop} (hs : SOk w β H S) (he : RepE w β H ρ σ) (h : postA w W σ β H ((f ρ S).bind g) Q)
    (k : ∀ d S1 v β1 H1, Ext β H β1 H1 → SOk w β1 H1 S1 → RepE w β1 H1 ρ σ → RepL w β1 H1 d v → postA w W σ β1 H1 (g d S1) Q → Z v H1) : tA w W f σ H Z := by
  refine ⟨β, ρ, S, hs, he, ?_⟩
  cases e : f ρ S with
  | ok d S1 =>
    rw [e] at h
    exact fun v β1 H1 x k1 r => k d S1 v β1 H1 x k1 (he.ext x) r (postA.ext h x)
  | exc c d S1 => rw [e] at h; exact h
  | bad => rw [e] at h; exact h
/-- a value that is a scalar, or stands already -/
theorem post.val {d : D} {v : V} {Q : VK} (h : post w W σ β H (.ok d S) Q) (hs : SOk w β H S) (r : Rep w β H d v) : Q v H := h v β H (.refl _ _) hs r
theorem postT.val {c : Bool} {Q : Bool → Hp → Prop} (h : postT w W σ β H (.ok c S) Q) (hs : SOk w β H S) : Q c H := h β H (.refl _ _) hs
end

/-! ### judgements -/
def wo (X : Cx) (T : List (Addr × Str)) : Wo := ⟨X.K, X.mg, T⟩
/-- e is what its mirror says, whatever is wanted of exceptions -/
structure PX (T : List (Addr × Str)) (X : Cx) (e : Expr) (f : EF) : Prop where
  run : ∀ W, Takes X W → PE X e (tE (wo X T) W f)
structure PXT (T : List (Addr × Str)) (X : Cx) (e : Expr) (f : TF) : Prop where
  run : ∀ W, Takes X W → PT X e (tT (wo X T) W f)
structure PXW (T : List (Addr × Str)) (X : Cx) (e : Expr) (f : TF) : Prop where
  run : ∀ W, Takes X W → PW X e (tT (wo X T) W f)
structure PXA (T : List (Addr × Str)) (X : Cx) (es : List Expr) (f : AF) : Prop where
  run : ∀ W, Takes X W → PA X es (tA (wo X T) W f)
section
variable {X : Cx}
theorem PE.weak {e : Expr} {t t' : TE} (h : PE X e t) (k : ∀ σ H Q, t' σ H Q → t σ H Q) : PE X e t' := ⟨fun pins s σ H Q I q => h.run pins s σ H Q I (k σ H Q q)⟩
theorem PT.weak {e : Expr} {t t' : TT} (h : PT X e t) (k : ∀ σ H Q, t' σ H Q → t σ H Q) : PT X e t' := ⟨fun pins s σ H Q I q => h.run pins s σ H Q I (k σ H Q q)⟩
theorem PW.weak {e : Expr} {t t' : TT} (h : PW X e t) (k : ∀ σ H Q, t' σ H Q → t σ H Q) : PW X e t' := ⟨fun wh pins s σ H Q I q => h.run wh pins s σ H Q I (k σ H Q q)⟩
theorem PA.weak {e : List Expr} {t t' : TA} (h : PA X e t) (k : ∀ σ H Q, t' σ H Q → t σ H Q) : PA X e t' := ⟨fun p pins s σ H Q I q => h.run p pins s σ H Q I (k σ H Q q)⟩
theorem PS.weak {e : Stmt} {t t' : TS} (h : PS X e t) (k : ∀ D σ H, t' D σ H → t D σ H) : PS X e t' := ⟨fun pins s σ H D I q => h.run pins s σ H D I (k D σ H q)⟩
theorem PSs.weak {e : List Stmt} {t t' : TS} (h : PSs X e t) (k : ∀ D σ H, t' D σ H → t D σ H) : PSs X e t' := ⟨fun pins s σ H D I q => h.run pins s σ H D I (k D σ H q)⟩
end

section
variable {T : List (Addr × Str)} {X : Cx} {a b c : Expr} {fa fb fc : EF} {pos : Pos} {W : WX}

/-! ### names, constants -/
theorem px_of_pe {te : TE} (h : PE X a te) (k : ∀ W σ H Q, tE (wo X T) W fa σ H Q → te σ H Q) : PX T X a fa := ⟨fun W _ => PE.weak h (k W)⟩
theorem px_var (i : Nat) {x : Str} (hN : X.N[i]? = some x := by rfl) (hv : Vis X.env.scope x := by first | exact Or.inl rfl | exact Or.inr (Or.inl rfl) | exact Or.inr (Or.inr rfl)) (hd : (x == ("__debug__" : Str)) = false := by decide)
    (hcd : (x == ("__classdict__" : Str)) = false := by decide) : PX T X (.Name x pos) (eVar i) := px_of_pe (pe_var hN hv hd hcd) fun W σ H Q ⟨β, ρ, S, hs, he, h⟩ => by
  unfold eVar at h
  cases q : ρ[i]? with
  | none => rw [q] at h; exact h.elim
  | some o =>
    rw [q] at h
    cases o with
    | none => exact h.elim
    | some d =>
      obtain ⟨v, h1, h2⟩ := he.2 i d q
      exact ⟨v, h1, post.val h hs h2⟩
theorem px_const {v : V} {d : D} (h : PE X a (tC v)) (r : ∀ β H, Rep (wo X T) β H d v) : PX T X a (eC d) := px_of_pe h fun W σ H Q ⟨β, ρ, S, hs, he, h⟩ => post.val h hs (r β H)
theorem px_int {i : Int} {j : Nat} : PX T X (.Constant (.int i) j pos) (eC (.int i)) := px_const pe_int fun _ _ => rfl
theorem px_bl {i : Bool} {j : Nat} : PX T X (.Constant (.bool i) j pos) (eC (.bl i)) := px_const pe_bl fun _ _ => rfl
theorem px_non {j : Nat} : PX T X (.Constant .none j pos) (eC .non) := px_const pe_non fun _ _ => rfl
theorem px_str {x : Str} {j : Nat} : PX T X (.Constant (.str x) j pos) (eC (.str x)) := px_const pe_str fun _ _ => rfl

/-! ### two values, one value -/
/-- what an operation's reading asks is what the mirror's operation gives -/
def BinOk (T : List (Addr × Str)) (X : Cx) (r : R2) (g : D → D → Sto → R D) : Prop := ∀ (W : WX) (σ : St) (β : Bt) (H : Hp) (S : Sto) (x y : D) (v u : V) (Q : VK),
  SOk (wo X T) β H S → Rep (wo X T) β H x v → Rep (wo X T) β H y u → post (wo X T) W σ β H (g x y S) Q → r v u H Q
def UnOk (T : List (Addr × Str)) (X : Cx) (r : V → Hp → VK → Prop) (g : D → Sto → R D) : Prop := ∀ (W : WX) (σ : St) (β : Bt) (H : Hp) (S : Sto) (x : D) (v : V) (Q : VK),
  SOk (wo X T) β H S → Rep (wo X T) β H x v → post (wo X T) W σ β H (g x S) Q → r v H Q
def CallOk (T : List (Addr × Str)) (X : Cx) (r : List V → Hp → VK → Prop) (g : FN) : Prop := ∀ (W : WX) (σ : St) (β : Bt) (H : Hp) (S : Sto) (xs : List D) (vs : List V) (Q : VK),
  SOk (wo X T) β H S → RepL (wo X T) β H xs vs → post (wo X T) W σ β H (g xs S) Q → r vs H Q
theorem two {ta tb : TE} {r : R2} {g : D → D → Sto → R D} (hr : BinOk T X r g) (W : WX) {σ : St} {H : Hp} {Q : VK} (h : tE (wo X T) W (eBin g fa fb) σ H Q) : tOp r (tE (wo X T) W fa) (tE (wo X T) W fb) σ H Q := by
  obtain ⟨β, ρ, S, hs, he, h⟩ := h
  refine tE_bind hs he h fun d S1 v β1 H1 x1 k1 e1 r1 q1 => ?_
  refine tE_bind k1 e1 q1 fun d2 S2 v2 β2 H2 x2 k2 e2 r2 q2 => ?_
  exact hr W σ β2 H2 S2 d d2 v v2 Q k2 (Rep.ext x2 d v r1) r2 q2
theorem px_op {op : Operator} {r : R2} {g : D → D → Sto → R D} (ho : OpR X (binaryOp op) r) (hr : BinOk T X r g) (ha : PX T X a fa) (hb : PX T X b fb) : PX T X (.BinOp a op b pos) (eBin g fa fb) :=
  ⟨fun W t => PE.weak (pe_op ho (ha.run W t) (hb.run W t)) fun _ _ _ h => two (ta := tE (wo X T) W fa) (tb := tE (wo X T) W fb) hr W h⟩
theorem px_un {op : UnaryOp} {r : V → Hp → VK → Prop} {g : D → Sto → R D} (ho : UnR X (unaryOp op) r) (hr : UnOk T X r g) (ha : PX T X a fa) : PX T X (.UnaryOp op a pos) (eUn g fa) :=
  ⟨fun W t => PE.weak (pe_un ho (ha.run W t)) fun σ H Q ⟨β, ρ, S, hs, he, h⟩ => tE_bind hs he h fun d S1 v β1 H1 x1 k1 e1 r1 q1 => hr W σ β1 H1 S1 d v Q k1 r1 q1⟩
theorem px_cmp {op : CmpOp} {r : R2} {g : D → D → Sto → R D} (ho : OpR X (compareOp op) r) (hr : BinOk T X r g) (ha : PX T X a fa) (hb : PX T X b fb) (hm : behindInMarks op b = false) : PX T X (.Compare a [op] [b] pos) (eBin g fa fb) :=
  ⟨fun W t => PE.weak (pe_cmpR ho (ha.run W t) (hb.run W t) hm) fun _ _ _ h => two (ta := tE (wo X T) W fa) (tb := tE (wo X T) W fb) hr W h⟩
/-- a test of a value that is a bool -/
theorem test_of {t : TE} {f : EF} {σ : St} {H : Hp} {Q : Bool → Hp → Prop} (k : ∀ Q', tE (wo X T) W f σ H Q' → t σ H Q') (h : tT (wo X T) W (tOf f) σ H Q) : tTest t σ H Q := by
  obtain ⟨β, ρ, S, hs, he, h⟩ := h
  refine k _ (tE_bindT hs he h fun d S1 v β1 H1 x1 k1 e1 r1 q1 => ?_)
  cases d with
  | bl c => exact ⟨c, r1, postT.val q1 k1⟩
  | _ => exact q1.elim
theorem pxt_cmp {op : CmpOp} {r : R2} {g : D → D → Sto → R D} (ho : OpR X (compareOp op) r) (hr : BinOk T X r g) (ha : PX T X a fa) (hb : PX T X b fb) (hm : behindInMarks op b = false) : PXT T X (.Compare a [op] [b] pos) (tOf (eBin g fa fb)) :=
  ⟨fun W t => PT.weak (pt_cmpR ho (ha.run W t) (hb.run W t) hm) fun _ _ _ h => test_of (fun _ h' => two (ta := tE (wo X T) W fa) (tb := tE (wo X T) W fb) hr W h') h⟩
theorem pxt_val (ha : PX T X a fa) (he : ∀ whole, isTrue a X.env whole = (do let v ← whole; standAt a.pos; holding [v] (truthy v)) := by intro _; rfl) : PXT T X a (tOf fa) :=
  ⟨fun W t => PT.weak (pt_val (ha.run W t) he) fun σ H Q h => test_of (t := tE (wo X T) W fa) (fun _ z => z) h⟩
theorem chain {r r' : R2} {g g' : D → D → Sto → R D} (hr : BinOk T X r g) (hr' : BinOk T X r' g') {σ : St} {H : Hp} {Q : VK} (h : tE (wo X T) W (eChain g g' fa fb fc) σ H Q) : tChain r r' (tE (wo X T) W fa) (tE (wo X T) W fb) (tE (wo X T) W fc) σ H Q := by
  obtain ⟨β, ρ, S, hs, he, h⟩ := h
  refine tE_bind hs he h fun d S1 v β1 H1 x1 k1 e1 r1 q1 => ?_
  refine tE_bind k1 e1 q1 fun d2 S2 v2 β2 H2 x2 k2 e2 r2 q2 => ?_
  refine hr W σ β2 H2 S2 d d2 v v2 _ k2 (Rep.ext x2 d v r1) r2 ?_
  cases q : g d d2 S2 with
  | ok k S3 =>
    rw [q] at q2
    intro z β3 H3 x3 k3 r3
    replace q2 := post.ext (r := (R.ok k S3).bind _) q2 x3
    cases k with
    | bl c =>
      refine ⟨c, r3, ?_⟩
      cases c with
      | true =>
        simp only [if_true]
        refine tE_bind k3 (e2.ext x3) q2 fun d4 S4 v4 β4 H4 x4 k4 e4 r4 q4 => ?_
        exact hr' W σ β4 H4 S4 d2 d4 v2 v4 Q k4 (Rep.ext (x3.trans x4) d2 v2 r2) r4 q4
      | false =>
        simp only [Bool.false_eq_true, if_false]
        exact post.val q2 k3 rfl
    | _ => exact q2.elim
  | exc c' v' S3 => rw [q] at q2; exact q2
  | bad => rw [q] at q2; exact q2
end
end DL


set_option linter.all false
set_option autoImplicit false
set_option Elab.async false
set_option maxRecDepth 100000
set_option maxHeartbeats 2000000
/-! DLw2: operations, tests, arguments, displays, subscripts. -/
namespace DL
open PySem PySem.Spec L2
open PyProof.Rows hiding St b2i

section
variable {T : List (Addr × Str)} {X : Cx} {a b c : Expr} {fa fb fc : EF} {pos : Pos} {W : WX} {rest : List Expr}

theorem le_line {n : Nat} (h : n ≤ 16777216) : n ≤ sizeLine := by rw [sizeLine_eq]; exact h
/-! ### ints -/
theorem ok_iBin (f : Int → Int → Int) : BinOk T X (rI0 fun i j => .int (f i j)) (iBin f) := fun W σ β H S x y v u Q hs rx ry h => by
  cases x with
  | int i =>
    cases y with
    | int j => exact ⟨i, j, rx, ry, post.val h hs rfl⟩
    | _ => exact h.elim
  | _ => cases y <;> exact h.elim
theorem ok_iCmp (f : Int → Int → Bool) : BinOk T X (rI0 fun i j => .bl (f i j)) (iCmp f) := fun W σ β H S x y v u Q hs rx ry h => by
  cases x with
  | int i =>
    cases y with
    | int j => exact ⟨i, j, rx, ry, post.val h hs rfl⟩
    | _ => exact h.elim
  | _ => cases y <;> exact h.elim
theorem px_add (ha : PX T X a fa) (hb : PX T X b fb) : PX T X (.BinOp a .Add b pos) (eBin dAdd fa fb) := px_op op_add (ok_iBin _) ha hb
theorem px_sub (ha : PX T X a fa) (hb : PX T X b fb) : PX T X (.BinOp a .Sub b pos) (eBin dSub fa fb) := px_op op_sub (ok_iBin _) ha hb
theorem ok_mul : BinOk T X (rI CMulW fun i j => .int (i * j)) dMul := fun W σ β H S x y v u Q hs rx ry h => by
  cases x with
  | int i =>
    cases y with
    | int j =>
      unfold dMul at h
      simp only at h
      split at h
      · rename_i k
        exact ⟨i, j, rx, ry, of_decide_eq_true (p := i.natAbs.log2 + j.natAbs.log2 < 1000000) k, post.val h hs rfl⟩
      · exact h.elim
    | _ => exact h.elim
  | _ => cases y <;> exact h.elim
theorem px_mul (ha : PX T X a fa) (hb : PX T X b fb) : PX T X (.BinOp a .Mult b pos) (eBin dMul fa fb) := px_op op_mulW ok_mul ha hb
def CDivA (_ j : Int) : Prop := j ≠ 0 ∧ j.natAbs.log2 < 9000
theorem op_fdivA : OpR X (binaryOp .FloorDiv) (rI CDivA fun i j => .int (i.fdiv j)) := opI fun i j _ _ _ _ _ hc q => floordiv_int hc.1 q (.inl (PyProof.noPylong_of_log2 hc.2))
theorem ok_div : BinOk T X (rI CDivA fun i j => .int (i.fdiv j)) dDiv := fun W σ β H S x y v u Q hs rx ry h => by
  cases x with
  | int i =>
    cases y with
    | int j =>
      unfold dDiv at h
      simp only at h
      split at h
      · rename_i k
        exact ⟨i, j, rx, ry, of_decide_eq_true (p := j ≠ 0 ∧ j.natAbs.log2 < 9000) k, post.val h hs rfl⟩
      · exact h.elim
    | _ => exact h.elim
  | _ => cases y <;> exact h.elim
theorem px_div (ha : PX T X a fa) (hb : PX T X b fb) : PX T X (.BinOp a .FloorDiv b pos) (eBin dDiv fa fb) := px_op op_fdivA ok_div ha hb
theorem ok_mod : BinOk T X (rI (fun _ j => j ≠ 0) fun i j => .int (i.fmod j)) dMod := fun W σ β H S x y v u Q hs rx ry h => by
  cases x with
  | int i =>
    cases y with
    | int j =>
      unfold dMod at h
      simp only at h
      split at h
      · rename_i k
        exact ⟨i, j, rx, ry, k, post.val h hs rfl⟩
      · exact h.elim
    | _ => exact h.elim
  | _ => cases y <;> exact h.elim
theorem px_mod (ha : PX T X a fa) (hb : PX T X b fb) : PX T X (.BinOp a .Mod b pos) (eBin dMod fa fb) := px_op op_modN ok_mod ha hb
def CPowA (i j : Int) : Prop := 0 ≤ j ∧ (Builtin.Int.intBits i : Int) * j ≤ 2 ^ 27
theorem op_powA : OpR X (binaryOp .Pow) (rI CPowA fun i j => .int (i ^ j.toNat)) := opI fun i j _ _ _ _ _ hc q => pow_int hc.1 hc.2 q
theorem ok_pow : BinOk T X (rI CPowA fun i j => .int (i ^ j.toNat)) dPow := fun W σ β H S x y v u Q hs rx ry h => by
  cases x with
  | int i =>
    cases y with
    | int j =>
      unfold dPow at h
      simp only at h
      split at h
      · rename_i k
        exact ⟨i, j, rx, ry, k, post.val h hs rfl⟩
      · exact h.elim
    | _ => exact h.elim
  | _ => cases y <;> exact h.elim
theorem px_pow (ha : PX T X a fa) (hb : PX T X b fb) : PX T X (.BinOp a .Pow b pos) (eBin dPow fa fb) := px_op op_powA ok_pow ha hb
/-- x - y of ints or of bools -/
def rSubB : R2 := fun x y H Q => (∃ i j, x = .int i ∧ y = .int j ∧ Q (.int (i - j)) H) ∨ ∃ i j, x = .bl i ∧ y = .bl j ∧ Q (.int (b2i i - b2i j)) H
theorem op_subB : OpR X (binaryOp .Sub) rSubB := by
  intro pins s σ H x y v u Q I rx ry h
  rcases h with h | h
  · exact op_sub pins s σ H x y v u Q I rx ry h
  · obtain ⟨i, j, rfl, rfl, q⟩ := h
    cases (show v = Value.bool i from rx)
    cases (show u = Value.bool j from ry)
    exact sub_bool ⟨.int _, H, I.tok _, ⟨_, rfl⟩, q⟩
theorem px_subB (ha : PX T X a fa) (hb : PX T X b fb) : PX T X (.BinOp a .Sub b pos) (eBin dSubB fa fb) := px_op op_subB (fun W σ β H S x y v u Q hs rx ry h => by
  cases x with
  | int i =>
    cases y with
    | int j => exact .inl ⟨i, j, rx, ry, post.val h hs rfl⟩
    | _ => exact h.elim
  | bl i =>
    cases y with
    | bl j => exact .inr ⟨i, j, rx, ry, post.val h hs rfl⟩
    | _ => exact h.elim
  | _ => cases y <;> exact h.elim) ha hb
theorem px_neg (ha : PX T X a fa) : PX T X (.UnaryOp .USub a pos) (eUn dNeg fa) := px_un un_neg (fun W σ β H S x v Q hs rx h => by
  cases x with
  | int i => exact ⟨i, rx, post.val h hs rfl⟩
  | _ => exact h.elim) ha

/-! ### data compared -/
mutual
theorem dp_of {w : Wo} {β : Bt} {H : Hp} : ∀ (d : D) (v : V) (p : PyData), Rep w β H d v → d.pd = some p → Dp w.K H v p
  | .non, _, _, r, e => by simp only [D.pd, Option.some.injEq] at e; subst e; subst r; exact .non
  | .bl b, _, _, r, e => by simp only [D.pd, Option.some.injEq] at e; subst e; subst r; exact .bl b
  | .int b, _, _, r, e => by simp only [D.pd, Option.some.injEq] at e; subst e; subst r; exact .int b
  | .str b, _, _, r, e => by simp only [D.pd, Option.some.injEq] at e; subst e; subst r; exact .str b
  | .tup ds, _, _, ⟨a, xs, r, h, l⟩, e => by
    simp only [D.pd, Option.map_eq_some_iff] at e
    obtain ⟨ps, e1, rfl⟩ := e
    subst r
    exact .tup h (dpL_of ds xs ps l e1)
  | .lst ds, _, _, ⟨a, xs, r, h, l⟩, e => by
    simp only [D.pd, Option.map_eq_some_iff] at e
    obtain ⟨ps, e1, rfl⟩ := e
    subst r
    exact .lst h.sq (dpL_of ds xs ps l e1)
  | .loc _, _, _, _, e => by simp [D.pd] at e
  | .exo _ _, _, _, _, e => by simp [D.pd] at e
  | .ty _, _, _, _, e => by simp [D.pd] at e
  | .cls _, _, _, _, e => by simp [D.pd] at e
  | .fn _, _, _, _, e => by simp [D.pd] at e
theorem dpL_of {w : Wo} {β : Bt} {H : Hp} : ∀ (ds : List D) (vs : List V) (ps : List PyData), RepL w β H ds vs → D.pdL ds = some ps → DpAll w.K H vs ps
  | [], _, _, r, e => by simp only [D.pdL, Option.some.injEq] at e; subst e; subst r; exact .nil
  | d :: ds, _, _, ⟨x, xr, r, h, l⟩, e => by
    simp only [D.pdL, Option.bind_eq_some_iff, Option.map_eq_some_iff] at e
    obtain ⟨p, e1, ps, e2, rfl⟩ := e
    subst r
    exact .cons (dp_of d x p h e1) (dpL_of ds xr ps l e2)
end
theorem ok_eq : BinOk T X (rEqD X.K) dEq := fun W σ β H S x y v u Q hs rx ry h => by
  unfold dEq eqD at h
  cases ex : x.pd with
  | none => rw [ex] at h; exact h.elim
  | some p =>
    cases ey : y.pd with
    | none => rw [ex, ey] at h; exact h.elim
    | some q =>
      rw [ex, ey] at h
      simp only [Option.bind_some] at h
      split at h
      · rename_i c e
        split at e
        · rename_i k
          cases e
          rw [Bool.and_eq_true] at k
          exact ⟨p, q, dp_of x v p rx ex, dp_of y u q ry ey, k.1, k.2, post.val h hs rfl⟩
        · cases e
      · exact h.elim
theorem ok_ne : BinOk T X (rNeD X.K) dNe := fun W σ β H S x y v u Q hs rx ry h => by
  unfold dNe eqD at h
  cases ex : x.pd with
  | none => rw [ex] at h; exact h.elim
  | some p =>
    cases ey : y.pd with
    | none => rw [ex, ey] at h; exact h.elim
    | some q =>
      rw [ex, ey] at h
      simp only [Option.bind_some] at h
      split at h
      · rename_i c e
        split at e
        · rename_i k
          cases e
          rw [Bool.and_eq_true] at k
          exact ⟨p, q, dp_of x v p rx ex, dp_of y u q ry ey, k.1, k.2, post.val h hs rfl⟩
        · cases e
      · exact h.elim
def rInQ (K : PySem.W.Frag) (neg : Bool) : R2 := fun x y H Q => ∃ d ds, Dp K H x d ∧ (Dp K H y (.list ds) ∧ SeqAt.shaped (.list ds) = true ∨ Dp K H y (.tuple ds) ∧ SeqAt.shaped (.tuple ds) = true) ∧ SeqAt.shaped d = true ∧ Q (.bl (neg != (ds.any fun z => PyData.eqv z d))) H
theorem room_in {A : Around} {ds : List PyData} {d : PyData} (h : SeqAt.shaped d = true) (hu : A.units + 65 < cLine) : A.units + 1 + min (PyData.depthAll ds) d.depth < cLine := by
  have h1 := SeqAt.depth_of_shaped h
  have h2 : min (PyData.depthAll ds) d.depth ≤ d.depth := Nat.min_le_right _ _
  omega
theorem op_inQ (hu : X.A.units + 65 < cLine) : OpR X (compareOp .In) (rInQ X.K false) := by
  intro pins s σ H x y v u Q I rx ry h
  obtain ⟨d, ds, hd, he, sd, q⟩ := h
  obtain ⟨as, r1⟩ := Dp.reads I d x v hd rx
  rcases he with ⟨he, se⟩ | ⟨he, se⟩
  · obtain ⟨bs, r2⟩ := Dp.reads I (.list ds) y u he ry
    exact SeqAt.in_list_reads r2 r1 (SeqAt.canLay_of_shaped se) (SeqAt.canLay_of_shaped sd) (room_in sd hu) ⟨.bl _, H, I, rfl, by simpa using q⟩
  · obtain ⟨bs, r2⟩ := Dp.reads I (.tuple ds) y u he ry
    exact SeqAt.in_tuple_reads r2 r1 (SeqAt.canLay_of_shaped se) (SeqAt.canLay_of_shaped sd) (room_in sd hu) ⟨.bl _, H, I, rfl, by simpa using q⟩
theorem op_notInQ (hu : X.A.units + 65 < cLine) : OpR X (compareOp .NotIn) (rInQ X.K true) := by
  intro pins s σ H x y v u Q I rx ry h
  obtain ⟨d, ds, hd, he, sd, q⟩ := h
  obtain ⟨as, r1⟩ := Dp.reads I d x v hd rx
  rcases he with ⟨he, se⟩ | ⟨he, se⟩
  · obtain ⟨bs, r2⟩ := Dp.reads I (.list ds) y u he ry
    exact SeqAt.notIn_list_reads r2 r1 (SeqAt.canLay_of_shaped se) (SeqAt.canLay_of_shaped sd) (room_in sd hu) ⟨.bl _, H, I, rfl, by simpa using q⟩
  · obtain ⟨bs, r2⟩ := Dp.reads I (.tuple ds) y u he ry
    exact SeqAt.notIn_tuple_reads r2 r1 (SeqAt.canLay_of_shaped se) (SeqAt.canLay_of_shaped sd) (room_in sd hu) ⟨.bl _, H, I, rfl, by simpa using q⟩
theorem in_facts {β : Bt} {H : Hp} {x y : D} {v u : V} {c : Bool} (rx : Rep (wo X T) β H x v) (ry : Rep (wo X T) β H y u) (h : inD x y = some c) :
    ∃ d ds, Dp X.K H v d ∧ (Dp X.K H u (.list ds) ∧ SeqAt.shaped (.list ds) = true ∨ Dp X.K H u (.tuple ds) ∧ SeqAt.shaped (.tuple ds) = true) ∧ SeqAt.shaped d = true ∧ c = ds.any fun z => PyData.eqv z d := by
  unfold inD at h
  simp only [Option.bind_eq_some_iff] at h
  obtain ⟨p, ex, q, ey, h⟩ := h
  have hx := dp_of x v p rx ex
  have hy := dp_of y u q ry ey
  cases q with
  | tuple bs =>
    simp only at h
    split at h
    · rename_i k
      rw [Bool.and_eq_true] at k
      cases h
      exact ⟨p, bs, hx, .inr ⟨hy, k.2⟩, k.1, rfl⟩
    · cases h
  | list bs =>
    simp only at h
    split at h
    · rename_i k
      rw [Bool.and_eq_true] at k
      cases h
      exact ⟨p, bs, hx, .inl ⟨hy, k.2⟩, k.1, rfl⟩
    · cases h
  | _ => cases h
theorem ok_in : BinOk T X (rInQ X.K false) dIn := fun W σ β H S x y v u Q hs rx ry h => by
  unfold dIn at h
  cases e : inD x y with
  | none => rw [e] at h; exact h.elim
  | some c =>
    rw [e] at h
    obtain ⟨d, ds, h1, h2, h3, rfl⟩ := in_facts rx ry e
    exact ⟨d, ds, h1, h2, h3, post.val h hs (by simp [Rep])⟩
theorem ok_notIn : BinOk T X (rInQ X.K true) dNotIn := fun W σ β H S x y v u Q hs rx ry h => by
  unfold dNotIn at h
  cases e : inD x y with
  | none => rw [e] at h; exact h.elim
  | some c =>
    rw [e] at h
    obtain ⟨d, ds, h1, h2, h3, rfl⟩ := in_facts rx ry e
    exact ⟨d, ds, h1, h2, h3, post.val h hs (by simp [Rep])⟩
theorem rep_non {w : Wo} {β : Bt} {H : Hp} {d : D} {v : V} (r : Rep w β H d v) : decide (v = .non) = d.isNon := by
  cases d with
  | non => subst r; rfl
  | bl b => subst r; rfl
  | int b => subst r; rfl
  | str b => subst r; rfl
  | tup b => obtain ⟨a, xs, r, _⟩ := r; subst r; rfl
  | lst b => obtain ⟨a, xs, r, _⟩ := r; subst r; rfl
  | loc b => obtain ⟨a, r, _⟩ := r; subst r; rfl
  | exo b c => obtain ⟨a, _, _, _, r, _⟩ := r; subst r; rfl
  | ty b => subst r; rfl
  | cls b => obtain ⟨C, r, _⟩ := r; subst r; rfl
  | fn b => exact r.elim
theorem ok_isN : BinOk T X (fun x y H Q => y = .non ∧ Q (.bl (decide (x = .non))) H) dIsN := fun W σ β H S x y v u Q hs rx ry h => by
  unfold dIsN at h
  split at h
  · rename_i k
    cases y with
    | non => exact ⟨ry, post.val h hs (by rw [rep_non rx]; rfl)⟩
    | _ => cases k
  · exact h.elim
theorem ok_notN : BinOk T X (fun x y H Q => y = .non ∧ Q (.bl (!decide (x = .non))) H) dNotN := fun W σ β H S x y v u Q hs rx ry h => by
  unfold dNotN at h
  split at h
  · rename_i k
    cases y with
    | non => exact ⟨ry, post.val h hs (by rw [rep_non rx]; rfl)⟩
    | _ => cases k
  · exact h.elim
theorem ok_isB : BinOk T X rIsB dIsB := fun W σ β H S x y v u Q hs rx ry h => by
  cases x with
  | bl i =>
    cases y with
    | bl j => exact ⟨i, j, rx, ry, post.val h hs (by rw [Bool.beq_eq_decide_eq]; rfl)⟩
    | _ => exact h.elim
  | _ => cases y <;> exact h.elim
theorem ok_notB : BinOk T X rNotB dNotB := fun W σ β H S x y v u Q hs rx ry h => by
  cases x with
  | bl i =>
    cases y with
    | bl j => exact ⟨i, j, rx, ry, post.val h hs (by rw [Bool.beq_eq_decide_eq]; rfl)⟩
    | _ => exact h.elim
  | _ => cases y <;> exact h.elim

/-! ### and, or, not, if, chains -/
theorem px_one {op} {f : EF} (h : PX T X a f) : PX T X (.BoolOp op [a] pos) f := ⟨fun W t => pe_one (h.run W t)⟩
theorem px_and (ha : PX T X a fa) (hb : PX T X (.BoolOp .And (b :: rest) pos) fb) : PX T X (.BoolOp .And (a :: b :: rest) pos) (eAnd fa fb) :=
  ⟨fun W t => PE.weak (pe_and (ha.run W t) (hb.run W t)) fun σ H Q ⟨β, ρ, S, hs, he, h⟩ => tE_bind hs he h fun d S1 v β1 H1 x1 k1 e1 r1 q1 => by
    cases d with
    | bl c =>
      refine ⟨c, r1, ?_⟩
      cases c with
      | true => simp only [if_true]; exact ⟨β1, ρ, S1, k1, e1, q1⟩
      | false => simp only [Bool.false_eq_true, if_false]; exact post.val q1 k1 rfl
    | _ => exact q1.elim⟩
theorem px_or (ha : PX T X a fa) (hb : PX T X (.BoolOp .Or (b :: rest) pos) fb) : PX T X (.BoolOp .Or (a :: b :: rest) pos) (eOr fa fb) :=
  ⟨fun W t => PE.weak (pe_or (ha.run W t) (hb.run W t)) fun σ H Q ⟨β, ρ, S, hs, he, h⟩ => tE_bind hs he h fun d S1 v β1 H1 x1 k1 e1 r1 q1 => by
    cases d with
    | bl c =>
      refine ⟨c, r1, ?_⟩
      cases c with
      | true => simp only [if_true]; exact post.val q1 k1 rfl
      | false => simp only [Bool.false_eq_true, if_false]; exact ⟨β1, ρ, S1, k1, e1, q1⟩
    | _ => exact q1.elim⟩
theorem px_not (ha : PX T X a fa) : PX T X (.UnaryOp .Not a pos) (eNot fa) :=
  ⟨fun W t => PE.weak (pe_not (ha.run W t)) fun σ H Q ⟨β, ρ, S, hs, he, h⟩ => tE_bind hs he h fun d S1 v β1 H1 x1 k1 e1 r1 q1 => by
    cases d with
    | bl c => exact ⟨c, r1, post.val q1 k1 rfl⟩
    | _ => exact q1.elim⟩
theorem px_ifExp {t : TF} (hc : PXT T X c t) (ha : PX T X a fa) (hb : PX T X b fb) : PX T X (.IfExp c a b pos) (eIf t fa fb) :=
  ⟨fun W tk => PE.weak (pe_ifExp (hc.run W tk) (ha.run W tk) (hb.run W tk)) fun σ H Q ⟨β, ρ, S, hs, he, h⟩ => tT_bind hs he h fun d S1 β1 H1 x1 k1 e1 q1 => by
    cases d with
    | true => simp only [if_true]; exact ⟨β1, ρ, S1, k1, e1, q1⟩
    | false => simp only [Bool.false_eq_true, if_false]; exact ⟨β1, ρ, S1, k1, e1, q1⟩⟩
theorem px_chain {op op' : CmpOp} {r r' : R2} {g g' : D → D → Sto → R D} (ho : OpR X (compareOp op) r) (ho' : OpR X (compareOp op') r') (hr : BinOk T X r g) (hr' : BinOk T X r' g') (ha : PX T X a fa) (hb : PX T X b fb) (hc : PX T X c fc)
    (hm : lastMarks [op, op'] [b, c] = false := by with_unfolding_all rfl) : PX T X (.Compare a [op, op'] [b, c] pos) (eChain g g' fa fb fc) :=
  ⟨fun W t => PE.weak (pe_chain ho ho' (ha.run W t) (hb.run W t) (hc.run W t) hm) fun _ _ _ h => chain hr hr' h⟩
theorem pxt_chain {op op' : CmpOp} {r r' : R2} {g g' : D → D → Sto → R D} (ho : OpR X (compareOp op) r) (ho' : OpR X (compareOp op') r') (hr : BinOk T X r g) (hr' : BinOk T X r' g') (ha : PX T X a fa) (hb : PX T X b fb) (hc : PX T X c fc)
    (hm : lastMarks [op, op'] [b, c] = false := by with_unfolding_all rfl) : PXT T X (.Compare a [op, op'] [b, c] pos) (tOf (eChain g g' fa fb fc)) :=
  ⟨fun W t => PT.weak (pt_chain ho ho' (ha.run W t) (hb.run W t) (hc.run W t) hm) fun _ _ _ h => test_of (fun _ h' => chain hr hr' h') h⟩
/-! tests -/
variable {ta tb : TF}
theorem PXW.t (h : PXW T X a ta) : PXT T X a ta := ⟨fun W t => (h.run W t).pt⟩
theorem pxw_and1 (h : PXT T X a ta) : PXW T X (.BoolOp .And [a] pos) ta := ⟨fun W t => pw_and1 (h.run W t)⟩
theorem pxw_or1 (h : PXT T X a ta) : PXW T X (.BoolOp .Or [a] pos) ta := ⟨fun W t => pw_or1 (h.run W t)⟩
theorem pxw_and (ha : PXT T X a ta) (hb : PXW T X (.BoolOp .And (b :: rest) pos) tb) : PXW T X (.BoolOp .And (a :: b :: rest) pos) (DL.tAnd ta tb) :=
  ⟨fun W t => PW.weak (pw_and (ha.run W t) (hb.run W t)) fun σ H Q ⟨β, ρ, S, hs, he, h⟩ => tT_bindT hs he h fun d S1 β1 H1 x1 k1 e1 q1 => by
    cases d with
    | true => simp only [if_true]; exact ⟨β1, ρ, S1, k1, e1, q1⟩
    | false => simp only [Bool.false_eq_true, if_false]; exact postT.val q1 k1⟩
theorem pxw_or (ha : PXT T X a ta) (hb : PXW T X (.BoolOp .Or (b :: rest) pos) tb) : PXW T X (.BoolOp .Or (a :: b :: rest) pos) (DL.tOr ta tb) :=
  ⟨fun W t => PW.weak (pw_or (ha.run W t) (hb.run W t)) fun σ H Q ⟨β, ρ, S, hs, he, h⟩ => tT_bindT hs he h fun d S1 β1 H1 x1 k1 e1 q1 => by
    cases d with
    | true => simp only [if_true]; exact postT.val q1 k1
    | false => simp only [Bool.false_eq_true, if_false]; exact ⟨β1, ρ, S1, k1, e1, q1⟩⟩
theorem pxt_not (ha : PXT T X a ta) : PXT T X (.UnaryOp .Not a pos) (DL.tNot ta) :=
  ⟨fun W t => PT.weak (pt_not (ha.run W t)) fun σ H Q ⟨β, ρ, S, hs, he, h⟩ => tT_bindT hs he h fun d S1 β1 H1 x1 k1 e1 q1 => postT.val q1 k1⟩
theorem RepL.isEmpty {w : Wo} {β : Bt} {H : Hp} {ds : List D} {vs : List V} (l : RepL w β H ds vs) : (!vs.isEmpty) = !ds.isEmpty := by
  cases ds with
  | nil => subst l; rfl
  | cons d ds => obtain ⟨x, xr, r, _⟩ := l; subst r; rfl
theorem truV_of {β : Bt} {H : Hp} {S : Sto} {d : D} {v : V} {k : Bool} (hs : SOk (wo X T) β H S) (r : Rep (wo X T) β H d v) (h : truD S d = some k) : TruV X.K v H k := by
  cases d with
  | non => subst r; cases h; rfl
  | bl b => subst r; cases h; rfl
  | int b => subst r; cases h; rfl
  | str b =>
    subst r
    have h' : (if b.length ≤ 16777216 then some (b.length != 0) else none) = some k := h
    by_cases hz : b.length ≤ 16777216
    · rw [if_pos hz] at h'
      cases h'
      refine ⟨le_line hz, ?_⟩
      rw [Bool.eq_iff_iff]
      simp
    · rw [if_neg hz] at h'
      cases h'
  | tup b => obtain ⟨a, xs, rfl, h1, l⟩ := r; cases h; exact .inr (.inl ⟨xs, h1, l.isEmpty.symm⟩)
  | lst b => obtain ⟨a, xs, rfl, h1, l⟩ := r; cases h; exact .inl ⟨xs, h1.sq, l.isEmpty.symm⟩
  | loc n =>
    obtain ⟨a, rfl, h1⟩ := r
    obtain ⟨ds, xs, h2, h3, l⟩ := hs.get h1
    simp only [truD, h2, Option.map_some, Option.some.injEq] at h
    subst h
    exact .inl ⟨xs, .of h3, l.isEmpty.symm⟩
  | _ => cases h
theorem pxt_truth (ha : PX T X a fa) (he : ∀ whole, isTrue a X.env whole = (do let v ← whole; standAt a.pos; holding [v] (truthy v)) := by intro _; rfl) : PXT T X a (tTru fa) :=
  ⟨fun W t => PT.weak (pt_truth (ha.run W t) he) fun σ H Q ⟨β, ρ, S, hs, he, h⟩ => tE_bindT hs he h fun d S1 v β1 H1 x1 k1 e1 r1 q1 => by
    cases e : truD S1 d with
    | none => rw [e] at q1; exact q1.elim
    | some k => rw [e] at q1; exact ⟨k, truV_of k1 r1 e, postT.val q1 k1⟩⟩

/-! ### arguments, displays -/
variable {es : List Expr} {ga : AF} {e : Expr}
theorem pxa_nil : PXA T X [] aNil := ⟨fun W t => PA.weak pa_nil fun σ H Q ⟨β, ρ, S, hs, he, h⟩ => h [] β H (.refl _ _) hs rfl⟩
theorem pxa_cons (ha : PX T X e fa) (hr : PXA T X es ga) (hs : starEach (e :: es) X.env = (false, eval e X.env) :: starEach es X.env := by rfl) : PXA T X (e :: es) (aCons fa ga) :=
  ⟨fun W t => PA.weak (pa_cons (ha.run W t) (hr.run W t) hs) fun σ H Q ⟨β, ρ, S, hs, he, h⟩ => tE_bindA hs he h fun d S1 v β1 H1 x1 k1 e1 r1 q1 =>
    tA_bindA k1 e1 q1 fun ds S2 vs β2 H2 x2 k2 e2 r2 q2 => q2 (v :: vs) β2 H2 (.refl _ _) k2 ⟨v, vs, rfl, Rep.ext x2 d v r1, r2⟩⟩
theorem px_tup {k : Nat} (h : PXA T X es ga) : PX T X (.Tuple es k pos) (eTup ga) :=
  ⟨fun W t => PE.weak (pe_tup (h.run W t)) fun σ H Q ⟨β, ρ, S, hs, he, h⟩ => tA_bind hs he h fun ds S1 vs β1 H1 x1 k1 e1 r1 q1 => by
    split at q1
    · rename_i hz
      exact ⟨le_line (by rw [← r1.length]; exact hz), fun p hp => q1 (.ref p) β1 _ (.new hp) (k1.new hp) ⟨p, vs, rfl, .of upd_same, RepL.ext (Ext.new hp).toExtW ds vs r1⟩⟩
    · exact q1.elim⟩
theorem notin_of {w : Wo} {β : Bt} {H : Hp} {S : Sto} {p : Addr} (k : SOk w β H S) (h : H p = none) : p ∉ β.l ∧ p ∉ β.h := by
  refine ⟨fun hm => ?_, fun hm => by
    obtain ⟨xs, e⟩ := (k.hid p hm).1
    rw [h] at e
    cases e⟩
  obtain ⟨n, hn⟩ := List.getElem?_of_mem hm
  obtain ⟨_, _, _, e, _⟩ := k.get hn
  rw [h] at e
  cases e
theorem px_lst (h : PXA T X es ga) : PX T X (.List es pos) (eLst ga) :=
  ⟨fun W t => PE.weak (pe_lst (h.run W t)) fun σ H Q ⟨β, ρ, S, hs, he, h⟩ => tA_bind hs he h fun ds S1 vs β1 H1 x1 k1 e1 r1 q1 => by
    split at q1
    · rename_i hz
      exact ⟨le_line (by rw [← r1.length]; exact hz), fun p hp => q1 (.ref p) β1 _ (.new hp) (k1.new hp) ⟨p, vs, rfl, .inl ⟨upd_same, notin_of k1 hp⟩, RepL.ext (Ext.new hp).toExtW ds vs r1⟩⟩
    · exact q1.elim⟩
/-- a new mutable list -/
theorem Ext.newLoc {β : Bt} {H : Hp} {p : Addr} {o : HO} (h : H p = none) : Ext β H ⟨β.l ++ [p], β.h⟩ (upd H p o) :=
  ⟨⟨⟨[p], rfl, fun q hq => by rw [List.mem_singleton.mp hq]; exact .of h⟩, fun _ h => .inl h, (Ext.new (β := β) h).keep, (Ext.new h).lsts, (Ext.new (β := β) h).dom⟩, rfl⟩
theorem SOk.newLoc {w : Wo} {β : Bt} {H : Hp} {S : Sto} {p : Addr} {ds : List D} {vs : List V} (k : SOk w β H S) (h : H p = none) (r : RepL w β H ds vs) : SOk w ⟨β.l ++ [p], β.h⟩ (upd H p (.lst vs)) (S ++ [ds]) := by
  have x : Ext β H ⟨β.l ++ [p], β.h⟩ (upd H p (.lst vs)) := Ext.newLoc h
  refine ⟨k.tabs.ext (same_upd h), ?_, fun a ha => ⟨(k.hid a ha).1.imp fun xs e => same_upd h _ _ e, fun z => ?_⟩, by simp [k.len], fun n a es e1 e2 => ?_⟩
  · rw [List.nodup_append]
    exact ⟨k.nodup, by simp, fun a ha b hb => by rw [List.mem_singleton.mp hb]; exact fun z => (notin_of k h).1 (z ▸ ha)⟩
  · rcases List.mem_append.mp z with z | z
    · exact (k.hid a ha).2 z
    · rw [List.mem_singleton.mp z] at ha
      exact (notin_of k h).2 ha
  · by_cases hn : n < β.l.length
    · have e1 : (β.l ++ [p])[n]? = some a := e1
      rw [List.getElem?_append_left hn] at e1
      rw [List.getElem?_append_left (by rw [← k.len]; exact hn)] at e2
      obtain ⟨xs, h1, h2⟩ := k.at_ n a es e1 e2
      exact ⟨xs, same_upd h _ _ h1, RepL.ext x es xs h2⟩
    · have e1 : (β.l ++ [p])[n]? = some a := e1
      rw [List.getElem?_append_right (by omega)] at e1
      rw [List.getElem?_append_right (by rw [← k.len]; omega)] at e2
      have hn0 : n - β.l.length = 0 := by
        have := (List.getElem?_eq_some_iff.mp e1).1
        simp at this; omega
      rw [hn0] at e1
      rw [← k.len, hn0] at e2
      simp at e1 e2
      subst e1; subst e2
      exact ⟨vs, upd_same, RepL.ext x ds vs r⟩
theorem px_new (h : PXA T X es ga) : PX T X (.List es pos) (eNew ga) :=
  ⟨fun W t => PE.weak (pe_lst (h.run W t)) fun σ H Q ⟨β, ρ, S, hs, he, h⟩ => tA_bind hs he h fun ds S1 vs β1 H1 x1 k1 e1 r1 q1 => by
    split at q1
    · rename_i hz
      exact ⟨le_line (by rw [← r1.length]; exact hz), fun p hp => q1 (.ref p) ⟨β1.l ++ [p], β1.h⟩ _ (.newLoc hp) (k1.newLoc hp r1) ⟨p, rfl, by show (β1.l ++ [p])[S1.length]? = some p; rw [← k1.len]; simp⟩⟩
    · exact q1.elim⟩

/-! ### subscripts -/
theorem atI_rep {w : Wo} {β : Bt} {H : Hp} {ds : List D} {vs : List V} {i : Int} {d : D} (l : RepL w β H ds vs) (h : atI ds i = some d) : ∃ v, atI vs i = some v ∧ Rep w β H d v := by
  unfold atI at h ⊢
  rw [l.length] at h
  cases e : ixN vs.length i with
  | none => rw [e] at h; cases h
  | some j =>
    rw [e] at h
    exact l.get h
theorem px_ix (ha : PX T X a fa) (hb : PX T X b fb) (hs : PlainIx b := by exact fun _ _ => rfl) : PX T X (.Subscript a b pos) (eBin dIx fa fb) :=
  ⟨fun W t => PE.weak (pe_ix (IxR.or ix_tup ix_list) (ha.run W t) (hb.run W t) hs) fun σ H Q h => two (X := X) (ta := tE (wo X T) W fa) (tb := tE (wo X T) W fb) (g := dIx) (fun W σ β H S x y v u Q hs rx ry h => by
    cases y with
    | int i =>
      subst ry
      cases x with
      | tup ds =>
        obtain ⟨p, xs, rfl, h1, l⟩ := rx
        simp only [dIx] at h
        cases e : atI ds i with
        | none => rw [e] at h; exact h.elim
        | some d =>
          rw [e] at h
          obtain ⟨z, h2, h3⟩ := atI_rep l e
          exact .inl ⟨p, xs, i, z, rfl, rfl, h1, h2, post.val h hs h3⟩
      | lst ds =>
        obtain ⟨p, xs, rfl, h1, l⟩ := rx
        simp only [dIx] at h
        cases e : atI ds i with
        | none => rw [e] at h; exact h.elim
        | some d =>
          rw [e] at h
          obtain ⟨z, h2, h3⟩ := atI_rep l e
          exact .inr ⟨p, xs, i, z, rfl, rfl, h1.sq, h2, post.val h hs h3⟩
      | loc n =>
        obtain ⟨p, rfl, h1⟩ := rx
        obtain ⟨ds, xs, e1, h2, l⟩ := hs.get h1
        simp only [dIx, e1] at h
        cases e : atI ds i with
        | none => rw [e] at h; exact h.elim
        | some d =>
          rw [e] at h
          obtain ⟨z, h3, h4⟩ := atI_rep l e
          exact .inr ⟨p, xs, i, z, rfl, rfl, .of h2, h3, post.val h hs h4⟩
      | _ => exact h.elim
    | _ => exact h.elim) W h⟩

/-! ### built-ins -/
theorem px_blt {id : String} {x : Str} {r : List V → Hp → VK → Prop} {g : FN} {p : Pos} (hc : CallR X (.builtin id) r) (hk : CallOk T X r g) (hg : Gl X x) (hm : X.mg x = none) (hv : bootBuiltins x = some (.builtin id)) (ha : PXA T X (e :: es) ga)
    (hn : x ≠ "__name__" := by decide) (hdb : (x == ("__debug__" : Str)) = false := by decide) (he : starEach (e :: es) X.env = (false, eval e X.env) :: starEach es X.env := by rfl) (hpl : (backTo pos (starEach es X.env)).any (·.1) = false := by rfl) :
    PX T X (.Call (.Name x p) (e :: es) [] pos) (eCall g ga) :=
  ⟨fun W t => PE.weak (pe_callB hc hg hm hv (ha.run W t) hn hdb he hpl) fun σ H Q ⟨β, ρ, S, hs, he, h⟩ => tA_bind hs he h fun ds S1 vs β1 H1 x1 k1 e1 r1 q1 => hk W σ β1 H1 S1 ds vs Q k1 r1 q1⟩
theorem px_bty {id : String} {x : Str} {r : List V → Hp → VK → Prop} {g : FN} {p : Pos} (hc : CallR X (.type id) r) (hk : CallOk T X r g) (hg : Gl X x) (hm : X.mg x = none) (hv : bootBuiltins x = some (.type id)) (ha : PXA T X (e :: es) ga)
    (hn : x ≠ "__name__" := by decide) (hdb : (x == ("__debug__" : Str)) = false := by decide) (he : starEach (e :: es) X.env = (false, eval e X.env) :: starEach es X.env := by rfl) (hpl : (backTo pos (starEach es X.env)).any (·.1) = false := by rfl) :
    PX T X (.Call (.Name x p) (e :: es) [] pos) (eCall g ga) :=
  ⟨fun W t => PE.weak (pe_callTy hc hg hm hv (ha.run W t) hn hdb he hpl) fun σ H Q ⟨β, ρ, S, hs, he, h⟩ => tA_bind hs he h fun ds S1 vs β1 H1 x1 k1 e1 r1 q1 => hk W σ β1 H1 S1 ds vs Q k1 r1 q1⟩
theorem RepL.one {w : Wo} {β : Bt} {H : Hp} {d : D} {vs : List V} (l : RepL w β H [d] vs) : ∃ v, vs = [v] ∧ Rep w β H d v := by
  obtain ⟨x, xr, rfl, r, e⟩ := l
  have e' : xr = [] := e
  subst e'
  exact ⟨x, rfl, r⟩
theorem RepL.two {w : Wo} {β : Bt} {H : Hp} {d e : D} {vs : List V} (l : RepL w β H [d, e] vs) : ∃ v u, vs = [v, u] ∧ Rep w β H d v ∧ Rep w β H e u := by
  obtain ⟨x, xr, rfl, r, l⟩ := l
  obtain ⟨u, rfl, r2⟩ := RepL.one l
  exact ⟨x, u, rfl, r, r2⟩
theorem ok_abs : CallOk T X (fun xs H Q => ∃ i, xs = [.int i] ∧ Q (.int (if i < 0 then -i else i)) H) fAbs := fun W σ β H S xs vs Q hs l h => by
  unfold fAbs at h
  split at h
  · obtain ⟨v, rfl, r⟩ := RepL.one l
    exact ⟨_, by rw [show v = _ from r], post.val h hs rfl⟩
  · exact h.elim
theorem ok_int : CallOk T X (fun xs H Q => (∃ i, xs = [.int i] ∧ Q (.int i) H) ∨ ∃ k, xs = [.bl k] ∧ Q (.int (if k then 1 else 0)) H) fInt := fun W σ β H S xs vs Q hs l h => by
  unfold fInt at h
  split at h
  · obtain ⟨v, rfl, r⟩ := RepL.one l
    exact .inl ⟨_, by rw [show v = _ from r], post.val h hs rfl⟩
  · obtain ⟨v, rfl, r⟩ := RepL.one l
    exact .inr ⟨_, by rw [show v = _ from r], post.val h hs rfl⟩
  · exact h.elim
theorem ok_max : CallOk T X (fun xs H Q => ∃ i j, xs = [.int i, .int j] ∧ Q (.int (if j > i then j else i)) H) fMax := fun W σ β H S xs vs Q hs l h => by
  unfold fMax at h
  split at h
  · obtain ⟨v, u, rfl, r, r2⟩ := RepL.two l
    exact ⟨_, _, by rw [show v = _ from r, show u = _ from r2], post.val h hs rfl⟩
  · exact h.elim
theorem ok_min : CallOk T X (fun xs H Q => ∃ i j, xs = [.int i, .int j] ∧ Q (.int (if j < i then j else i)) H) fMin := fun W σ β H S xs vs Q hs l h => by
  unfold fMin at h
  split at h
  · obtain ⟨v, u, rfl, r, r2⟩ := RepL.two l
    exact ⟨_, _, by rw [show v = _ from r, show u = _ from r2], post.val h hs rfl⟩
  · exact h.elim
theorem lenV_of {β : Bt} {H : Hp} {S : Sto} {d : D} {v : V} {n : Nat} (hs : SOk (wo X T) β H S) (r : Rep (wo X T) β H d v) (h : lenD S d = some n) : LenV X.K v H n := by
  cases d with
  | str b =>
    subst r
    have h' : (if b.length ≤ 16777216 then some b.length else none) = some n := h
    by_cases hz : b.length ≤ 16777216
    · rw [if_pos hz] at h'
      cases h'
      exact ⟨le_line hz, rfl⟩
    · rw [if_neg hz] at h'
      cases h'
  | tup b => obtain ⟨a, xs, rfl, h1, l⟩ := r; cases h; exact .inr ⟨xs, h1, l.length⟩
  | lst b => obtain ⟨a, xs, rfl, h1, l⟩ := r; cases h; exact .inl ⟨xs, h1.sq, l.length⟩
  | loc n =>
    obtain ⟨a, rfl, h1⟩ := r
    obtain ⟨ds, xs, h2, h3, l⟩ := hs.get h1
    simp only [lenD, h2, Option.map_some, Option.some.injEq] at h
    subst h
    exact .inl ⟨xs, .of h3, l.length⟩
  | _ => cases h
theorem ok_len : CallOk T X (fun xs H Q => ∃ x n, xs = [x] ∧ LenV X.K x H n ∧ Q (.int n) H) fLen := fun W σ β H S xs vs Q hs l h => by
  unfold fLen at h
  split at h
  · split at h
    · rename_i d n e
      obtain ⟨v, rfl, r⟩ := RepL.one l
      exact ⟨v, n, rfl, lenV_of hs r e, post.val h hs rfl⟩
    · exact h.elim
  · exact h.elim
theorem repL_bools {w : Wo} {β : Bt} {H : Hp} : ∀ (ds : List D) (vs : List V) (bs : List Bool), RepL w β H ds vs → bools ds = some bs → vs = bs.map V.bl
  | [], vs, bs, l, e => by
    have e' : [] = bs := Option.some.inj e
    subst e'
    exact l
  | d :: ds, vs, bs, l, e => by
    obtain ⟨x, xr, rfl, h, l⟩ := l
    cases d with
    | bl b =>
      simp only [bools, Option.map_eq_some_iff] at e
      obtain ⟨cs, e1, rfl⟩ := e
      rw [show x = _ from h, repL_bools ds xr cs l e1]
      rfl
    | _ => cases e
theorem repL_ints {w : Wo} {β : Bt} {H : Hp} : ∀ (ds : List D) (vs : List V) (bs : List Int), RepL w β H ds vs → intsOf ds = some bs → vs = bs.map V.int
  | [], vs, bs, l, e => by
    have e' : [] = bs := Option.some.inj e
    subst e'
    exact l
  | d :: ds, vs, bs, l, e => by
    obtain ⟨x, xr, rfl, h, l⟩ := l
    cases d with
    | int b =>
      simp only [intsOf, Option.map_eq_some_iff] at e
      obtain ⟨cs, e1, rfl⟩ := e
      rw [show x = _ from h, repL_ints ds xr cs l e1]
      rfl
    | _ => cases e
theorem ok_all : CallOk T X (rAll X.K) fAll := fun W σ β H S xs vs Q hs l h => by
  unfold fAll at h
  split at h
  · split at h
    · rename_i ds bs e
      obtain ⟨v, rfl, a, ys, rfl, r, l⟩ := RepL.one l
      exact ⟨a, bs, rfl, by rw [← repL_bools _ _ _ l e]; exact r.sq, post.val h hs rfl⟩
    · exact h.elim
  · exact h.elim
theorem ok_any : CallOk T X (rAny X.K) fAny := fun W σ β H S xs vs Q hs l h => by
  unfold fAny at h
  split at h
  · split at h
    · rename_i ds bs e
      obtain ⟨v, rfl, a, ys, rfl, r, l⟩ := RepL.one l
      exact ⟨a, bs, rfl, by rw [← repL_bools _ _ _ l e]; exact r.sq, post.val h hs rfl⟩
    · exact h.elim
  · exact h.elim
theorem ok_sum : CallOk T X (rSum X.K) fSum := fun W σ β H S xs vs Q hs l h => by
  unfold fSum at h
  split at h
  · split at h
    · rename_i ds bs e
      obtain ⟨v, rfl, a, ys, rfl, r, l⟩ := RepL.one l
      exact ⟨a, bs, rfl, by rw [← repL_ints _ _ _ l e]; exact r.sq, post.val h hs rfl⟩
    · exact h.elim
  · exact h.elim
end
end DL


set_option linter.all false
set_option autoImplicit false
set_option Elab.async false
set_option maxRecDepth 100000
set_option maxHeartbeats 2000000
/-! DLw3: statements, targets, loops, comprehensions, defs and their calls. -/
namespace DL
open PySem PySem.Spec L2
open PyProof.Rows hiding St b2i

/-- behind a statement -/
def postS (w : Wo) (W : WX) (β : Bt) (H : Hp) (r : RS) (D : Ends) : Prop := match r with
  | .nx ρ S => ∀ σ' β' H', Ext β H β' H' → SOk w β' H' S → RepE w β' H' ρ σ' → D.nx σ' H'
  | .bk ρ S => ∀ σ' β' H', Ext β H β' H' → SOk w β' H' S → RepE w β' H' ρ σ' → D.bk σ' H'
  | .ct ρ S => ∀ σ' β' H', Ext β H β' H' → SOk w β' H' S → RepE w β' H' ρ σ' → D.ct σ' H'
  | .rt d S => ∀ v β' H', Ext β H β' H' → SOk w β' H' S → Rep w β' H' d v → D.rt v H'
  | .exc c d ρ S => ∀ C dx v σ' β' H', Ext β H β' H' → SOk w β' H' S → RepE w β' H' ρ σ' → w.mg c = some (.ref C) → H' dx = some (.xd [(("value" : Str), v)]) → Rep w β' H' d v → W (.ref C) (some dx) σ' H'
  | .bad => False
section
variable {w : Wo} {W : WX} {β β' : Bt} {H H' : Hp} {r : RS} {D D' : Ends}
theorem postS.ext (p : postS w W β H r D) (e : Ext β H β' H') : postS w W β' H' r D := by
  cases r with
  | nx ρ S => exact fun σ β2 H2 e2 => p σ β2 H2 (e.trans e2)
  | bk ρ S => exact fun σ β2 H2 e2 => p σ β2 H2 (e.trans e2)
  | ct ρ S => exact fun σ β2 H2 e2 => p σ β2 H2 (e.trans e2)
  | rt d S => exact fun v β2 H2 e2 => p v β2 H2 (e.trans e2)
  | exc c d ρ S => exact fun C dx v σ β2 H2 e2 => p C dx v σ β2 H2 (e.trans e2)
  | bad => exact p
end
def tS (w : Wo) (W : WX) (g : SF) : TS := fun D σ H => ∃ β ρ S, SOk w β H S ∧ RepE w β H ρ σ ∧ postS w W β H (g ρ S) D
section
variable {w : Wo} {W : WX} {σ : St} {β : Bt} {H : Hp} {ρ : Env} {S : Sto} {Y : Ends}
theorem tE_st {f : EF} {g : D → Sto → RS} {Z : VK} (hs : SOk w β H S) (he : RepE w β H ρ σ) (h : postS w W β H ((f ρ S).st ρ g) Y)
    (k : ∀ d S1 v β1 H1, Ext β H β1 H1 → SOk w β1 H1 S1 → RepE w β1 H1 ρ σ → Rep w β1 H1 d v → postS w W β1 H1 (g d S1) Y → Z v H1) : tE w W f σ H Z := by
  refine ⟨β, ρ, S, hs, he, ?_⟩
  cases e : f ρ S with
  | ok d S1 =>
    rw [e] at h
    exact fun v β1 H1 x k1 r => k d S1 v β1 H1 x k1 (he.ext x) r (postS.ext h x)
  | exc c d S1 =>
    rw [e] at h
    exact fun C dx v β1 H1 x k1 => h C dx v σ β1 H1 x k1 (he.ext x)
  | bad => rw [e] at h; exact h
theorem tT_st {f : TF} {g : Bool → Sto → RS} {Z : Bool → Hp → Prop} (hs : SOk w β H S) (he : RepE w β H ρ σ) (h : postS w W β H ((f ρ S).st ρ g) Y)
    (k : ∀ d S1 β1 H1, Ext β H β1 H1 → SOk w β1 H1 S1 → RepE w β1 H1 ρ σ → postS w W β1 H1 (g d S1) Y → Z d H1) : tT w W f σ H Z := by
  refine ⟨β, ρ, S, hs, he, ?_⟩
  cases e : f ρ S with
  | ok d S1 =>
    rw [e] at h
    exact fun β1 H1 x k1 => k d S1 β1 H1 x k1 (he.ext x) (postS.ext h x)
  | exc c d S1 =>
    rw [e] at h
    exact fun C dx v β1 H1 x k1 => h C dx v σ β1 H1 x k1 (he.ext x)
  | bad => rw [e] at h; exact h
theorem tA_st {f : AF} {g : List D → Sto → RS} {Z : List V → Hp → Prop} (hs : SOk w β H S) (he : RepE w β H ρ σ) (h : postS w W β H ((f ρ S).st ρ g) Y)
    (k : ∀ d S1 v β1 H1, Ext β H β1 H1 → SOk w β1 H1 S1 → RepE w β1 H1 ρ σ → RepL w β1 H1 d v → postS w W β1 H1 (g d S1) Y → Z v H1) : tA w W f σ H Z := by
  refine ⟨β, ρ, S, hs, he, ?_⟩
  cases e : f ρ S with
  | ok d S1 =>
    rw [e] at h
    exact fun v β1 H1 x k1 r => k d S1 v β1 H1 x k1 (he.ext x) r (postS.ext h x)
  | exc c d S1 =>
    rw [e] at h
    exact fun C dx v β1 H1 x k1 => h C dx v σ β1 H1 x k1 (he.ext x)
  | bad => rw [e] at h; exact h
theorem postS.nx_ (h : postS w W β H (.nx ρ S) Y) (hs : SOk w β H S) (he : RepE w β H ρ σ) : Y.nx σ H := h σ β H (.refl _ _) hs he
end
structure PXS (T : List (Addr × Str)) (X : Cx) (s : Stmt) (g : SF) : Prop where
  run : ∀ W, Takes X W → PS X s (tS (wo X T) W g)
structure PXSs (T : List (Addr × Str)) (X : Cx) (s : List Stmt) (g : SF) : Prop where
  run : ∀ W, Takes X W → PSs X s (tS (wo X T) W g)
/-- a target's reading: the slots out of ws stay -/
def Outof (ws : List Nat) (σ σ' : St) : Prop := σ'.length = σ.length ∧ ∀ i, i ∉ ws → σ'[i]? = σ[i]?
def tG (w : Wo) (g : TgF) (ws : List Nat) : TG := fun v σ H Q => ∃ β d ρ ρ', Rep w β H d v ∧ RepE w β H ρ σ ∧ g d ρ = some ρ' ∧ ∀ σ', RepE w β H ρ' σ' → Outof ws σ σ' → Q σ' H
def tGs (w : Wo) (g : TgsF) (ws : List Nat) : TGs := fun v σ H Q => ∃ β d ρ ρ', RepL w β H d v ∧ RepE w β H ρ σ ∧ g d ρ = some ρ' ∧ ∀ σ', RepE w β H ρ' σ' → Outof ws σ σ' → Q σ' H
structure PXG (T : List (Addr × Str)) (X : Cx) (tg : Expr) (g : TgF) (ws : List Nat) : Prop where
  run : PG X tg (tG (wo X T) g ws)
structure PXGs (T : List (Addr × Str)) (X : Cx) (tg : List Expr) (g : TgsF) (ws : List Nat) : Prop where
  run : PGs X tg (tGs (wo X T) g ws)
theorem PG.weak {X : Cx} {e : Expr} {t t' : TG} (h : PG X e t) (k : ∀ v σ H Q, t' v σ H Q → t v σ H Q) : PG X e t' := ⟨fun pins s σ H v u Q I r q => h.run pins s σ H v u Q I r (k v σ H Q q)⟩
theorem PGs.weak {X : Cx} {e : List Expr} {t t' : TGs} (h : PGs X e t) (k : ∀ v σ H Q, t' v σ H Q → t v σ H Q) : PGs X e t' := ⟨fun pins s σ H v u Q I r q => h.run pins s σ H v u Q I r (k v σ H Q q)⟩

section
variable {T : List (Addr × Str)} {X : Cx} {a b c e : Expr} {fa fb fc : EF} {ta : TF} {ga gb : SF} {pos : Pos} {st : Stmt} {rest sa sb : List Stmt}

/-! ### blocks -/
theorem pxs_nil : PXSs T X [] sNil := ⟨fun W t => PSs.weak pss_nil fun D σ H ⟨β, ρ, S, hs, he, h⟩ => h.nx_ hs he⟩
theorem pxs_cons (h1 : PXS T X st ga) (h2 : PXSs T X rest gb) : PXSs T X (st :: rest) (sSeq ga gb) :=
  ⟨fun W t => PSs.weak (pss_cons (h1.run W t) (h2.run W t)) fun D σ H ⟨β, ρ, S, hs, he, h⟩ => by
    refine ⟨β, ρ, S, hs, he, ?_⟩
    unfold sSeq at h
    cases q : ga ρ S with
    | nx ρ1 S1 => rw [q] at h; exact fun σ' β' H' x k r => ⟨β', ρ1, S1, k, r, postS.ext h x⟩
    | bk ρ1 S1 => rw [q] at h; exact h
    | ct ρ1 S1 => rw [q] at h; exact h
    | rt d S1 => rw [q] at h; exact h
    | exc c d ρ1 S1 => rw [q] at h; exact h
    | bad => rw [q] at h; exact h⟩
theorem pxs_one (h1 : PXS T X st ga) : PXSs T X [st] ga := ⟨fun W t => pss_one (h1.run W t)⟩
theorem px_doc {x : Str} {j : Nat} {pos' : Pos} : PXS T X (.Expr (.Constant (.str x) j pos) pos') sNil := ⟨fun W t => PS.weak ps_doc fun D σ H ⟨β, ρ, S, hs, he, h⟩ => h.nx_ hs he⟩
theorem px_pass : PXS T X (.Pass pos) sNil := ⟨fun W t => PS.weak ps_pass fun D σ H ⟨β, ρ, S, hs, he, h⟩ => h.nx_ hs he⟩
theorem px_break : PXS T X (.Break pos) sBreak := ⟨fun W t => PS.weak ps_break fun D σ H ⟨β, ρ, S, hs, he, h⟩ => h σ β H (.refl _ _) hs he⟩
theorem px_continue : PXS T X (.Continue pos) sCont := ⟨fun W t => PS.weak ps_continue fun D σ H ⟨β, ρ, S, hs, he, h⟩ => h σ β H (.refl _ _) hs he⟩
theorem px_expr (ha : PX T X e fa) (hs : swapsWith e none pos.line X.env = pure false := by rfl) : PXS T X (.Expr e pos) (sExpr fa) :=
  ⟨fun W t => PS.weak (ps_expr (ha.run W t) hs) fun D σ H ⟨β, ρ, S, hs, he, h⟩ => tE_st hs he h fun d S1 v β1 H1 x1 k1 e1 r1 q1 => q1.nx_ k1 e1⟩
theorem px_ret (ha : PX T X e fa) : PXS T X (.Return (some e) pos) (sRet fa) :=
  ⟨fun W t => PS.weak (ps_ret (ha.run W t)) fun D σ H ⟨β, ρ, S, hs, he, h⟩ => tE_st hs he h fun d S1 v β1 H1 x1 k1 e1 r1 q1 => q1 v β1 H1 (.refl _ _) k1 r1⟩
theorem px_retN : PXS T X (.Return none pos) sRetN := ⟨fun W t => PS.weak ps_retN fun D σ H ⟨β, ρ, S, hs, he, h⟩ => h .non β H (.refl _ _) hs rfl⟩
theorem px_if {t : Expr} (hc : PXT T X t ta) (ha : PXSs T X sa ga) (hb : PXSs T X sb gb) : PXS T X (.If t sa sb pos) (sIf ta ga gb) :=
  ⟨fun W t => PS.weak (ps_if (hc.run W t) (ha.run W t) (hb.run W t)) fun D σ H ⟨β, ρ, S, hs, he, h⟩ => tT_st hs he h fun d S1 β1 H1 x1 k1 e1 q1 => by
    cases d with
    | true => simp only [if_true]; exact ⟨β1, ρ, S1, k1, e1, q1⟩
    | false => simp only [Bool.false_eq_true, if_false]; exact ⟨β1, ρ, S1, k1, e1, q1⟩⟩
theorem px_never : PXS T X st sNever := ⟨fun W t => PS.weak ps_never fun D σ H ⟨β, ρ, S, hs, he, h⟩ => h⟩
theorem pxs_never : PXSs T X sa sNever := ⟨fun W t => PSs.weak pss_never fun D σ H ⟨β, ρ, S, hs, he, h⟩ => h⟩

/-! ### targets, assignments -/
theorem pxg_name (i : Nat) {x : Str} (hN : X.N.Nodup) (hi : X.N[i]? = some x := by rfl) (hx : Loc X.env.scope x := by first | exact Or.inl rfl | exact Or.inr rfl) (hf : X.fn x = true ∨ X.env.scope.names.lookup x = some .local := by first | exact .inl rfl | exact .inr rfl | assumption) : PXG T X (.Name x pos) (gSet i) [i] :=
  ⟨PG.weak (pg_name hN hi hx hf) fun v σ H Q ⟨β, d, ρ, ρ', r, he, e, k⟩ => by
    cases e
    exact k _ (he.set r i) ⟨by simp, fun j hj => List.getElem?_set_ne (fun z => hj (by rw [z]; exact List.mem_singleton.mpr rfl))⟩⟩
theorem pxgs_nil : PXGs T X [] gsNil [] := ⟨PGs.weak pgs_nil fun v σ H Q ⟨β, d, ρ, ρ', r, he, e, k⟩ => by
  cases d with
  | nil => cases e; exact ⟨r, k _ he ⟨rfl, fun _ _ => rfl⟩⟩
  | cons x xs => cases e⟩
theorem pxgs_cons {es : List Expr} {g : TgF} {gs : TgsF} {ws us : List Nat} (h1 : PXG T X e g ws) (h2 : PXGs T X es gs us) (hs : (assignEach (e :: es) X.env).map (·.2) = assign e X.env :: (assignEach es X.env).map (·.2) := by rfl) : PXGs T X (e :: es) (gsCons g gs) (ws ++ us) := by
  refine ⟨PGs.weak (pgs_cons h1.run h2.run hs) fun v σ H Q ⟨β, d, ρ, ρ', r, he, e, k⟩ => ?_⟩
  cases d with
  | nil => cases e
  | cons x xs =>
    obtain ⟨z, zr, rfl, r1, r2⟩ := r
    simp only [gsCons, Option.bind_eq_some_iff] at e
    obtain ⟨ρ1, e1, e2⟩ := e
    refine ⟨z, zr, rfl, β, x, ρ, ρ1, r1, he, e1, fun σ1 he1 o1 => ⟨β, xs, ρ1, ρ', r2, he1, e2, fun σ2 he2 o2 => k σ2 he2 ⟨o2.1.trans o1.1, fun i hi => ?_⟩⟩⟩
    rw [List.mem_append, not_or] at hi
    exact (o2.2 i hi.2).trans (o1.2 i hi.1)
theorem pxg_tup {es : List Expr} {k : Nat} {gs : TgsF} {n : Nat} {ws : List Nat} (hc : X.calm = true) (h : PXGs T X es gs ws) (hl : ∀ ds ρ ρ', gs ds ρ = some ρ' → ds.length = n)
    (hn : (assignEach es X.env).length = n := by rfl) (hst : (assignEach es X.env).findIdx? (·.1) = none := by rfl) : PXG T X (.Tuple es k pos) (gTupD gs) ws :=
  ⟨PG.weak (pg_tup hc h.run hn hst) fun v σ H Q ⟨β, d, ρ, ρ', r, he, e, k⟩ => by
    cases d with
    | tup ds =>
      obtain ⟨a, xs, rfl, h1, l⟩ := r
      exact ⟨a, xs, rfl, h1, by rw [← l.length]; exact hl ds ρ ρ' e, β, ds, ρ, ρ', l, he, e, k⟩
    | _ => cases e⟩
theorem gsl_nil : ∀ ds ρ ρ', gsNil ds ρ = some ρ' → ds.length = 0 := fun ds ρ ρ' e => by
  cases ds with
  | nil => rfl
  | cons x xs => cases e
theorem gsl_cons {g : TgF} {gs : TgsF} {n : Nat} (h : ∀ ds ρ ρ', gs ds ρ = some ρ' → ds.length = n) : ∀ ds ρ ρ', gsCons g gs ds ρ = some ρ' → ds.length = n + 1 := fun ds ρ ρ' e => by
  cases ds with
  | nil => cases e
  | cons x xs =>
    simp only [gsCons, Option.bind_eq_some_iff] at e
    obtain ⟨ρ1, _, e2⟩ := e
    rw [List.length_cons, h xs ρ1 ρ' e2]
theorem px_set (i : Nat) {x : Str} {pos' : Pos} (hN : X.N.Nodup) (he : PX T X e fa) (hi : X.N[i]? = some x := by rfl) (hx : Loc X.env.scope x := by first | exact Or.inl rfl | exact Or.inr rfl) (hs : swapsWith e (some (.Name x pos')) pos.line X.env = pure false := by rfl)
    (hf : X.fn x = true ∨ X.env.scope.names.lookup x = some .local := by first | exact .inl rfl | exact .inr rfl | assumption) : PXS T X (.Assign [.Name x pos'] e pos) (sSet i fa) :=
  ⟨fun W t => PS.weak (ps_set hN hi hx (he.run W t) hs hf) fun D σ H ⟨β, ρ, S, hs, he, h⟩ => tE_st hs he h fun d S1 v β1 H1 x1 k1 e1 r1 q1 => q1.nx_ k1 (e1.set r1 i)⟩
theorem px_asg {tg : Expr} {g : TgF} {ws : List Nat} (he : PX T X e fa) (hg : PXG T X tg g ws) (hs : swapsWithSole [tg] e pos.line X.env = pure false := by rfl) (hw : swappedStores [tg] e X.env = pure none := by rfl)
    (h1 : (assignEach [tg] X.env).map (·.2) = [assign tg X.env] := by rfl) : PXS T X (.Assign [tg] e pos) (sAsg g fa) :=
  ⟨fun W t => PS.weak (ps_asg (he.run W t) hg.run hs hw h1) fun D σ H ⟨β, ρ, S, hs, he, h⟩ => tE_st hs he h fun d S1 v β1 H1 x1 s1 e1 r1 q1 => by
    cases q : g d ρ with
    | none => rw [q] at q1; exact q1.elim
    | some ρ' =>
      rw [q] at q1
      exact ⟨β1, d, ρ, ρ', r1, e1, q, fun σ' he' _ => q1.nx_ s1 he'⟩⟩
theorem px_par (i j : Nat) {x y : Str} {px py pt pt2 : Pos} {kt k2 : Nat} {ga : AF} (hc : X.calm = true) (hN : X.N.Nodup) (hij : i ≠ j) (ha : PXA T X [a, b] ga) (hi : X.N[i]? = some x := by rfl) (hj : X.N[j]? = some y := by rfl)
    (hx : X.env.scope.names.lookup x = some .local := by rfl) (hy : X.env.scope.names.lookup y = some .local := by rfl)
    (hw : swappedStores [.Tuple [.Name x px, .Name y py] kt pt] (.Tuple [a, b] k2 pt2) X.env = pure (some [x, y]) := by rfl)
    (hs : swapsWithSole [.Tuple [.Name x px, .Name y py] kt pt] (.Tuple [a, b] k2 pt2) pos.line X.env = pure false := by rfl) :
    PXS T X (.Assign [.Tuple [.Name x px, .Name y py] kt pt] (.Tuple [a, b] k2 pt2) pos) (sPar i j ga) :=
  ⟨fun W t => PS.weak (ps_par hc hN hi hj hij hx hy (ha.run W t) hw hs) fun D σ H ⟨β, ρ, S, hs, he, h⟩ => tA_st hs he h fun ds S1 vs β1 H1 x1 k1 e1 r1 q1 => by
    match ds, r1, q1 with
    | [d1, d2], r1, q1 =>
      obtain ⟨v, u, rfl, r, r'⟩ := RepL.two r1
      exact ⟨v, u, rfl, q1.nx_ k1 ((e1.set r i).set r' j)⟩
    | [], _, q1 => exact q1.elim
    | [_], _, q1 => exact q1.elim
    | _ :: _ :: _ :: _, _, q1 => exact q1.elim⟩
theorem RepL.three {w : Wo} {β : Bt} {H : Hp} {d e f : D} {vs : List V} (l : RepL w β H [d, e, f] vs) : ∃ v u z, vs = [v, u, z] ∧ Rep w β H d v ∧ Rep w β H e u ∧ Rep w β H f z := by
  obtain ⟨x, xr, rfl, r, l⟩ := l
  obtain ⟨u, z, rfl, r2, r3⟩ := RepL.two l
  exact ⟨x, u, z, rfl, r, r2, r3⟩
theorem px_par3 (i j l : Nat) {x y z : Str} {px py pz pt pt2 : Pos} {kt k2 : Nat} {ga : AF} (hc : X.calm = true) (hN : X.N.Nodup) (hij : i ≠ j) (hil : i ≠ l) (hjl : j ≠ l) (ha : PXA T X [a, b, c] ga) (hi : X.N[i]? = some x := by rfl) (hj : X.N[j]? = some y := by rfl) (hl : X.N[l]? = some z := by rfl)
    (hx : X.env.scope.names.lookup x = some .local := by rfl) (hy : X.env.scope.names.lookup y = some .local := by rfl) (hz : X.env.scope.names.lookup z = some .local := by rfl)
    (hw : swappedStores [.Tuple [.Name x px, .Name y py, .Name z pz] kt pt] (.Tuple [a, b, c] k2 pt2) X.env = pure (some [x, y, z]) := by rfl)
    (hs : swapsWithSole [.Tuple [.Name x px, .Name y py, .Name z pz] kt pt] (.Tuple [a, b, c] k2 pt2) pos.line X.env = pure false := by rfl) :
    PXS T X (.Assign [.Tuple [.Name x px, .Name y py, .Name z pz] kt pt] (.Tuple [a, b, c] k2 pt2) pos) (sPar3 i j l ga) :=
  ⟨fun W t => PS.weak (ps_par3 hc hN hi hj hl hij hil hjl hx hy hz (ha.run W t) hw hs) fun D σ H ⟨β, ρ, S, hs, he, h⟩ => tA_st hs he h fun ds S1 vs β1 H1 x1 k1 e1 r1 q1 => by
    match ds, r1, q1 with
    | [d1, d2, d3], r1, q1 =>
      obtain ⟨v, u, z, rfl, r, r', r''⟩ := RepL.three r1
      exact ⟨v, u, z, rfl, q1.nx_ k1 (((e1.set r i).set r' j).set r'' l)⟩
    | [], _, q1 => exact q1.elim
    | [_], _, q1 => exact q1.elim
    | [_, _], _, q1 => exact q1.elim
    | _ :: _ :: _ :: _ :: _, _, q1 => exact q1.elim⟩
/-- name op= e -/
theorem px_aug (i : Nat) {x : Str} {op : Operator} {ti : TIp} {g : D → D → Sto → R D} {pos' : Pos} (hN : X.N.Nodup) (he : PX T X e fa) (ho : PIp X op ti) (hr : BinOk T X ti g) (hi : X.N[i]? = some x := by rfl) (hx : Loc X.env.scope x := by first | exact Or.inl rfl | exact Or.inr rfl)
    (hf : X.fn x = true ∨ X.env.scope.names.lookup x = some .local := by first | exact .inl rfl | exact .inr rfl | assumption) : PXS T X (.AugAssign (.Name x pos') op e pos) (sAug i g fa) :=
  ⟨fun W t => PS.weak (ps_aug hN hi hx (he.run W t) ho hf) fun D σ H ⟨β, ρ, S, hs, he, h⟩ => by
    unfold sAug at h
    cases q : ρ[i]? with
    | none => rw [q] at h; exact h.elim
    | some o =>
      cases o with
      | none => rw [q] at h; exact h.elim
      | some d0 =>
        rw [q] at h
        obtain ⟨v0, h1, h2⟩ := he.2 i d0 q
        refine ⟨v0, h1, tE_st hs he h fun d S1 v β1 H1 x1 k1 e1 r1 q1 => ?_⟩
        refine hr W σ β1 H1 S1 d0 d v0 v _ k1 (Rep.ext x1 d0 v0 h2) r1 ?_
        cases q2 : g d0 d S1 with
        | ok z S2 =>
          rw [q2] at q1
          exact fun u β2 H2 x2 k2 r2 => (postS.ext q1 x2).nx_ k2 ((e1.ext x2).set r2 i)
        | exc c' v' S2 =>
          rw [q2] at q1
          exact fun C dx u β2 H2 x2 k2 => q1 C dx u σ β2 H2 x2 k2 (e1.ext x2)
        | bad => rw [q2] at q1; exact q1⟩
/-- a list of the store changes -/
theorem Ext.chg {β : Bt} {H : Hp} {p : Addr} {xs ys : List V} (h : H p = some (.lst xs)) (hp : p ∈ β.l) : Ext β H β (upd H p (.lst ys)) :=
  ⟨⟨⟨[], by simp, fun _ z => nomatch z⟩, fun _ h => .inl h, fun a o e n1 n2 => by
    have ne : a ≠ p := fun z => by
      rw [z, h] at e
      exact n1 xs (Option.some.inj e).symm
    rw [upd_ne ne]; exact e, fun a zs e n => by
    have ne : a ≠ p := fun z => n (z ▸ hp)
    rw [upd_ne ne]; exact e, fun a n o e => by
    by_cases z : a = p
    · obtain ⟨ps, q⟩ := n (.lst ys) (by rw [z, upd_same])
      cases q
    · exact n o (by rw [upd_ne z]; exact e)⟩, rfl⟩
theorem TabS.chg {H : Hp} {P p : Addr} {q : Str} {xs ys : List V} (t : LamX.TabS H P q) (h : H p = some (.lst xs)) : LamX.TabS (upd H p (.lst ys)) P q := by
  obtain ⟨ps, h1, h2, h3⟩ := t
  have ne : P ≠ p := fun z => by
    rw [z, h] at h1
    cases h1
  refine ⟨ps, by rw [upd_ne ne]; exact h1, h2, fun pos cv hc => ?_⟩
  obtain ⟨c, e1, e2⟩ := h3 pos cv hc
  refine ⟨c, e1, ?_⟩
  have ne2 : c ≠ p := fun z => by
    rw [z, h] at e2
    unfold LamX.CodeO at e2
    cases e2
  rw [upd_ne ne2]; exact e2
theorem SOk.chg {w : Wo} {β : Bt} {H : Hp} {S : Sto} {n : Nat} {p : Addr} {xs ys : List V} {ds : List D} (k : SOk w β H S) (hn : β.l[n]? = some p) (h : H p = some (.lst xs)) (r : RepL w β H ds ys) : SOk w β (upd H p (.lst ys)) (S.set n ds) := by
  have x : Ext β H β (upd H p (.lst ys)) := Ext.chg h (List.mem_of_getElem? hn)
  refine ⟨fun q hq => TabS.chg (k.tabs q hq) h, k.nodup, fun a ha => ⟨(k.hid a ha).1.imp fun zs e => x.lsts a zs e (k.hid a ha).2, (k.hid a ha).2⟩, by rw [List.length_set]; exact k.len, fun m a es e1 e2 => ?_⟩
  by_cases hm : n = m
  · subst hm
    have ea : p = a := Option.some.inj (hn.symm.trans e1)
    subst ea
    have hl : n < S.length := by
      have := (List.getElem?_eq_some_iff.mp e2).1
      simpa using this
    rw [List.getElem?_set_self hl] at e2
    cases e2
    exact ⟨ys, upd_same, RepL.ext x _ ys r⟩
  · rw [List.getElem?_set_ne hm] at e2
    obtain ⟨zs, h1, h2⟩ := k.at_ m a es e1 e2
    have ne : a ≠ p := fun z => by
      subst z
      exact hm ((List.getElem?_inj (List.getElem?_eq_some_iff.mp hn).1 k.nodup).mp (hn.trans e1.symm))
    exact ⟨zs, by rw [upd_ne ne]; exact h1, RepL.ext x es zs h2⟩
theorem px_sub_set {o i : Expr} {fo fi : EF} {p1 : Pos} (he : PX T X e fa) (ho : PX T X o fo) (hi : PX T X i fi) (hs : swapsWithSole [.Subscript o i p1] e pos.line X.env = pure false := by rfl) (hw : swappedStores [.Subscript o i p1] e X.env = pure none := by rfl)
    (h1 : (assignEach [.Subscript o i p1] X.env).map (·.2) = [assign (.Subscript o i p1) X.env] := by rfl)
    (has : ∀ v, assign (.Subscript o i p1) X.env v = (do
      let ov ← holding [v] (eval o X.env)
      let iv ← holding [v, ov] (eval i X.env)
      standAt p1
      holding [v, ov, iv] (setItem ov iv v)
      release [v, ov, iv] []) := by intro _; rfl) : PXS T X (.Assign [.Subscript o i p1] e pos) (sSub fo fi fa) :=
  ⟨fun W t => PS.weak (ps_asg (he.run W t) (pg_sub (ho.run W t) (hi.run W t) set_list has) hs hw h1) fun D σ H ⟨β, ρ, S, hs, he, h⟩ => tE_st hs he h fun d S1 v β1 H1 x1 k1 e1 r1 q1 =>
    tE_st k1 e1 q1 fun d2 S2 v2 β2 H2 x2 k2 e2 r2 q2 => tE_st k2 e2 q2 fun d3 S3 v3 β3 H3 x3 k3 e3 r3 q3 => by
      have r1' := Rep.ext (x2.trans x3).toExtW d v r1
      have r2' := Rep.ext x3.toExtW d2 v2 r2
      cases d2 with
      | loc n =>
        cases d3 with
        | int k =>
          obtain ⟨p, rfl, hn⟩ := r2'
          obtain ⟨ds, xs, g1, g2, l⟩ := k3.get hn
          simp only [setD, g1] at q3
          cases g3 : ixN ds.length k with
          | none => rw [g3] at q3; exact q3.elim
          | some j =>
            rw [g3] at q3
            exact ⟨p, xs, k, j, rfl, r3, g2, by rw [← l.length]; exact g3, q3 σ β3 _ (.chg g2 (List.mem_of_getElem? hn)) (k3.chg hn g2 (RepL.set r1' j l)) (e3.ext (Ext.chg g2 (List.mem_of_getElem? hn)).toExtW)⟩
        | _ => exact q3.elim
      | _ => cases d3 <;> exact q3.elim⟩

/-! ### while -/
theorem px_while {t : Expr} {body : List Stmt} (hp : PassesOwn (model X.prog X.w) X.A X.env X.xe) (hc : PXT T X t ta) (hb : PXSs T X body ga) : PXS T X (.While t body [] pos) (sWhile ta ga) :=
  ⟨fun W tk => PS.weak (ps_while hp (hc.run W tk) (hb.run W tk)) fun D σ H ⟨β, ρ, S, hs, he, h⟩ => by
    have hne : sWhile ta ga ρ S ≠ .bad := fun z => by rw [z] at h; exact h
    obtain ⟨n, hn⟩ := sWhile_some hne
    rw [← hn] at h
    refine ⟨fun m σ H => ∃ β ρ S, SOk (wo X T) β H S ∧ RepE (wo X T) β H ρ σ ∧ postS (wo X T) W β H (wIter ta ga m ρ S) D, ⟨n, β, ρ, S, hs, he, h⟩, fun m σ1 H1 ⟨β1, ρ1, S1, k1, e1, q1⟩ => ?_⟩
    cases m with
    | zero => exact q1.elim
    | succ m =>
      unfold wIter at q1
      refine tT_st k1 e1 q1 fun d S2 β2 H2 x2 k2 e2 q2 => ?_
      cases d with
      | false => simp only [Bool.false_eq_true, if_false]; exact q2.nx_ k2 e2
      | true =>
        simp only [if_true]
        refine ⟨fun σ' H' => ∃ β ρ S, SOk (wo X T) β H' S ∧ RepE (wo X T) β H' ρ σ' ∧ postS (wo X T) W β H' (wIter ta ga m ρ S) D, fun σ' H' z => ⟨m, Nat.lt_succ_self m, z⟩, β2, ρ1, S2, k2, e2, ?_⟩
        simp only at q2
        cases q3 : ga ρ1 S2 with
        | nx ρ3 S3 => rw [q3] at q2; exact fun σ3 β3 H3 x3 k3 e3 => ⟨β3, ρ3, S3, k3, e3, postS.ext q2 x3⟩
        | ct ρ3 S3 => rw [q3] at q2; exact fun σ3 β3 H3 x3 k3 e3 => ⟨β3, ρ3, S3, k3, e3, postS.ext q2 x3⟩
        | bk ρ3 S3 => rw [q3] at q2; exact q2
        | rt d3 S3 => rw [q3] at q2; exact q2
        | exc c3 d3 ρ3 S3 => rw [q3] at q2; exact q2
        | bad => rw [q3] at q2; exact q2⟩
end

/-! ### what is walked -/
/-- the turns of J yield what ds stands for, whatever new comes in between -/
structure Walks (w : Wo) (J : It) (β : Bt) (H : Hp) (ds : List D) : Prop where
  go : ∀ (i : Nat) (d : D), ds[i]? = some d → ∀ β' H', ExtW β H β' H' → J.go i H'
  yld : ∀ (i : Nat) (d : D), ds[i]? = some d → ∀ β' H', ExtW β H β' H' → ∀ x H'', J.yld i H' x H'' → Same H' H'' ∧ Rep w β' H'' d x
  stop : ∀ β' H', ExtW β H β' H' → J.stop ds.length H'
theorem SOk.same {w : Wo} {β : Bt} {H H' : Hp} {S : Sto} (k : SOk w β H S) (h : Same H H') : SOk w β H' S :=
  ⟨k.tabs.ext h, k.nodup, fun a ha => ⟨(k.hid a ha).1.imp fun xs e => h _ _ e, (k.hid a ha).2⟩, k.len, fun n a ds e1 e2 => by
    obtain ⟨xs, h1, h2⟩ := k.at_ n a ds e1 e2
    exact ⟨xs, h _ _ h1, RepL.ext (Ext.same h).toExtW ds xs h2⟩⟩
theorem Walks.ext {w : Wo} {J : It} {β β' : Bt} {H H' : Hp} {ds : List D} (k : Walks w J β H ds) (e : ExtW β H β' H') : Walks w J β' H' ds :=
  ⟨fun i d q β2 H2 e2 => k.go i d q β2 H2 (e.trans e2), fun i d q β2 H2 e2 => k.yld i d q β2 H2 (e.trans e2), fun β2 H2 e2 => k.stop β2 H2 (e.trans e2)⟩
/-- the same for a heap in which one more list may change, that was not there -/
def postI (w : Wo) (W : WX) (σ : St) (β : Bt) (H : Hp) (r : R (List D)) (Z : It → Hp → Prop) : Prop := match r with
  | .ok ds S => ∀ J β' H', Ext β H β' H' → SOk w β' H' S → Walks w J β' H' ds → Z J H'
  | .exc c d S => ∀ C dx v β' H', Ext β H β' H' → SOk w β' H' S → w.mg c = some (.ref C) → H' dx = some (.xd [(("value" : Str), v)]) → Rep w β' H' d v → W (.ref C) (some dx) σ H'
  | .bad => False
def tI (w : Wo) (W : WX) (it : AF) : TI := fun σ H Z => ∃ β ρ S, SOk w β H S ∧ RepE w β H ρ σ ∧ postI w W σ β H (it ρ S) Z
structure PXI (T : List (Addr × Str)) (X : Cx) (tg iter : Expr) (it : AF) : Prop where
  run : ∀ W, Takes X W → PI X tg iter (tI (wo X T) W it)
theorem PI.weak {X : Cx} {tg e : Expr} {t t' : TI} (h : PI X tg e t) (k : ∀ σ H Z, t' σ H Z → t σ H Z) : PI X tg e t' := ⟨fun pins s σ H Z I q => h.run pins s σ H Z I (k σ H Z q)⟩
section
variable {T : List (Addr × Str)} {X : Cx} {tg a b e : Expr} {fa : EF} {pos : Pos}
theorem walks_lst {w : Wo} {β : Bt} {H : Hp} {p : Addr} {xs : List V} {ds : List D} (h : FzL w.K β H p xs) (l : RepL w β H ds xs) : Walks w (Itl w.K p) β H ds :=
  ⟨fun i d q β' H' x => by
    obtain ⟨v, h1, _⟩ := l.get q
    exact ⟨xs, v, (x.fz h).sq, h1⟩, fun i d q β' H' x v H'' y => by
    obtain ⟨e, y⟩ := y
    subst e
    obtain ⟨u, h1, h2⟩ := l.get q
    have e2 : some u = some v := h1.symm.trans (y xs (x.fz h).sq)
    rw [← Option.some.inj e2]
    exact ⟨fun _ _ z => z, Rep.ext x d u h2⟩, fun β' H' x => ⟨xs, (x.fz h).sq, by rw [l.length]; exact Nat.le_refl _⟩⟩
theorem rngL_get : ∀ (n : Nat) (lo : Int) (i : Nat) (d : D), (rngL lo n)[i]? = some d → i < n ∧ d = .int (lo + i)
  | 0, _, _, _, e => by simp [rngL] at e
  | n + 1, lo, 0, d, e => by
    simp [rngL] at e
    exact ⟨by omega, by rw [← e]; simp⟩
  | n + 1, lo, i + 1, d, e => by
    simp only [rngL, List.getElem?_cons_succ] at e
    obtain ⟨h1, h2⟩ := rngL_get n (lo + 1) i d e
    exact ⟨by omega, by rw [h2]; congr 1; omega⟩
theorem rngL_length : ∀ (n : Nat) (lo : Int), (rngL lo n).length = n
  | 0, _ => rfl
  | n + 1, lo => by simp [rngL, rngL_length n]
theorem walks_rng {w : Wo} {β : Bt} {H : Hp} {lo : Int} {n : Nat} : Walks w (Itr lo n) β H (rngL lo n) :=
  ⟨fun i d q β' H' x => (rngL_get n lo i d q).1, fun i d q β' H' x v H'' y => by
    obtain ⟨e, y⟩ := y
    subst e
    subst y
    rw [(rngL_get n lo i d q).2]
    exact ⟨fun _ _ z => z, rfl⟩, fun β' H' x => by rw [rngL_length]; exact Nat.le_refl n⟩
/-- a tuple -/
theorem pxi_tup (ha : PX T X a fa) : PXI T X tg a (wTup fa) := ⟨fun W t => PI.weak (pi_tup (ha.run W t)) fun σ H Z ⟨β, ρ, S, hs, he, h⟩ => by
  refine ⟨β, ρ, S, hs, he, ?_⟩
  unfold wTup at h
  cases q : fa ρ S with
  | ok d S1 =>
    rw [q] at h
    cases d with
    | tup ds =>
      intro v β1 H1 x1 k1 r1
      obtain ⟨p, xs, rfl, h1, l⟩ := r1
      exact ⟨p, rfl, ⟨xs, h1⟩, h _ β1 H1 x1 k1 ⟨fun i d q β' H' x => by
        obtain ⟨v, g1, _⟩ := l.get q
        exact ⟨xs, v, x.tup h1, g1⟩, fun i d q β' H' x v H'' y => by
        obtain ⟨e, y⟩ := y
        subst e
        obtain ⟨u, g1, g2⟩ := l.get q
        have e2 : some u = some v := g1.symm.trans (y xs (x.tup h1))
        rw [← Option.some.inj e2]
        exact ⟨fun _ _ z => z, Rep.ext x d u g2⟩, fun β' H' x => ⟨xs, x.tup h1, by rw [l.length]; exact Nat.le_refl _⟩⟩⟩
    | _ => exact h.elim
  | exc c d S1 => rw [q] at h; exact h
  | bad => rw [q] at h; exact h⟩
/-- a list that is never changed -/
theorem pxi_lst (ha : PX T X a fa) : PXI T X tg a (wLst fa) := ⟨fun W t => PI.weak (pi_list (ha.run W t)) fun σ H Z ⟨β, ρ, S, hs, he, h⟩ => by
  refine ⟨β, ρ, S, hs, he, ?_⟩
  unfold wLst at h
  cases q : fa ρ S with
  | ok d S1 =>
    rw [q] at h
    cases d with
    | lst ds =>
      intro v β1 H1 x1 k1 r1
      obtain ⟨p, xs, rfl, h1, l⟩ := r1
      exact ⟨p, rfl, ⟨xs, h1.sq⟩, h _ β1 H1 x1 k1 (walks_lst (w := wo X T) h1 l)⟩
    | _ => exact h.elim
  | exc c d S1 => rw [q] at h; exact h
  | bad => rw [q] at h; exact h⟩
theorem pxi_range1 {p : Pos} {ga : AF} (hg : Gl X "range") (hm : X.mg "range" = none) (ha : PXA T X [a] ga) (hs : starEach [a] X.env = [(false, eval a X.env)] := by rfl) : PXI T X tg (.Call (.Name "range" p) [a] [] pos) (fRange1 ga) :=
  ⟨fun W t => PI.weak (pi_range1 hg hm (ha.run W t) hs) fun σ H Z ⟨β, ρ, S, hs, he, h⟩ => by
    refine ⟨β, ρ, S, hs, he, ?_⟩
    unfold fRange1 at h
    cases q : ga ρ S with
    | ok ds S1 =>
      rw [q] at h
      simp only [bind_ok] at h
      intro vs β1 H1 x1 k1 r1
      split at h
      · rename_i j
        obtain ⟨v, rfl, r⟩ := RepL.one r1
        split at h
        · rename_i hj
          refine ⟨j, by rw [show v = _ from r], hj.1, hj.2, h _ β1 H1 x1 k1 ?_⟩
          exact walks_rng
        · exact h.elim
      · exact h.elim
    | exc c d S1 => rw [q] at h; exact h
    | bad => rw [q] at h; exact h⟩
theorem pxi_range2 {p : Pos} {ga : AF} (hg : Gl X "range") (hm : X.mg "range" = none) (ha : PXA T X [a, b] ga) (hs : starEach [a, b] X.env = [(false, eval a X.env), (false, eval b X.env)] := by rfl) (hs2 : starEach [b] X.env = [(false, eval b X.env)] := by rfl) :
    PXI T X tg (.Call (.Name "range" p) [a, b] [] pos) (fRange2 ga) :=
  ⟨fun W t => PI.weak (pi_range2 hg hm (ha.run W t) hs hs2) fun σ H Z ⟨β, ρ, S, hs, he, h⟩ => by
    refine ⟨β, ρ, S, hs, he, ?_⟩
    unfold fRange2 at h
    cases q : ga ρ S with
    | ok ds S1 =>
      rw [q] at h
      simp only [bind_ok] at h
      intro vs β1 H1 x1 k1 r1
      split at h
      · rename_i i j
        obtain ⟨v, u, rfl, r, r2⟩ := RepL.two r1
        split at h
        · rename_i hj
          refine ⟨i, j, by rw [show v = _ from r, show u = _ from r2], hj, h _ β1 H1 x1 k1 ?_⟩
          exact walks_rng
        · exact h.elim
      · exact h.elim
    | exc c d S1 => rw [q] at h; exact h
    | bad => rw [q] at h; exact h⟩
/-! ### for -/
theorem px_for {iter : Expr} {body : List Stmt} {it : AF} {g : TgF} {gb : SF} (hp : PassesOwn (model X.prog X.w) X.A X.env X.xe) (hc : X.calm = true) {ws : List Nat} (hi : PXI T X tg iter it) (hg : PXG T X tg g ws) (hb : PXSs T X body gb)
    (hs : ∀ x, foldedSetIterable iter X.env x = pure x := by intro _; rfl) : PXS T X (.For tg iter body [] pos) (sFor it g gb) := by
  refine ⟨fun W tk => PS.weak (ps_for hp hc (hi.run W tk) hg.run (hb.run W tk) hs) fun D σ H ⟨β, ρ, S, hs, he, h⟩ => ?_⟩
  refine ⟨β, ρ, S, hs, he, ?_⟩
  unfold sFor at h
  cases q : it ρ S with
  | exc c d S1 => rw [q] at h; exact fun C dx v β1 H1 x k => h C dx v σ β1 H1 x k (he.ext x)
  | bad => rw [q] at h; exact h
  | ok ds S1 =>
    rw [q] at h
    intro J β1 H1 x1 k1 wk
    have h1 : postS (wo X T) W β1 H1 (forL g gb ds ρ S1) D := postS.ext h x1
    refine ⟨fun i m σ' H' => m = ds.length - i ∧ i ≤ ds.length ∧ ∃ β' ρ' S', Ext β1 H1 β' H' ∧ SOk (wo X T) β' H' S' ∧ RepE (wo X T) β' H' ρ' σ' ∧ postS (wo X T) W β' H' (forL g gb (ds.drop i) ρ' S') D,
      ⟨ds.length, by simp, Nat.zero_le _, β1, ρ, S1, .refl _ _, k1, he.ext x1, by simpa using h1⟩, ?_⟩
    rintro i m σ2 H2 ⟨rfl, hi2, β2, ρ2, S2, x2, k2, e2, q2⟩
    by_cases hlt : i < ds.length
    · have hd : ds[i]? = some ds[i] := List.getElem?_eq_getElem hlt
      rw [List.drop_eq_getElem_cons hlt] at q2
      simp only [forL] at q2
      cases qg : g ds[i] ρ2 with
      | none => rw [qg] at q2; exact q2.elim
      | some ρ3 =>
        rw [qg] at q2
        simp only at q2
        refine .inr ⟨wk.go i _ hd β2 H2 x2.toExtW, fun σ' H' => ∃ β' ρ' S', Ext β1 H1 β' H' ∧ SOk (wo X T) β' H' S' ∧ RepE (wo X T) β' H' ρ' σ' ∧ postS (wo X T) W β' H' (forL g gb (ds.drop (i + 1)) ρ' S') D,
          fun σ' H' z => ⟨ds.length - (i + 1), by omega, rfl, hlt, z⟩, fun x H' y => ?_⟩
        obtain ⟨sm, rx⟩ := wk.yld i _ hd β2 H2 x2.toExtW x H' y
        have xs : Ext β2 H2 β2 H' := .same sm
        refine ⟨β2, ds[i], ρ2, ρ3, rx, e2.ext xs.toExtW, qg, fun σ3 e3 _ => ⟨β2, ρ3, S2, k2.same sm, e3, ?_⟩⟩
        cases q3 : gb ρ3 S2 with
        | nx ρ4 S4 => rw [q3] at q2; exact fun σ4 β4 H4 x4 k4 e4 => ⟨β4, ρ4, S4, (x2.trans xs).trans x4, k4, e4, postS.ext q2 (xs.trans x4)⟩
        | ct ρ4 S4 => rw [q3] at q2; exact fun σ4 β4 H4 x4 k4 e4 => ⟨β4, ρ4, S4, (x2.trans xs).trans x4, k4, e4, postS.ext q2 (xs.trans x4)⟩
        | bk ρ4 S4 => rw [q3] at q2; exact postS.ext q2 xs
        | rt d4 S4 => rw [q3] at q2; exact postS.ext q2 xs
        | exc c4 d4 ρ4 S4 => rw [q3] at q2; exact postS.ext q2 xs
        | bad => rw [q3] at q2; exact q2
    · have e0 : i = ds.length := by omega
      subst e0
      rw [List.drop_length] at q2
      exact .inl ⟨wk.stop β2 H2 x2.toExtW, q2.nx_ k2 e2⟩
end
end DL


set_option linter.all false
set_option autoImplicit false
set_option Elab.async false
set_option maxRecDepth 100000
set_option maxHeartbeats 2000000
/-! DLw4: comprehensions; defs, their calls. -/
namespace DL
open PySem PySem.Spec L2
open PyProof.Rows hiding St b2i

section
variable {w : Wo} {β β' : Bt} {H H' : Hp} {p : Addr} {acc ys : List V}
/-! ### a hidden list changes -/
theorem FzL.hid {K : PySem.W.Frag} {a : Addr} {xs : List V} (hp : p ∈ β.h) (h : FzL K β H a xs) (hl : H p = some (.lst acc)) : FzL K β (upd H p (.lst ys)) a xs := by
  rcases h with ⟨h, n, n2⟩ | ⟨o, h⟩ | h
  · exact .inl ⟨by rw [upd_ne (fun z : a = p => n2 (z ▸ hp))]; exact h, n, n2⟩
  · exact .inr (.inl ⟨o, by rw [upd_ne (fun z => by rw [z, hl] at h; cases h)]; exact h⟩)
  · exact .inr (.inr h)
theorem SqT.chg {K : PySem.W.Frag} {a : Addr} {xs : List V} (h : SqT K H a xs) (hl : H p = some (.lst acc)) : SqT K (upd H p (.lst ys)) a xs := by
  rcases h with (h | ⟨o, h⟩) | h
  · exact .inl (.inl (by rw [upd_ne (fun z => by rw [z, hl] at h; cases h)]; exact h))
  · exact .inl (.inr ⟨o, by rw [upd_ne (fun z => by rw [z, hl] at h; cases h)]; exact h⟩)
  · exact .inr h
mutual
theorem Rep.hid (hp : p ∈ β.h) (hl : H p = some (.lst acc)) : ∀ (d : D) (v : V), Rep w β H d v → Rep w β (upd H p (.lst ys)) d v
  | .non, _, h => h
  | .bl _, _, h => h
  | .int _, _, h => h
  | .str _, _, h => h
  | .tup ds, _, ⟨a, xs, r, h, l⟩ => ⟨a, xs, r, SqT.chg h hl, RepL.hid hp hl ds xs l⟩
  | .lst ds, _, ⟨a, xs, r, h, l⟩ => ⟨a, xs, r, FzL.hid hp h hl, RepL.hid hp hl ds xs l⟩
  | .loc n, _, h => h
  | .exo c d, _, ⟨a, C, dx, x, r, h1, h2, h3, h4⟩ => ⟨a, C, dx, x, r, h1, by rw [upd_ne (fun z => by rw [z, hl] at h2; unfold ExV at h2; cases h2)]; exact h2, by rw [upd_ne (fun z => by rw [z, hl] at h3; cases h3)]; exact h3, Rep.hid hp hl d x h4⟩
  | .ty _, _, h => h
  | .cls _, _, h => h
  | .fn _, _, h => h
theorem RepL.hid (hp : p ∈ β.h) (hl : H p = some (.lst acc)) : ∀ (ds : List D) (vs : List V), RepL w β H ds vs → RepL w β (upd H p (.lst ys)) ds vs
  | [], _, h => h
  | d :: ds, _, ⟨x, xr, r, h, l⟩ => ⟨x, xr, r, Rep.hid hp hl d x h, RepL.hid hp hl ds xr l⟩
end
theorem SOk.hide {S : Sto} (k : SOk w β H S) (hp : p ∈ β.h) (hl : H p = some (.lst acc)) : SOk w β (upd H p (.lst ys)) S := by
  have np := (k.hid p hp).2
  refine ⟨fun q hq => TabS.chg (k.tabs q hq) hl, k.nodup, fun a ha => ⟨?_, (k.hid a ha).2⟩, k.len, fun n a ds e1 e2 => ?_⟩
  · by_cases z : a = p
    · exact ⟨ys, by rw [z, upd_same]⟩
    · obtain ⟨zs, e⟩ := (k.hid a ha).1
      exact ⟨zs, by rw [upd_ne z]; exact e⟩
  · obtain ⟨xs, h1, h2⟩ := k.at_ n a ds e1 e2
    refine ⟨xs, ?_, RepL.hid hp hl ds xs h2⟩
    rw [upd_ne (fun z : a = p => np (z ▸ List.mem_of_getElem? e1))]
    exact h1
theorem RepE.hide {ρ : Env} {σ : St} (k : RepE w β H ρ σ) (hp : p ∈ β.h) (hl : H p = some (.lst acc)) : RepE w β (upd H p (.lst ys)) ρ σ := ⟨k.1, fun i d h => by
  obtain ⟨v, h1, h2⟩ := k.2 i d h
  exact ⟨v, h1, Rep.hid hp hl d v h2⟩⟩
theorem wipe_of {σ σ' : St} : ∀ {vs : List Nat} {ws : List Nat}, Outof ws σ σ' → (∀ i ∈ ws, i ∈ vs) → wipe σ' vs = wipe σ vs := by
  intro vs ws o hw
  have key : ∀ (us : List Nat) (τ : St) (i : Nat), (wipe τ us)[i]? = if i ∈ us then (if i < τ.length then some none else none) else τ[i]? := by
    intro us
    induction us with
    | nil => intro τ i; simp [wipe]
    | cons u us ih =>
      intro τ i
      unfold wipe
      by_cases hu : u = i
      · subst hu
        by_cases hl : u < (wipe τ us).length
        · rw [List.getElem?_set_self hl]
          rw [wipe_length] at hl
          simp [hl]
        · rw [List.getElem?_eq_none (by simpa using hl)]
          rw [wipe_length] at hl
          simp [hl]
      · rw [List.getElem?_set_ne hu, ih]
        have : (i ∈ u :: us) ↔ i ∈ us := by simp [Ne.symm hu]
        simp only [this]
  apply List.ext_getElem?
  intro i
  rw [key, key]
  split
  · rw [o.1]
  · rename_i h
    exact o.2 i (fun z => h (hw i z))
end

section
variable {T : List (Addr × Str)} {X : Cx} {elt tg iter : Expr} {ifs : List Expr} {scope : Scope} {own : List (Str × Nat)} {pos : Pos} {it : AF} {g : TgF} {t : TF} {f : EF} {ws : List Nat}
/-- tests of a clause -/
structure PXTs (T : List (Addr × Str)) (X : Cx) (ifs : List Expr) (t : TF) : Prop where
  run : ∀ W, Takes X W → PTs X ifs (tT (wo X T) W t)
theorem PTs.weak {X : Cx} {e : List Expr} {t t' : TT} (h : PTs X e t) (k : ∀ σ H Q, t' σ H Q → t σ H Q) : PTs X e t' := ⟨fun pins s σ H Q I q => h.run pins s σ H Q I (k σ H Q q)⟩
theorem pxts_nil : PXTs T X [] DL.tYes := ⟨fun W _ => PTs.weak pts_nil fun σ H Q ⟨β, ρ, S, hs, he, h⟩ => postT.val h hs⟩
theorem pxts_one {c : Expr} (h : PXT T X c t) : PXTs T X [c] t := ⟨fun W tk => pts_one (h.run W tk)⟩
abbrev noW : WX := fun _ _ _ _ => False
theorem takesNo {X : Cx} : Takes X noW := fun _ _ x => by
  obtain ⟨_, _, _, _, _, _, _, _, _, _, _, _, _, _, _, _, z⟩ := x
  exact z.elim
theorem comp_read {W : WX} {vs : List Nat} (hw : ∀ i ∈ ws, i ∈ vs) {σ : St} {H : Hp} {Q : VK} (h : tE (wo X T) W (eComp vs it g t f) σ H Q) :
    tLc (tI (wo X T) W it) (tG (wo X T) g ws) (tT (wo X T) noW t) (tE (wo X T) noW f) vs σ H Q := by
  obtain ⟨β, ρ, S, hs, he, h⟩ := h
  refine ⟨β, ρ, S, hs, he, ?_⟩
  unfold eComp at h
  cases q : it ρ S with
  | exc c d S1 => rw [q] at h; exact h
  | bad => rw [q] at h; exact h
  | ok ds S1 =>
    rw [q] at h
    simp only [bind_ok] at h
    intro J β1 H1 x1 k1 wk D hD
    split at h
    · rename_i hz
      have h1 := post.ext h x1
      have nD := notin_of k1 hD
      -- the state of the turns
      refine ⟨fun i m H' => m = ds.length - i ∧ i ≤ ds.length ∧ ∃ (β' : Bt) (S' : Sto) (ys : List DL.D) (acc : List V), β'.h = D :: β1.h ∧ Ext β1 H1 ⟨β'.l, β1.h⟩ H' ∧ SOk (wo X T) β' H' S' ∧ RepE (wo X T) β' H' ρ σ ∧
        H' D = some (.lst acc) ∧ RepL (wo X T) β' H' ys acc ∧ acc.length ≤ i ∧ post (wo X T) W σ β1 H1 ((compL vs g t f ρ (ds.drop i) S').bind fun zs S => .ok (.lst (ys ++ zs)) S) Q, ?_, ?_⟩
      · -- start
        have xn : Ext β1 H1 β1 (upd H1 D (.lst [])) := Ext.new hD
        have xw : ExtW β1 H1 ⟨β1.l, D :: β1.h⟩ (upd H1 D (.lst [])) := ⟨⟨[], by simp, fun _ z => nomatch z⟩, fun a ha => by
          rcases List.mem_cons.mp ha with z | z
          · exact .inr (by rw [z]; exact .of hD)
          · exact .inl z, xn.keep, xn.lsts, xn.dom⟩
        refine ⟨ds.length, by simp, Nat.zero_le _, ⟨β1.l, D :: β1.h⟩, S1, [], [], rfl, xn, ⟨k1.tabs.ext (same_upd hD), k1.nodup, fun a ha => ?_, k1.len, fun n a es e1 e2 => ?_⟩, (he.ext x1.toExtW).ext xw, upd_same, rfl, Nat.le_refl _, ?_⟩
        · rcases List.mem_cons.mp ha with z | z
          · rw [z, upd_same]; exact ⟨⟨[], rfl⟩, nD.1⟩
          · exact ⟨(k1.hid a z).1.imp fun zs e => xn.lsts a zs e (k1.hid a z).2, (k1.hid a z).2⟩
        · obtain ⟨xs, g1, g2⟩ := k1.at_ n a es e1 e2
          exact ⟨xs, same_upd hD _ _ g1, RepL.ext xw es xs g2⟩
        · simpa using h1
      · rintro i m H2 ⟨rfl, hi, β2, S2, ys, acc, hh, x2, k2, e2, hacc, racc, hle, q2⟩
        have mD : D ∈ β2.h := by rw [hh]; exact List.mem_cons_self
        have nD2 := (k2.hid D mD).2
        have w2 : ExtW β1 H1 β2 H2 := ⟨x2.pre, fun a ha => by
          rw [hh] at ha
          rcases List.mem_cons.mp ha with z | z
          · exact .inr (by rw [z]; exact .of hD)
          · exact .inl z, x2.keep, x2.lsts, x2.dom⟩
        by_cases hlt : i < ds.length
        · have hd : ds[i]? = some ds[i] := List.getElem?_eq_getElem hlt
          rw [List.drop_eq_getElem_cons hlt] at q2
          simp only [compL] at q2
          cases qg : g ds[i] (wipeE ρ vs) with
          | none => rw [qg] at q2; exact q2.elim
          | some ρ3 =>
            rw [qg] at q2
            simp only at q2
            refine .inr ⟨wk.go i _ hd β2 H2 w2, fun H' => i + 1 ≤ ds.length ∧ ∃ (β' : Bt) (S' : Sto) (ys : List DL.D) (acc : List V), β'.h = D :: β1.h ∧ Ext β1 H1 ⟨β'.l, β1.h⟩ H' ∧ SOk (wo X T) β' H' S' ∧ RepE (wo X T) β' H' ρ σ ∧
              H' D = some (.lst acc) ∧ RepL (wo X T) β' H' ys acc ∧ acc.length ≤ i + 1 ∧ post (wo X T) W σ β1 H1 ((compL vs g t f ρ (ds.drop (i + 1)) S').bind fun zs S => .ok (.lst (ys ++ zs)) S) Q,
              fun H' z => ⟨ds.length - (i + 1), by omega, rfl, z⟩, fun x H' y => ?_⟩
            obtain ⟨sm, rx⟩ := wk.yld i _ hd β2 H2 w2 x H' y
            have xs : Ext β2 H2 β2 H' := .same sm
            have xs' : Ext ⟨β2.l, β1.h⟩ H2 ⟨β2.l, β1.h⟩ H' := .same sm
            refine ⟨β2, ds[i], wipeE ρ vs, ρ3, rx, (e2.ext xs.toExtW).wipe vs, qg, fun σ3 e3 o3 => ?_⟩
            have hwp : wipe (wipe σ vs) vs = wipe σ vs := by
              refine wipe_of (ws := vs) ⟨wipe_length σ vs, fun j hj => ?_⟩ fun _ h => h
              exact wipe_out hj
            refine ⟨(wipe_of o3 hw).trans hwp, β2, ρ3, S2, k2.same sm, e3, ?_⟩
            have cont : ∀ (β4 : Bt) (H4 : Hp) (S4 : Sto), Ext β2 H' β4 H4 → β4.h = D :: β1.h ∧ Ext β1 H1 ⟨β4.l, β1.h⟩ H4 ∧ H4 D = some (.lst acc) ∧ RepE (wo X T) β4 H4 ρ σ ∧ Ext ⟨β2.l, β1.h⟩ H2 ⟨β4.l, β1.h⟩ H4 := fun β4 H4 S4 x4 => by
              have x24 := xs.trans x4
              have y4 : Ext ⟨β2.l, β1.h⟩ H2 ⟨β4.l, β1.h⟩ H4 := ⟨⟨x24.pre, fun a ha => .inl ha, x24.keep, x24.lsts, x24.dom⟩, rfl⟩
              exact ⟨x4.heq.trans hh, x2.trans y4, x24.lsts D acc hacc nD2, e2.ext x24.toExtW, y4⟩
            cases qt : t ρ3 S2 with
            | exc c d S3 => rw [qt] at q2; exact q2.elim
            | bad => rw [qt] at q2; exact q2.elim
            | ok b S3 =>
              rw [qt] at q2
              intro β3 H3 x3 k3
              cases b with
              | false =>
                simp only [Bool.false_eq_true, if_false]
                simp only at q2
                obtain ⟨a1, a2, a3, a4, a5⟩ := cont β3 H3 S3 x3
                exact ⟨hlt, β3, S3, ys, acc, a1, a2, k3, a4, a3, RepL.ext (xs.trans x3).toExtW ys acc racc, by omega, q2⟩
              | true =>
                simp only [if_true]
                simp only at q2
                refine ⟨β3, ρ3, S3, k3, e3.ext x3.toExtW, ?_⟩
                cases qf : f ρ3 S3 with
                | exc c d S4 => rw [qf] at q2; exact q2.elim
                | bad => rw [qf] at q2; exact q2.elim
                | ok y0 S4 =>
                  rw [qf] at q2
                  simp only at q2
                  intro v β4 H4 x4 k4 r4
                  obtain ⟨a1, a2, a3, a4, a5⟩ := cont β4 H4 S4 (x3.trans x4)
                  have m4 : D ∈ β4.h := by rw [a1]; exact List.mem_cons_self
                  have racc4 := RepL.ext (xs.trans (x3.trans x4)).toExtW ys acc racc
                  have nD4 := (k4.hid D m4).2
                  -- the list with one item more
                  have xu : Ext β1 H1 ⟨β4.l, β1.h⟩ (upd H4 D (.lst (acc ++ [v]))) := ⟨⟨a2.pre, fun a ha => .inl ha, fun a o e n1 n2 => by
                      rw [upd_ne (ne_of_none e hD)]; exact a2.keep a o e n1 n2, fun a zs e n => by
                      rw [upd_ne (ne_of_none e hD)]; exact a2.lsts a zs e n, fun a n o e => by
                      by_cases z : a = D
                      · rw [z, hD] at e; cases e
                      · exact a2.dom a (fun o e => n o (by rw [upd_ne z]; exact e)) o e⟩, rfl⟩
                  refine ⟨acc, a3, ?_, hlt, β4, S4, ys ++ [y0], acc ++ [v], a1, xu, k4.hide m4 a3, a4.hide m4 a3, upd_same, RepL.append (RepL.hid m4 a3 ys acc racc4) ⟨v, [], rfl, Rep.hid m4 a3 y0 v r4, rfl⟩, by simp; omega, ?_⟩
                  · rw [sizeLine_eq]; omega
                  · have q3 := q2
                    have eq : ((compL vs g t f ρ (ds.drop (i + 1)) S4).bind fun ys' S => .ok (y0 :: ys') S).bind (fun zs S => R.ok (DL.D.lst (ys ++ zs)) S) = (compL vs g t f ρ (ds.drop (i + 1)) S4).bind fun zs S => R.ok (DL.D.lst (ys ++ [y0] ++ zs)) S := by
                      cases compL vs g t f ρ (ds.drop (i + 1)) S4 <;> simp
                    rw [← eq]
                    exact q3
        · have e0 : i = ds.length := by omega
          subst e0
          rw [List.drop_length] at q2
          simp only [compL, bind_ok, List.append_nil] at q2
          have wf : ExtW β2 H2 ⟨β2.l, β1.h⟩ H2 := ⟨⟨[], by simp, fun _ z => nomatch z⟩, fun a ha => .inl (by rw [hh]; exact List.mem_cons_of_mem _ ha), fun _ _ e _ _ => e, fun _ _ e _ => e, fun _ e => e⟩
          refine .inl ⟨wk.stop β2 H2 w2, q2 (.ref D) ⟨β2.l, β1.h⟩ H2 x2 ⟨k2.tabs, k2.nodup, fun a ha => k2.hid a (by rw [hh]; exact List.mem_cons_of_mem _ ha), k2.len, fun n a es e1 e2 => ?_⟩ ⟨D, acc, rfl, .inl ⟨hacc, nD2, nD.2⟩, RepL.ext wf ys acc racc⟩⟩
          obtain ⟨xs, g1, g2⟩ := k2.at_ n a es e1 e2
          exact ⟨xs, g1, RepL.ext wf es xs g2⟩
    · exact h.elim
end
end DL


set_option linter.all false
set_option autoImplicit false
set_option Elab.async false
set_option maxRecDepth 100000
set_option maxHeartbeats 2000000
/-! DLw5: comprehensions as rules; defs and calls; forgetting lists. -/
namespace DL
open PySem PySem.Spec L2
open PyProof.Rows hiding St b2i

section
variable {T : List (Addr × Str)} {X : Cx} {elt tg iter : Expr} {ifs : List Expr} {scope : Scope} {own : List (Str × Nat)} {pos : Pos} {it : AF} {g : TgF} {t : TF} {f : EF} {ws : List Nat}
theorem px_comp (hc : X.calm = true) (hN : X.N.Nodup) (hi : PXI T X tg iter it) (ok : BlkOk X.N X.env.scope scope own)
    (hg : ∀ (s : Shared) (H : Hp) (C : Addr) (cl : List (Str × Addr)) (fp : List Addr), PXG T (X.blk s H scope (compEnvC scope cl C X.env) fp) tg g ws)
    (ht : ∀ (s : Shared) (H : Hp) (C : Addr) (cl : List (Str × Addr)) (fp : List Addr), PXTs T (X.blk s H scope (compEnvC scope cl C X.env) fp) ifs t)
    (he : ∀ (s : Shared) (H : Hp) (C : Addr) (cl : List (Str × Addr)) (fp : List Addr), PX T (X.blk s H scope (compEnvC scope cl C X.env) fp) elt f)
    (hw : ∀ i ∈ ws, i ∈ own.map (·.2)) (hs : ∀ x, foldedSetIterable iter X.env x = pure x := by intro _; rfl) : PX T X (.ListComp elt [⟨tg, iter, ifs, 0⟩] scope pos) (eComp (own.map (·.2)) it g t f) :=
  ⟨fun W tk => PE.weak (pe_lc hc hN (hi.run W tk) ok (fun s H C cl fp => (hg s H C cl fp).run) (fun s H C cl fp => (ht s H C cl fp).run noW takesNo) (fun s H C cl fp => (he s H C cl fp).run noW takesNo) hs) fun σ H Q h => comp_read hw h⟩
/-- name = [..] on one line -/
theorem px_setComp (i : Nat) {y : Str} {py spos : Pos} (hc : X.calm = true) (hN : X.N.Nodup) (hi : PXI T X tg iter it) (ok : BlkOk X.N X.env.scope scope own)
    (hg : ∀ (s : Shared) (H : Hp) (C : Addr) (cl : List (Str × Addr)) (fp : List Addr), PXG T (X.blk s H scope (compEnvC scope cl C X.env) fp) tg g ws)
    (ht : ∀ (s : Shared) (H : Hp) (C : Addr) (cl : List (Str × Addr)) (fp : List Addr), PXTs T (X.blk s H scope (compEnvC scope cl C X.env) fp) ifs t)
    (he : ∀ (s : Shared) (H : Hp) (C : Addr) (cl : List (Str × Addr)) (fp : List Addr), PX T (X.blk s H scope (compEnvC scope cl C X.env) fp) elt f)
    (hw : ∀ i ∈ ws, i ∈ own.map (·.2)) (hsw : swapsWith (.ListComp elt [⟨tg, iter, ifs, 0⟩] scope pos) (some (.Name y py)) spos.line X.env = pure true)
    (hy : X.N[i]? = some y := by rfl) (hyl : X.env.scope.names.lookup y = some .local := by rfl) (hs : ∀ x, foldedSetIterable iter X.env x = pure x := by intro _; rfl) :
    PXS T X (.Assign [.Name y py] (.ListComp elt [⟨tg, iter, ifs, 0⟩] scope pos) spos) (sSet i (eComp (own.map (·.2)) it g t f)) :=
  ⟨fun W tk => PS.weak (ps_setLc hc hN hy hyl hsw (hi.run W tk) ok (fun s H C cl fp => (hg s H C cl fp).run) (fun s H C cl fp => (ht s H C cl fp).run noW takesNo) (fun s H C cl fp => (he s H C cl fp).run noW takesNo) hs)
    fun D σ H ⟨β, ρ, S, hs, he, h⟩ => comp_read hw (tE_st hs he h fun d S1 v β1 H1 x1 k1 e1 r1 q1 => q1.nx_ k1 (e1.set r1 i))⟩
end

/-! ### defs -/
def postF (w : Wo) (β : Bt) (H : Hp) (r : R D) (Q : VK) (E : XK) : Prop := match r with
  | .ok d S => ∀ v β' H', Ext β H β' H' → SOk w β' H' S → Rep w β' H' d v → Q v H'
  | .exc c d S => ∀ C dx v β' H', Ext β H β' H' → SOk w β' H' S → w.mg c = some (.ref C) → H' dx = some (.xd [(("value" : Str), v)]) → Rep w β' H' d v → E (.ref C) (some dx) H'
  | .bad => False
def spD (w : Wo) (fn : FN) : Sp := fun vs H Q E => ∃ β ds S, SOk w β H S ∧ RepL w β H ds vs ∧ postF w β H (fn ds S) Q E
/-- a def's promise, where no repr is under way -/
structure FnG (P : Program) (w : World) (K : PySem.W.Frag) (mg : Str → Option Value) (base : Heap) (T : List (Addr × Str)) (gd : Bool) (k : Nat) (f : Addr) (fd : FuncData) (ps : List Str) (fn : FN) : Prop where
  len : ∀ ds S, fn ds S ≠ .bad → ds.length = ps.length
  run : ∀ (A : Around) (outer : List PySem.Env) (s : Shared) (H : Hp) (args : Args) (us : List Value) (vs : List V) (Q : VK) (E : XK), (gd = true → A.guards = some []) → Room k A → Env0 P w K mg base A outer s H → BindsTo s fd args (ps.zip us) → Vals vs us → spD ⟨K, mg, T⟩ fn vs H Q E →
    codeAny (model P w) A (.call (.ref f) args) (CR (L2.CX P w) outer P w H s Q E) s
theorem FnG.mono {P : Program} {w : World} {K : PySem.W.Frag} {mg : Str → Option Value} {base : Heap} {T : List (Addr × Str)} {gd : Bool} {j k : Nat} {f : Addr} {fd : FuncData} {ps : List Str} {fn : FN} (F : FnG P w K mg base T gd j f fd ps fn) (h : j ≤ k) : FnG P w K mg base T gd k f fd ps fn :=
  ⟨F.len, fun A outer s H args us vs Q E hg hr => F.run A outer s H args us vs Q E hg (hr.mono h)⟩
theorem rep_start {w : Wo} {β : Bt} {H : Hp} {n : Nat} {N : List Str} {ds : List D} {vs : List V} (hn : N.length = n) (l : RepL w β H ds vs) : RepE w β H (DL.start n ds) (L2.start N vs) := by
  have hl := l.length
  unfold DL.start L2.start
  rw [hn, ← hl]
  refine ⟨by simp [hl], fun i d e => ?_⟩
  by_cases hi : i < ds.length
  · rw [List.getElem?_append_left (by simpa using hi)] at e
    rw [List.getElem?_append_left (by simp; omega)]
    rw [List.getElem?_map] at e ⊢
    cases q : ds[i]? with
    | none => rw [q] at e; cases e
    | some d' =>
      rw [q] at e
      cases e
      obtain ⟨v, h1, h2⟩ := l.get q
      exact ⟨v, by rw [h1]; rfl, h2⟩
  · rw [List.getElem?_append_right (by simpa using hi)] at e
    have := List.mem_of_getElem? e
    rw [List.mem_replicate] at this
    cases this.2
section
variable {P : Program} {w : World} {K : PySem.W.Frag} {mg : Str → Option Value} {base : Heap} {T : List (Addr × Str)}
/-- a def by its body's mirror -/
theorem fnG_of {gd : Bool} {k : Nat} {f : Addr} {name qual : Str} {st : Stmt} {oc : Value} {od an : Option Addr} {osl : Array (Option Value)} {kV doc pm cdv ct : Value} {N ps : List Str} {m n : Nat} {g : SF}
    (lk : K.lookup f = some ⟨oc, od, .func (PySem.W.fnOf name qual (defArgs st) (defBody st) (defScope st) .none kV doc pm an cdv ct), osl⟩) (hcd : PySem.W.codeIn K cdv qual = true) (Sc : FnScope N ps (defScope st)) (hm : ps.length = m) (hn : N.length = n)
    (body : ∀ (A : Around) (outer : List PySem.Env) (s : Shared) (H : Hp) (E : XK), (gd = true → A.guards = some []) → Room k (A.deeper (envOfC qual (defScope st) s.heap.objs.size f cdv)) → PXSs T (cxOf (L2.CX P w) P w K mg base N qual (defScope st) f cdv A outer s H E) (defBody st) g) :
    FnG P w K mg base T gd (k + 1) f (PySem.W.fnOf name qual (defArgs st) (defBody st) (defScope st) .none kV doc pm an cdv ct) ps (mkFn m n g) := by
  have len : ∀ ds S, mkFn m n g ds S ≠ .bad → ds.length = m := fun ds S h => by
    unfold mkFn at h
    by_cases z : ds.length = m
    · exact z
    · rw [if_neg z] at h; exact absurd rfl h
  refine ⟨fun ds S h => (len ds S h).trans hm.symm, fun A outer s H args us vs Q E hg hr e0 hb r hs => ?_⟩
  obtain ⟨β, ds, S, hs, l, h⟩ := hs
  have hd : ds.length = m := len ds S fun z => by rw [z] at h; exact h
  refine LamX.run_ofS lk hcd Sc hr e0 hb r (by rw [← l.length, hd, hm]) fun hr' => ?_
  refine ⟨_, (body A outer s H E hg hr').run (fun cls d _ H => E cls d H) (takes_of rfl rfl rfl rfl), β, DL.start n ds, S, hs, rep_start hn l, ?_⟩
  unfold mkFn at h
  rw [if_pos hd] at h
  show postS ⟨K, mg, T⟩ _ β H (g (DL.start n ds) S) _
  cases q : g (DL.start n ds) S with
  | nx ρ S1 => rw [q] at h; exact fun σ' β' H' x k1 _ => h .non β' H' x k1 rfl
  | rt d S1 => rw [q] at h; exact h
  | exc c d ρ S1 => rw [q] at h; exact fun C dx v σ' β' H' x k1 _ => h C dx v β' H' x k1
  | bk ρ S1 => rw [q] at h; exact h.elim
  | ct ρ S1 => rw [q] at h; exact h.elim
  | bad => rw [q] at h; exact h.elim

/-! forgetting lists -/
theorem low_get {β : Bt} {n m : Nat} {a : Addr} (h : β.l[m]? = some a) (hm : m < n) : (β.l.take n)[m]? = some a := by
  rw [List.getElem?_take, if_pos hm]; exact h
theorem FzL.low {K : PySem.W.Frag} {β : Bt} {H : Hp} {a : Addr} {xs : List V} (n : Nat) (h : FzL K β H a xs) : FzL K ⟨β.l.take n, β.h⟩ H a xs := by
  rcases h with ⟨h, n1, n2⟩ | h
  · exact .inl ⟨h, fun z => n1 (List.mem_of_mem_take z), n2⟩
  · exact .inr h
mutual
theorem Rep.low {w : Wo} {β : Bt} {H : Hp} {n : Nat} : ∀ (d : D) (v : V), d.low n = true → Rep w β H d v → Rep w ⟨β.l.take n, β.h⟩ H d v
  | .non, _, _, h => h
  | .bl _, _, _, h => h
  | .int _, _, _, h => h
  | .str _, _, _, h => h
  | .tup ds, _, z, ⟨a, xs, r, h, l⟩ => ⟨a, xs, r, h, RepL.low ds xs (by simpa [D.low] using z) l⟩
  | .lst ds, _, z, ⟨a, xs, r, h, l⟩ => ⟨a, xs, r, FzL.low n h, RepL.low ds xs (by simpa [D.low] using z) l⟩
  | .loc m, _, z, ⟨a, r, h⟩ => ⟨a, r, low_get h (by simpa [D.low] using z)⟩
  | .exo c d, _, z, ⟨a, C, dx, x, r, h1, h2, h3, h4⟩ => ⟨a, C, dx, x, r, h1, h2, h3, Rep.low d x (by simpa [D.low] using z) h4⟩
  | .ty _, _, _, h => h
  | .cls _, _, _, h => h
  | .fn _, _, _, h => h
theorem RepL.low {w : Wo} {β : Bt} {H : Hp} {n : Nat} : ∀ (ds : List D) (vs : List V), D.lowL n ds = true → RepL w β H ds vs → RepL w ⟨β.l.take n, β.h⟩ H ds vs
  | [], _, _, h => h
  | d :: ds, _, z, ⟨x, xr, r, h, l⟩ => by
    simp only [D.lowL, Bool.and_eq_true] at z
    exact ⟨x, xr, r, Rep.low d x z.1 h, RepL.low ds xr z.2 l⟩
end
theorem SOk.low {w : Wo} {β : Bt} {H : Hp} {S : Sto} {n : Nat} (k : SOk w β H S) (hn : n ≤ S.length) (h : (S.take n).all (D.lowL n) = true) : SOk w ⟨β.l.take n, β.h⟩ H (S.take n) := by
  refine ⟨k.tabs, k.nodup.sublist (List.take_sublist n β.l), fun a ha => ⟨(k.hid a ha).1, fun z => (k.hid a ha).2 (List.mem_of_mem_take z)⟩, by simp [k.len], fun m a ds e1 e2 => ?_⟩
  have e1 : (β.l.take n)[m]? = some a := e1
  rw [List.getElem?_take] at e1
  split at e1
  · rename_i hm
    have hd : ds ∈ S.take n := List.mem_of_getElem? e2
    rw [List.getElem?_take, if_pos hm] at e2
    obtain ⟨xs, h1, h2⟩ := k.at_ m a ds e1 e2
    exact ⟨xs, h1, RepL.low ds xs (List.all_eq_true.mp h ds hd) h2⟩
  · cases e1
theorem Ext.low {β β' : Bt} {H H' : Hp} (e : Ext β H β' H') : Ext β H ⟨β'.l.take β.l.length, β'.h⟩ H' := by
  obtain ⟨ν, e1, f1⟩ := e.pre
  refine ⟨⟨⟨[], ?_, fun _ z => nomatch z⟩, e.hid, e.keep, e.lsts, e.dom⟩, e.heq⟩
  show β'.l.take β.l.length = β.l ++ []
  rw [e1]; simp
theorem Ext.len {β β' : Bt} {H H' : Hp} (e : Ext β H β' H') : β.l.length ≤ β'.l.length := by
  obtain ⟨ν, e1, _⟩ := e.pre
  rw [e1]; simp
theorem FnG.drop {gd : Bool} {k : Nat} {f : Addr} {fd : FuncData} {ps : List Str} {fn : FN} (F : FnG P w K mg base T gd k f fd ps fn) : FnG P w K mg base T gd k f fd ps (DL.drop fn) := by
  refine ⟨fun ds S h => F.len ds S fun z => h (by unfold DL.drop; rw [z]), fun A outer s H args us vs Q E hg hr e0 hb r hs => F.run A outer s H args us vs Q E hg hr e0 hb r ?_⟩
  obtain ⟨β, ds, S, hs, l, h⟩ := hs
  refine ⟨β, ds, S, hs, l, ?_⟩
  unfold DL.drop at h
  cases q : fn ds S with
  | ok d S1 =>
    rw [q] at h
    simp only at h
    split at h
    · rename_i z
      rw [Bool.and_eq_true] at z
      intro v β' H' x k1 r1
      have hl : S.length ≤ S1.length := by rw [← hs.len, ← k1.len]; exact x.len
      refine h v ⟨β'.l.take S.length, β'.h⟩ H' ?_ (k1.low hl z.2) (Rep.low d v z.1 r1)
      rw [← hs.len]
      exact x.low
    · exact h.elim
  | exc c d S1 =>
    rw [q] at h
    simp only at h
    split at h
    · rename_i z
      rw [Bool.and_eq_true] at z
      intro C dx v β' H' x k1 m1 m2 r1
      have hl : S.length ≤ S1.length := by rw [← hs.len, ← k1.len]; exact x.len
      refine h C dx v ⟨β'.l.take S.length, β'.h⟩ H' ?_ (k1.low hl z.2) m1 m2 (Rep.low d v z.1 r1)
      rw [← hs.len]
      exact x.low
    · exact h.elim
  | bad => rw [q] at h; exact h.elim
end

/-! ### calls -/
section
variable {T : List (Addr × Str)} {X : Cx} {gd : Bool} {k : Nat} {f : Addr} {fd : FuncData} {ps : List Str} {fn : FN} {x : Str} {p pos : Pos} {e : Expr} {es : List Expr} {ga : AF} {E : XK}
theorem run_fnG {pins : List (Addr × Obj)} {σ : St} {H : Hp} {s : Shared} {Q : VK} {us : List Value} {vs : List V} (F : FnG X.prog X.w X.K X.mg X.base T gd k f fd ps fn) (hr : Room k X.A) (hgd : gd = true → X.A.guards = some []) (hb : L2.Binds X.K fd ps []) (hx : PassesAt (L2.CX X.prog X.w) X σ E)
    (I : Inv X pins σ H s) (r : Vals vs us) (h : spD (wo X T) fn vs H Q E) : wpAny (model X.prog X.w) X.A (call (.ref f) us) (EP X pins σ Q) X.xe s := by
  have hl : us.length = ps.length := by
    obtain ⟨β, ds, S, hs, l, h⟩ := h
    rw [← r.length, ← l.length]
    exact F.len ds S fun z => by rw [z] at h; exact h
  have b := hb s us I.kIn (by rw [List.append_nil]; exact hl)
  rw [List.append_nil] at b
  refine wpAny_call (codeAny_mono (F.run X.A X.stack s H ⟨us, []⟩ us vs Q E hgd hr I.env0 b r h) fun r s' hq => ?_)
  match r, hq with
  | .error e, hq => exact hx pins H s e s' I hq
  | .ok (.ret u), hq => exact I.after hq
theorem px_call (F : FnG X.prog X.w X.K X.mg X.base T gd k f fd ps fn) (hr : Room k X.A) (hgd : gd = true → X.A.guards = some []) (hm : X.mg x = some (.ref f)) (hk : PySem.W.keepIn X.K (.ref f) = true) (hb : L2.Binds X.K fd ps [])
    (ha : PXA T X (e :: es) ga) (hg : Gl X x := by rfl) (hdb : (x == ("__debug__" : Str)) = false := by decide) (he : starEach (e :: es) X.env = (false, eval e X.env) :: starEach es X.env := by rfl) (hpl : (backTo pos (starEach es X.env)).any (·.1) = false := by rfl) :
    PX T X (.Call (.Name x p) (e :: es) [] pos) (eCall fn ga) := by
  refine ⟨fun W t => ⟨fun pins s σ H Q I h => ?_⟩⟩
  refine wpAny_Call_Name_kw (ld_glob I hg hm ?_ hdb)
  obtain ⟨β, ρ, S, hs, he', h⟩ := h
  have ha' := (ha.run W t).run pos pins s σ H (fun vs H1 => spD (wo X T) fn vs H1 Q (WE W σ)) I (tA_bind hs he' h fun ds S1 vs β1 H1 x1 k1 e1 r1 q1 => ⟨β1, ds, S1, k1, r1, by
    cases q : fn ds S1 with
    | ok d S2 => rw [q] at q1; exact q1
    | exc c d S2 => rw [q] at q1; exact q1
    | bad => rw [q] at q1; exact q1⟩)
  refine PySem.W.callWith_K (h₀ := X.base) I.ok.mod.kin hk (thn ha' fun us s1 ⟨vs, H1, I1, r, q⟩ => ⟨I1.kIn, ?_⟩) he hpl
  exact run_fnG F hr hgd hb (passAt t σ) I1 r q
end
end DL


set_option linter.all false
set_option autoImplicit false
set_option Elab.async false
set_option maxRecDepth 100000
set_option maxHeartbeats 2000000
/-! DLw6: built-ins: repr, isinstance, list(range), tuple, slices, append; names of the module. -/
namespace DL
open PySem PySem.Spec L2
open PyProof.Rows hiding St b2i

section
variable {T : List (Addr × Str)} {X : Cx} {a b c e : Expr} {fa fb fc : EF} {pos p : Pos} {ga : AF} {es : List Expr}

/-! ### repr -/
def rReprD (K : PySem.W.Frag) : List V → Hp → VK → Prop := fun xs H Q => ∃ x d, xs = [x] ∧ Dp K H x d ∧ d.showable = true ∧ d.canLay0 = true ∧ d.shown.length ≤ sizeLine ∧ d.depth ≤ 60 ∧ Q (.str d.shown) H
theorem call_reprD (hg : X.A.guards = some []) (hu : X.A.units + 64 < cLine) : CallR X (.builtin "repr") (rReprD X.K) := by
  intro pins s σ H xs us Q I r h
  obtain ⟨x, d, rfl, hd, h1, h2, h3, h4, q⟩ := h
  obtain ⟨u, rfl, rx⟩ := vals1 r
  obtain ⟨as, rd⟩ := Dp.reads I d x u hd rx
  cases hd with
  | non =>
    cases (show u = Value.none from rx)
    exact PySem.P.repr_of_none ⟨.str _, H, I.tok _, ⟨_, rfl⟩, q⟩
  | bl b =>
    cases (show u = Value.bool b from rx)
    exact PySem.P.repr_of_bool ⟨.str _, H, I.tok _, ⟨s.toks, by simp only [PyData.shown]⟩, q⟩
  | int i =>
    obtain ⟨t, rfl⟩ := rx
    exact PySem.P.repr_of_int (of_decide_eq_true (by simpa [PyData.showable] using h1)) ⟨.str _, H, I.tok _, ⟨s.toks, by simp only [PyData.shown]⟩, q⟩
  | str z =>
    obtain ⟨t, rfl⟩ := rx
    exact PySem.P.repr_of_str ⟨.str _, H, I.tok _, ⟨s.toks, by simp only [PyData.shown]⟩, q⟩ (by simpa [PyData.shown] using h3)
  | lst hs ha =>
    cases (show u = Value.ref _ from rx)
    exact repr_of_reads' rd h1 (PyData.noDict_hsm (PyData.hasDict_of_canLay _ h2)) hg (by omega) (fun _ _ z => z) (fun h' u tk hk => ⟨.str _, H, I.kept (t' := tk) hk, ⟨u, rfl⟩, q⟩) h3
  | tup hs ha =>
    cases (show u = Value.ref _ from rx)
    exact repr_of_reads' rd h1 (PyData.noDict_hsm (PyData.hasDict_of_canLay _ h2)) hg (by omega) (fun _ _ z => z) (fun h' u tk hk => ⟨.str _, H, I.kept (t' := tk) hk, ⟨u, rfl⟩, q⟩) h3
theorem ok_repr : CallOk T X (rReprD X.K) fRepr := fun W σ β H S xs vs Q hs l h => by
  match xs, l, h with
  | [], _, h => exact h.elim
  | _ :: _ :: _, _, h => exact h.elim
  | [x], l, h =>
    simp only [fRepr] at h
    cases ep : x.pd with
    | none => rw [ep] at h; exact h.elim
    | some p =>
      rw [ep] at h
      simp only at h
      split at h
      · rename_i z
        obtain ⟨v, rfl, r⟩ := RepL.one l
        simp only [Bool.and_eq_true, decide_eq_true_eq] at z
        exact ⟨v, p, rfl, dp_of x v p r ep, z.1.1.1, z.1.1.2, le_line z.1.2, z.2, post.val h hs rfl⟩
      · exact h.elim

/-! ### isinstance -/
/-- what is asked of the classes by name: which lie under which -/
def SubOk (X : Cx) (sub : Str → Str → Option Bool) : Prop := ∀ c c' b C C', sub c c' = some b → X.mg c = some (.ref C) → X.mg c' = some (.ref C') → PySem.W.kitOne X.K (.ref C) (.ref C') = some b
/-- isinstance(x, T) of a value that is no exception -/
def fIs (t : String) : FN := fun ds S => match ds with
  | [x, .ty T] => match (tyD x).bind fun t => L2.kitB t T with
    | some b => .ok (.bl b) S
    | none => .bad
  | _ => .bad
theorem tyX_of {β : Bt} {H : Hp} {S : Sto} {d : D} {v : V} {t : String} (hs : SOk (wo X T) β H S) (r : Rep (wo X T) β H d v) (h : tyD d = some t) : TyX X.K H v (.type t) := by
  cases d with
  | non => cases h; cases (show v = _ from r); exact .base .non
  | bl b => cases h; cases (show v = _ from r); exact .base (.bl b)
  | int b => cases h; cases (show v = _ from r); exact .base (.int b)
  | str b => cases h; cases (show v = _ from r); exact .base (.str b)
  | tup ds =>
    cases h
    obtain ⟨a, xs, rfl, h1, l⟩ := r
    rcases h1 with (h1 | ⟨o, h1⟩) | ⟨o, its, n, h1, h2, _⟩
    · exact .base (.tup h1)
    · exact .fTuple h1
    · exact .kTuple h1 h2
  | lst ds =>
    cases h
    obtain ⟨a, xs, rfl, h1, l⟩ := r
    rcases h1 with ⟨h1, _⟩ | ⟨o, h1⟩ | ⟨o, its, n, h1, h2, _⟩
    · exact .base (.lst h1)
    · exact .base (.frz h1)
    · exact .kList h1 h2
  | loc n =>
    cases h
    obtain ⟨a, rfl, h1⟩ := r
    obtain ⟨ds, xs, h2, h3, l⟩ := hs.get h1
    exact .base (.lst h3)
  | _ => cases h
theorem ok_isi (sub : Str → Str → Option Bool) (nosub : ∀ c c', sub c c' = none) : CallOk T X (rIsi X.K) (fIsi sub) := fun W σ β H S xs vs Q hs l h => by
  unfold fIsi at h
  split at h
  · rename_i _ x t
    cases eb : (tyD x).bind fun t' => L2.kitB t' t with
    | none => rw [eb] at h; exact h.elim
    | some b =>
      rw [eb] at h
      obtain ⟨v, u, rfl, r1, r2⟩ := RepL.two l
      simp only [Option.bind_eq_some_iff] at eb
      obtain ⟨t0, e1, e2⟩ := eb
      cases (show u = _ from r2)
      exact ⟨v, .ty t, .type t0, .type t, b, rfl, .ty t, tyX_of hs r1 e1, kit_ty e2, post.val h hs rfl⟩
  · rw [nosub] at h
    exact h.elim
  · exact h.elim

/-! ### list(range(..)), tuple(range(..)) -/
/-- an expression that makes a range, as data its ints -/
structure PXRg (T : List (Addr × Str)) (X : Cx) (e : Expr) (it : AF) : Prop where
  run : ∀ W, Takes X W → ∃ te, PRg X e te ∧ ∀ (σ : St) (H : Hp) (β : Bt) (ρ : Env) (S : Sto) (Z : Int → Int → Hp → Prop), SOk (wo X T) β H S → RepE (wo X T) β H ρ σ →
    (match it ρ S with
      | .ok ds S => ∀ i j β' H', ds = rngL i (j - i).toNat → (-(2 ^ 62) ≤ i ∧ i < 2 ^ 62 ∧ -(2 ^ 62) ≤ j ∧ j < 2 ^ 62) → Ext β H β' H' → SOk (wo X T) β' H' S → Z i j H'
      | .exc c d S => ∀ C dx v β' H', Ext β H β' H' → SOk (wo X T) β' H' S → X.mg c = some (.ref C) → H' dx = some (.xd [(("value" : Str), v)]) → Rep (wo X T) β' H' d v → W (.ref C) (some dx) σ H'
      | .bad => False) → te σ H Z
theorem pxr_1 (hm : X.mg "range" = none) (ha : PX T X a fa) (hg : Gl X "range" := by rfl) (na : starEach [a] X.env = (false, eval a X.env) :: starEach [] X.env := by rfl) : PXRg T X (.Call (.Name "range" p) [a] [] pos) (fRange1 (aCons fa aNil)) :=
  ⟨fun W t => ⟨_, prg_1 hg hm (ha.run W t) na, fun σ H β ρ S Z hs he h => by
    refine ⟨β, ρ, S, hs, he, ?_⟩
    unfold fRange1 aCons aNil at h
    cases q : fa ρ S with
    | ok d S1 =>
      rw [q] at h
      simp only [bind_ok] at h
      intro v β1 H1 x1 k1 r1
      cases d with
      | int j =>
        by_cases hj : -(2 ^ 62) ≤ j ∧ j < 2 ^ 62
        · simp only [if_pos hj] at h
          exact ⟨j, r1, h 0 j β1 H1 (by simp) ⟨by omega, by omega, hj.1, hj.2⟩ x1 k1⟩
        · simp only [if_neg hj] at h
      | _ => exact h.elim
    | exc c d S1 => rw [q] at h; exact h
    | bad => rw [q] at h; exact h⟩⟩
theorem pxr_2 (hm : X.mg "range" = none) (ha : PX T X a fa) (hb : PX T X b fb) (hg : Gl X "range" := by rfl) (na : starEach [a, b] X.env = (false, eval a X.env) :: starEach [b] X.env := by rfl)
    (nb : starEach [b] X.env = (false, eval b X.env) :: starEach [] X.env := by rfl) (hp : (backTo pos (starEach [b] X.env)).any (·.1) = false := by rfl) : PXRg T X (.Call (.Name "range" p) [a, b] [] pos) (fRange2 (aCons fa (aCons fb aNil))) :=
  ⟨fun W t => ⟨_, prg_2 hg hm (ha.run W t) (hb.run W t) na nb hp, fun σ H β ρ S Z hs he h => by
    refine ⟨β, ρ, S, hs, he, ?_⟩
    unfold fRange2 aCons aNil at h
    cases q : fa ρ S with
    | ok d S1 =>
      rw [q] at h
      simp only [bind_ok] at h
      intro v β1 H1 x1 k1 r1
      refine ⟨β1, ρ, S1, k1, he.ext x1.toExtW, ?_⟩
      cases q2 : fb ρ S1 with
      | ok d2 S2 =>
        rw [q2] at h
        simp only [bind_ok] at h
        intro v2 β2 H2 x2 k2 r2
        cases d with
        | int i =>
          cases d2 with
          | int j =>
            by_cases hj : -(2 ^ 62) ≤ i ∧ i < 2 ^ 62 ∧ -(2 ^ 62) ≤ j ∧ j < 2 ^ 62
            · simp only [if_pos hj] at h
              exact ⟨i, j, r1, r2, h i j β2 H2 rfl hj (x1.trans x2) k2⟩
            · simp only [if_neg hj] at h
          | _ => exact h.elim
        | _ => cases d2 <;> exact h.elim
      | exc c d S2 => rw [q2] at h; exact fun C dx v β2 H2 x2 k2 => h C dx v β2 H2 (x1.trans x2) k2
      | bad => rw [q2] at h; exact h
    | exc c d S1 => rw [q] at h; exact h
    | bad => rw [q] at h; exact h⟩⟩
theorem rep_rng {w : Wo} {β : Bt} {H : Hp} : ∀ (n : Nat) (lo : Int), RepL w β H (rngL lo n) ((List.range n).map fun i => V.int (lo + (i : Nat)))
  | 0, _ => rfl
  | n + 1, lo => by
    rw [List.range_succ_eq_map, List.map_cons, List.map_map]
    refine ⟨_, _, rfl, by show V.int _ = V.int _; simp, ?_⟩
    have h := rep_rng (w := w) (β := β) (H := H) n (lo + 1)
    have e : (List.map ((fun i => V.int (lo + (i : Nat))) ∘ Nat.succ) (List.range n)) = (List.range n).map fun i => V.int (lo + 1 + (i : Nat)) := by
      apply List.map_congr_left
      intro i _
      simp only [Function.comp, Nat.succ_eq_add_one]
      congr 1
      omega
    rw [e]
    exact h
theorem px_listRg {it : AF} (hc : X.calm = true) (hm : X.mg "list" = none) (h : PXRg T X e it) (hg : Gl X "list" := by rfl) (na : starEach [e] X.env = (false, eval e X.env) :: starEach [] X.env := by rfl) : PX T X (.Call (.Name "list" p) [e] [] pos) (eListRg it) := by
  refine ⟨fun W t => ?_⟩
  obtain ⟨te, h1, h2⟩ := h.run W t
  refine PE.weak (pe_listRg hc hg hm h1 na) fun σ H Q ⟨β, ρ, S, hs, he, h⟩ => h2 σ H β ρ S _ hs he ?_
  unfold eListRg at h
  cases q : it ρ S with
  | ok ds S1 =>
    rw [q] at h
    simp only [bind_ok] at h
    intro i j β1 H1 ed hb x1 k1
    by_cases hz : ds.length ≤ 16777216
    · rw [if_pos hz] at h
      subst ed
      rw [rngL_length] at hz
      exact ⟨⟨hb.1, hb.2.1, hb.2.2.1, hb.2.2.2, hz⟩, fun q hq => (post.ext h x1) (.ref q) β1 _ (.new hq) (k1.new hq) ⟨q, _, rfl, .inl ⟨upd_same, notin_of k1 hq⟩, rep_rng _ _⟩⟩
    · rw [if_neg hz] at h
      exact h.elim
  | exc c d S1 => rw [q] at h; exact h
  | bad => rw [q] at h; exact h

/-! ### tuple(x), list(x) -/
theorem items_of {β : Bt} {H : Hp} {S : Sto} {d : D} {v : V} {xs : List D} (hs : SOk (wo X T) β H S) (r : Rep (wo X T) β H d v) (h : items S d = some xs) : ∃ p ys, v = .ref p ∧ (SqL X.K H p ys ∨ SqT X.K H p ys) ∧ RepL (wo X T) β H xs ys := by
  cases d with
  | tup ds => cases h; obtain ⟨a, ys, rfl, h1, l⟩ := r; exact ⟨a, ys, rfl, .inr h1, l⟩
  | lst ds => cases h; obtain ⟨a, ys, rfl, h1, l⟩ := r; exact ⟨a, ys, rfl, .inl h1.sq, l⟩
  | loc n =>
    obtain ⟨a, rfl, h1⟩ := r
    obtain ⟨ds, ys, h2, h3, l⟩ := hs.get h1
    have h' : S[n]? = some xs := h
    rw [h2] at h'
    cases h'
    exact ⟨a, ys, rfl, .inl (.of h3), l⟩
  | _ => cases h
theorem ok_list : CallOk T X (fun xs H Q => ∃ p ys, xs = [.ref p] ∧ (SqL X.K H p ys ∨ SqT X.K H p ys) ∧ ∀ l, H l = none → Q (.ref l) (upd H l (.lst ys))) fList := fun W σ β H S xs vs Q hs l h => by
  match xs, l, h with
  | [], _, h => exact h.elim
  | _ :: _ :: _, _, h => exact h.elim
  | [x], l, h =>
    simp only [fList] at h
    cases e : items S x with
    | none => rw [e] at h; exact h.elim
    | some ds =>
      rw [e] at h
      obtain ⟨v, rfl, r⟩ := RepL.one l
      obtain ⟨p, ys, rfl, h1, h2⟩ := items_of hs r e
      exact ⟨p, ys, rfl, h1, fun q hq => h (.ref q) β _ (.new hq) (hs.new hq) ⟨q, ys, rfl, .inl ⟨upd_same, notin_of hs hq⟩, RepL.ext (Ext.new hq).toExtW ds ys h2⟩⟩
theorem ok_tuple : CallOk T X (fun xs H Q => ∃ p ys, xs = [.ref p] ∧ ((SqL X.K H p ys ∧ ∀ l, H l = none → Q (.ref l) (upd H l (.tup ys))) ∨ (SqT X.K H p ys ∧ Q (.ref p) H))) fTuple := fun W σ β H S xs vs Q hs l h => by
  match xs, l, h with
  | [], _, h => exact h.elim
  | _ :: _ :: _, _, h => exact h.elim
  | [x], l, h =>
    simp only [fTuple] at h
    cases e : items S x with
    | none => rw [e] at h; exact h.elim
    | some ds =>
      rw [e] at h
      obtain ⟨v, rfl, r⟩ := RepL.one l
      obtain ⟨p, ys, rfl, h1, h2⟩ := items_of hs r e
      rcases h1 with h1 | h1
      · exact ⟨p, ys, rfl, .inl ⟨h1, fun q hq => h (.ref q) β _ (.new hq) (hs.new hq) ⟨q, ys, rfl, .of upd_same, RepL.ext (Ext.new hq).toExtW ds ys h2⟩⟩⟩
      · exact ⟨p, ys, rfl, .inr ⟨h1, post.val h hs ⟨p, ys, rfl, h1, h2⟩⟩⟩

/-! ### slices -/
structure PXO (T : List (Addr × Str)) (X : Cx) (e : Option Expr) (f : OF) : Prop where
  run : ∀ W, Takes X W → PO X e (fun σ H Q => ∃ β ρ S, SOk (wo X T) β H S ∧ RepE (wo X T) β H ρ σ ∧ (match f ρ S with
    | .ok o S => ∀ β' H', Ext β H β' H' → SOk (wo X T) β' H' S → Q o H'
    | .exc c d S => ∀ C dx v β' H', Ext β H β' H' → SOk (wo X T) β' H' S → X.mg c = some (.ref C) → H' dx = some (.xd [(("value" : Str), v)]) → Rep (wo X T) β' H' d v → W (.ref C) (some dx) σ H'
    | .bad => False))
theorem PO.weak {e : Option Expr} {t t' : TO} (h : PO X e t) (k : ∀ σ H Q, t' σ H Q → t σ H Q) : PO X e t' := ⟨fun pins s σ H Q I q => h.run pins s σ H Q I (k σ H Q q)⟩
theorem pxo_none : PXO T X none oNone := ⟨fun W t => PO.weak po_none fun σ H Q ⟨β, ρ, S, hs, he, h⟩ => h β H (.refl _ _) hs⟩
theorem pxo_some (ha : PX T X a fa) : PXO T X (some a) (oSome fa) := ⟨fun W t => PO.weak (po_some (ha.run W t)) fun σ H Q ⟨β, ρ, S, hs, he, h⟩ => by
  refine ⟨β, ρ, S, hs, he, ?_⟩
  unfold oSome at h
  cases q : fa ρ S with
  | ok d S1 =>
    rw [q] at h
    simp only [bind_ok] at h
    intro v β1 H1 x1 k1 r1
    cases d with
    | int i => exact ⟨i, r1, h β1 H1 x1 k1⟩
    | _ => exact h.elim
  | exc c d S1 => rw [q] at h; exact h
  | bad => rw [q] at h; exact h⟩
theorem cut_rep {w : Wo} {β : Bt} {H : Hp} {ds : List D} {vs : List V} (l : RepL w β H ds vs) (lo hi : Option Int) : RepL w β H (cutD ds lo hi) (cutV vs lo hi) := by
  have dr : ∀ (n : Nat) {ds : List D} {vs : List V}, RepL w β H ds vs → RepL w β H (ds.drop n) (vs.drop n) := by
    intro n
    induction n with
    | zero => intro ds vs l; exact l
    | succ n ih =>
      intro ds vs l
      cases ds with
      | nil => cases (show vs = [] from l); exact rfl
      | cons d ds => obtain ⟨x, xr, rfl, _, l⟩ := l; exact ih l
  have tk : ∀ (n : Nat) {ds : List D} {vs : List V}, RepL w β H ds vs → RepL w β H (ds.take n) (vs.take n) := by
    intro n
    induction n with
    | zero => intro ds vs l; exact rfl
    | succ n ih =>
      intro ds vs l
      cases ds with
      | nil => cases (show vs = [] from l); exact rfl
      | cons d ds => obtain ⟨x, xr, rfl, r, l⟩ := l; exact ⟨x, _, rfl, r, ih l⟩
  unfold cutD cutV
  rw [l.length]
  exact tk _ (dr _ l)
theorem px_cut {lo hi : Option Expr} {fl fh : OF} {p2 : Pos} (ha : PX T X a fa) (hl : PXO T X lo fl) (hh : PXO T X hi fh) : PX T X (.Subscript a (.Slice lo hi none p2) pos) (eCut fa fl fh) :=
  ⟨fun W t => PE.weak (pe_slice (SlR.or sl_list sl_tupA) (ha.run W t) (hl.run W t) (hh.run W t)) fun σ H Q ⟨β, ρ, S, hs, he, h⟩ => tE_bind hs he h fun d S1 v β1 H1 x1 k1 e1 r1 q1 => by
    refine ⟨β1, ρ, S1, k1, e1, ?_⟩
    cases ql : fl ρ S1 with
    | bad => rw [ql] at q1; exact q1
    | exc c d S2 => rw [ql] at q1; exact q1
    | ok lo' S2 =>
      rw [ql] at q1
      simp only [bind_ok] at q1
      intro β2 H2 x2 k2
      refine ⟨β2, ρ, S2, k2, e1.ext x2.toExtW, ?_⟩
      replace q1 := post.ext q1 x2
      cases qh : fh ρ S2 with
      | bad => rw [qh] at q1; exact q1
      | exc c d S3 => rw [qh] at q1; exact q1
      | ok hi' S3 =>
        rw [qh] at q1
        simp only [bind_ok] at q1
        intro β3 H3 x3 k3
        replace q1 := post.ext q1 x3
        have r3 := Rep.ext (x2.trans x3).toExtW d v r1
        cases d with
        | lst ds =>
          obtain ⟨p, xs, rfl, h1, l⟩ := r3
          refine .inl ⟨p, xs, rfl, h1.sq, fun q hq => q1 (.ref q) β3 _ (.new hq) (k3.new hq) ⟨q, _, rfl, .inl ⟨upd_same, notin_of k3 hq⟩, RepL.ext (Ext.new hq).toExtW _ _ (cut_rep l lo' hi')⟩⟩
        | loc n =>
          obtain ⟨p, rfl, h1⟩ := r3
          obtain ⟨ds, xs, g1, g2, l⟩ := k3.get h1
          simp only [g1] at q1
          refine .inl ⟨p, xs, rfl, .of g2, fun q hq => q1 (.ref q) β3 _ (.new hq) (k3.new hq) ⟨q, _, rfl, .inl ⟨upd_same, notin_of k3 hq⟩, RepL.ext (Ext.new hq).toExtW _ _ (cut_rep l lo' hi')⟩⟩
        | tup ds =>
          obtain ⟨p, xs, rfl, h1, l⟩ := r3
          have cr := cut_rep l lo' hi'
          refine .inr ⟨p, xs, rfl, h1, fun wh => post.val q1 k3 ⟨p, xs, rfl, h1, ?_⟩, fun _ q hq => q1 (.ref q) β3 _ (.new hq) (k3.new hq) ⟨q, _, rfl, .of upd_same, RepL.ext (Ext.new hq).toExtW _ _ cr⟩⟩
          have e : cutV xs lo' hi' = xs := by
            unfold cutV
            rw [wh.1, wh.2]
            simp
          rw [e] at cr
          exact cr
        | _ => exact q1.elim⟩
theorem rep_rev {w : Wo} {β : Bt} {H : Hp} : ∀ {ds : List D} {vs : List V}, RepL w β H ds vs → RepL w β H ds.reverse vs.reverse
  | [], _, l => by cases (show _ = [] from l); exact rfl
  | d :: ds, _, ⟨x, xr, e, r, l⟩ => by
    subst e
    rw [List.reverse_cons, List.reverse_cons]
    exact RepL.append (rep_rev l) ⟨x, [], rfl, r, rfl⟩
theorem px_rev {k : Nat} {p1 p2 p3 : Pos} (ha : PX T X a fa) : PX T X (.Subscript a (.Slice none none (some (.UnaryOp .USub (.Constant (.int 1) k p1) p2)) p3) pos) (eRev fa) :=
  ⟨fun W t => PE.weak (pe_revL (ha.run W t)) fun σ H Q ⟨β, ρ, S, hs, he, h⟩ => tE_bind hs he h fun d S1 v β1 H1 x1 k1 e1 r1 q1 => by
    cases d with
    | lst ds =>
      obtain ⟨p, xs, rfl, h1, l⟩ := r1
      exact ⟨p, xs, rfl, h1.sq, fun q hq => q1 (.ref q) β1 _ (.new hq) (k1.new hq) ⟨q, _, rfl, .inl ⟨upd_same, notin_of k1 hq⟩, RepL.ext (Ext.new hq).toExtW _ _ (rep_rev l)⟩⟩
    | loc n =>
      obtain ⟨p, rfl, h1⟩ := r1
      obtain ⟨ds, xs, g1, g2, l⟩ := k1.get h1
      simp only [g1] at q1
      exact ⟨p, xs, rfl, .of g2, fun q hq => q1 (.ref q) β1 _ (.new hq) (k1.new hq) ⟨q, _, rfl, .inl ⟨upd_same, notin_of k1 hq⟩, RepL.ext (Ext.new hq).toExtW _ _ (rep_rev l)⟩⟩
    | _ => exact q1.elim⟩
/-! ### append -/
theorem px_append {apos : Pos} (ha : PX T X a fa) (hb : PX T X b fb) (hbase : attributeBase a "append" X.env (eval a X.env) = eval a X.env := by rfl)
    (hfew : ((backTo pos (starEach [b] X.env)).all (fun x => !x.1) && (backToKw pos (keywordEach [] X.env)).all (fun x => x.1.isSome) && decide ([b].length + ([] : List Keyword).length + (if ([] : List Keyword).isEmpty then 0 else 1) < 30)) = true := by rfl)
    (hline : (apos.endLine == pos.line) = true := by rfl) (hs : starEach [b] X.env = (false, eval b X.env) :: starEach [] X.env := by rfl) (hplain : (backTo pos (starEach [] X.env)).any (·.1) = false := by rfl) :
    PX T X (.Call (.Attribute a "append" apos) [b] [] pos) (eAppend fa fb) :=
  ⟨fun W t => PE.weak (pe_bm PySem.F.plainAttrs_list PySem.F.slot_list_append PySem.F.type_list_append mt_append (ha.run W t) (pa_cons (hb.run W t) pa_nil hs) hbase hfew hline hs hplain) fun σ H Q ⟨β, ρ, S, hs, he, h⟩ => tE_bind hs he h fun d S1 v β1 H1 x1 k1 e1 r1 q1 => by
    cases d with
    | loc n =>
      obtain ⟨p, rfl, h1⟩ := r1
      obtain ⟨ds0, xs0, g01, g02, l0⟩ := k1.get h1
      refine ⟨.inl ⟨rfl, xs0, .of g02⟩, tE_bind k1 e1 q1 fun d2 S2 v2 β2 H2 x2 k2 e2 r2 q2 => ?_⟩
      have h2 : β2.l[n]? = some p := x2.toExtW.get h1
      obtain ⟨ds, xs, g1, g2, l⟩ := k2.get h2
      simp only [g1] at q2
      by_cases hz : ds.length < 16777216
      · rw [if_pos hz] at q2
        exact ⟨p, xs, v2, rfl, rfl, g2, by rw [sizeLine_eq, ← l.length]; exact hz, q2 .non β2 _ (.chg g2 (List.mem_of_getElem? h2)) (k2.chg h2 g2 (RepL.append l ⟨v2, [], rfl, r2, rfl⟩)) rfl⟩
      · rw [if_neg hz] at q2
        exact q2.elim
    | _ => exact q1.elim⟩
end
end DL


set_option linter.all false
set_option autoImplicit false
set_option Elab.async false
set_option maxRecDepth 100000
set_option maxHeartbeats 2000000
/-! DLw7: the module's names; short rules for the derivations that are printed. -/
namespace DL
open PySem PySem.Spec L2
open PyProof.Rows hiding St b2i

/-- a def of the text as it stands behind the top -/
structure DefIn (K : PySem.W.Frag) (mg : Str → Option Value) (x : Str) (st : Stmt) : Prop where
  ex : ∃ (f : Addr) (oc : Value) (od : Option Addr) (kV doc pm : Value) (an : Option Addr) (cdv ct : Value) (osl : Array (Option Value)),
    mg x = some (.ref f) ∧ K.lookup f = some ⟨oc, od, .func (PySem.W.fnOf x x (defArgs st) (defBody st) (defScope st) .none kV doc pm an cdv ct), osl⟩ ∧ PySem.W.codeIn K cdv x = true ∧ PySem.W.keepIn K (.ref f) = true
/-- .. with its promise -/
structure Callee (P : Program) (w : World) (K : PySem.W.Frag) (mg : Str → Option Value) (base : Heap) (T : List (Addr × Str)) (gd : Bool) (k : Nat) (x : Str) (ps : List Str) (fn : FN) : Prop where
  ex : ∃ f fd, FnG P w K mg base T gd k f fd ps fn ∧ mg x = some (.ref f) ∧ PySem.W.keepIn K (.ref f) = true ∧ L2.Binds K fd ps []
/-- a constant of the module -/
structure Cst (K : PySem.W.Frag) (mg : Str → Option Value) (x : Str) (d : D) : Prop where
  ex : ∃ u v, mg x = some u ∧ RelV v u ∧ ∀ T β H, Rep ⟨K, mg, T⟩ β H d v
theorem Callee.mono {P : Program} {w : World} {K : PySem.W.Frag} {mg : Str → Option Value} {base : Heap} {T : List (Addr × Str)} {gd : Bool} {j k : Nat} {x : Str} {ps : List Str} {fn : FN} (c : Callee P w K mg base T gd j x ps fn) (h : j ≤ k) : Callee P w K mg base T gd k x ps fn := by
  obtain ⟨f, fd, F, a, b, d⟩ := c.ex
  exact ⟨f, fd, F.mono h, a, b, d⟩
theorem Callee.drop {P : Program} {w : World} {K : PySem.W.Frag} {mg : Str → Option Value} {base : Heap} {T : List (Addr × Str)} {gd : Bool} {k : Nat} {x : Str} {ps : List Str} {fn : FN} (c : Callee P w K mg base T gd k x ps fn) : Callee P w K mg base T gd k x ps (DL.drop fn) := by
  obtain ⟨f, fd, F, a, b, d⟩ := c.ex
  exact ⟨f, fd, F.drop, a, b, d⟩
section
variable {P : Program} {w : World} {K : PySem.W.Frag} {mg : Str → Option Value} {base : Heap} {T : List (Addr × Str)} {gd : Bool} {k : Nat} {x : Str} {st : Stmt} {N ps : List Str} {m n : Nat} {g : SF}
theorem callee_of (D : DefIn K mg x st) (Sc : FnScope N ps (defScope st)) (hm : ps.length = m) (hn : N.length = n)
    (hb : ∀ (kV doc pm : Value) (an : Option Addr) (cdv ct : Value) (us : List Value), us.length = ps.length → bindArgs (PySem.W.fnOf x x (defArgs st) (defBody st) (defScope st) .none kV doc pm an cdv ct) ⟨us, []⟩ = pure (ps.zip us))
    (body : ∀ (f : Addr) (cdv : Value) (A : Around) (outer : List PySem.Env) (s : Shared) (H : Hp) (E : XK), (gd = true → A.guards = some []) → Room k (A.deeper (envOfC x (defScope st) s.heap.objs.size f cdv)) → PXSs T (cxOf (L2.CX P w) P w K mg base N x (defScope st) f cdv A outer s H E) (defBody st) g) :
    Callee P w K mg base T gd (k + 1) x ps (mkFn m n g) := by
  obtain ⟨f, oc, od, kV, doc, pm, an, cdv, ct, osl, h1, h2, h3, h4⟩ := D.ex
  exact ⟨f, _, fnG_of h2 h3 Sc hm hn fun A outer s H E hg hr => body f cdv A outer s H E hg hr, h1, h4, .all (hb kV doc pm an cdv ct)⟩
end
section
variable {T : List (Addr × Str)} {X : Cx} {a b c e : Expr} {fa fb fc : EF} {pos p : Pos} {ga : AF} {es : List Expr} {x : Str}
theorem Room.u64 {k : Nat} {A : Around} (r : Room k A) : A.units + 64 < cLine := r.units
theorem Room.u65 {k : Nat} {A : Around} (r : Room k A) : A.units + 65 < cLine := by have := r.un; omega
theorem px_fn {gd : Bool} {k j : Nat} {ps : List Str} {fn : FN} (c : Callee X.prog X.w X.K X.mg X.base T gd k x ps fn) (hr : Room j X.A) (hj : k ≤ j) (hgd : gd = true → X.A.guards = some []) (ha : PXA T X (e :: es) ga) (hg : Gl X x := by rfl) (hdb : (x == ("__debug__" : Str)) = false := by decide)
    (he : starEach (e :: es) X.env = (false, eval e X.env) :: starEach es X.env := by rfl) (hpl : (backTo pos (starEach es X.env)).any (·.1) = false := by rfl) : PX T X (.Call (.Name x p) (e :: es) [] pos) (eCall fn ga) := by
  obtain ⟨f, fd, F, h1, h2, h3⟩ := c.ex
  exact px_call F (hr.mono hj) hgd h1 h2 h3 ha hg hdb he hpl
theorem px_cst {d : D} (c : Cst X.K X.mg x d) (hg : Gl X x := by rfl) (hd : (x == ("__debug__" : Str)) = false := by decide) : PX T X (.Name x pos) (eC d) := by
  obtain ⟨u, v, h1, h2, h3⟩ := c.ex
  exact px_const (pe_glob hg h1 h2 hd) fun β H => h3 T β H
theorem px_ty {t : String} (hm : X.mg x = none) (hv : bootBuiltins x = some (.type t)) (hg : Gl X x := by rfl) (hn : x ≠ "__name__" := by decide) (hd : (x == ("__debug__" : Str)) = false := by decide) : PX T X (.Name x pos) (eC (.ty t)) :=
  px_const (pe_bltn (v := .ty t) hg hm hv rfl hn hd) fun β H => rfl
theorem px_cls (hm : ∃ C, X.mg x = some (.ref C)) (hg : Gl X x := by rfl) (hd : (x == ("__debug__" : Str)) = false := by decide) : PX T X (.Name x pos) (eC (.cls x)) :=
  hm.elim fun C hm => px_const (pe_glob (v := .ref C) hg hm rfl hd) fun β H => ⟨C, rfl, hm⟩
theorem px_lt (ha : PX T X a fa) (hb : PX T X b fb) : PX T X (.Compare a [.Lt] [b] pos) (eBin dLt fa fb) := px_cmp op_lt (ok_iCmp _) ha hb (nomark _)
theorem px_le (ha : PX T X a fa) (hb : PX T X b fb) : PX T X (.Compare a [.LtE] [b] pos) (eBin dLe fa fb) := px_cmp op_le (ok_iCmp _) ha hb (nomark _)
theorem px_gt (ha : PX T X a fa) (hb : PX T X b fb) : PX T X (.Compare a [.Gt] [b] pos) (eBin dGt fa fb) := px_cmp op_gt (ok_iCmp _) ha hb (nomark _)
theorem px_ge (ha : PX T X a fa) (hb : PX T X b fb) : PX T X (.Compare a [.GtE] [b] pos) (eBin dGe fa fb) := px_cmp op_ge (ok_iCmp _) ha hb (nomark _)
theorem px_eq {j : Nat} (hr : Room j X.A) (ha : PX T X a fa) (hb : PX T X b fb) : PX T X (.Compare a [.Eq] [b] pos) (eBin dEq fa fb) := px_cmp (op_eqD (Room.u64 hr)) ok_eq ha hb (nomark _)
theorem px_ne {j : Nat} (hr : Room j X.A) (ha : PX T X a fa) (hb : PX T X b fb) : PX T X (.Compare a [.NotEq] [b] pos) (eBin dNe fa fb) := px_cmp (op_neD (Room.u64 hr)) ok_ne ha hb (nomark _)
theorem px_isN (ha : PX T X a fa) (hb : PX T X b fb) : PX T X (.Compare a [.Is] [b] pos) (eBin dIsN fa fb) := px_cmp op_isN ok_isN ha hb (nomark _)
theorem px_notN (ha : PX T X a fa) (hb : PX T X b fb) : PX T X (.Compare a [.IsNot] [b] pos) (eBin dNotN fa fb) := px_cmp op_notN ok_notN ha hb (nomark _)
theorem px_isB (ha : PX T X a fa) (hb : PX T X b fb) : PX T X (.Compare a [.Is] [b] pos) (eBin dIsB fa fb) := px_cmp op_isBl ok_isB ha hb (nomark _)
theorem px_notB (ha : PX T X a fa) (hb : PX T X b fb) : PX T X (.Compare a [.IsNot] [b] pos) (eBin dNotB fa fb) := px_cmp op_notBl ok_notB ha hb (nomark _)
theorem px_in {j : Nat} (hr : Room j X.A) (ha : PX T X a fa) (hb : PX T X b fb) (hm : behindInMarks .In b = false := by rfl) : PX T X (.Compare a [.In] [b] pos) (eBin dIn fa fb) := px_cmp (op_inQ (Room.u65 hr)) ok_in ha hb hm
theorem px_notIn {j : Nat} (hr : Room j X.A) (ha : PX T X a fa) (hb : PX T X b fb) (hm : behindInMarks .NotIn b = false := by rfl) : PX T X (.Compare a [.NotIn] [b] pos) (eBin dNotIn fa fb) := px_cmp (op_notInQ (Room.u65 hr)) ok_notIn ha hb hm
theorem pxt_lt (ha : PX T X a fa) (hb : PX T X b fb) : PXT T X (.Compare a [.Lt] [b] pos) (tOf (eBin dLt fa fb)) := pxt_cmp op_lt (ok_iCmp _) ha hb (nomark _)
theorem pxt_le (ha : PX T X a fa) (hb : PX T X b fb) : PXT T X (.Compare a [.LtE] [b] pos) (tOf (eBin dLe fa fb)) := pxt_cmp op_le (ok_iCmp _) ha hb (nomark _)
theorem pxt_gt (ha : PX T X a fa) (hb : PX T X b fb) : PXT T X (.Compare a [.Gt] [b] pos) (tOf (eBin dGt fa fb)) := pxt_cmp op_gt (ok_iCmp _) ha hb (nomark _)
theorem pxt_ge (ha : PX T X a fa) (hb : PX T X b fb) : PXT T X (.Compare a [.GtE] [b] pos) (tOf (eBin dGe fa fb)) := pxt_cmp op_ge (ok_iCmp _) ha hb (nomark _)
theorem pxt_eq {j : Nat} (hr : Room j X.A) (ha : PX T X a fa) (hb : PX T X b fb) : PXT T X (.Compare a [.Eq] [b] pos) (tOf (eBin dEq fa fb)) := pxt_cmp (op_eqD (Room.u64 hr)) ok_eq ha hb (nomark _)
theorem pxt_ne {j : Nat} (hr : Room j X.A) (ha : PX T X a fa) (hb : PX T X b fb) : PXT T X (.Compare a [.NotEq] [b] pos) (tOf (eBin dNe fa fb)) := pxt_cmp (op_neD (Room.u64 hr)) ok_ne ha hb (nomark _)
theorem pxt_isN (ha : PX T X a fa) (hb : PX T X b fb) : PXT T X (.Compare a [.Is] [b] pos) (tOf (eBin dIsN fa fb)) := pxt_cmp op_isN ok_isN ha hb (nomark _)
theorem pxt_notN (ha : PX T X a fa) (hb : PX T X b fb) : PXT T X (.Compare a [.IsNot] [b] pos) (tOf (eBin dNotN fa fb)) := pxt_cmp op_notN ok_notN ha hb (nomark _)
theorem pxt_isB (ha : PX T X a fa) (hb : PX T X b fb) : PXT T X (.Compare a [.Is] [b] pos) (tOf (eBin dIsB fa fb)) := pxt_cmp op_isBl ok_isB ha hb (nomark _)
theorem pxt_notB (ha : PX T X a fa) (hb : PX T X b fb) : PXT T X (.Compare a [.IsNot] [b] pos) (tOf (eBin dNotB fa fb)) := pxt_cmp op_notBl ok_notB ha hb (nomark _)
theorem pxt_in {j : Nat} (hr : Room j X.A) (ha : PX T X a fa) (hb : PX T X b fb) (hm : behindInMarks .In b = false := by rfl) : PXT T X (.Compare a [.In] [b] pos) (tOf (eBin dIn fa fb)) := pxt_cmp (op_inQ (Room.u65 hr)) ok_in ha hb hm
theorem pxt_notIn {j : Nat} (hr : Room j X.A) (ha : PX T X a fa) (hb : PX T X b fb) (hm : behindInMarks .NotIn b = false := by rfl) : PXT T X (.Compare a [.NotIn] [b] pos) (tOf (eBin dNotIn fa fb)) := pxt_cmp (op_notInQ (Room.u65 hr)) ok_notIn ha hb hm
/-! built-ins -/
theorem pb_abs (hm : X.mg "abs" = none) (ha : PXA T X (e :: es) ga) (hg : Gl X "abs" := by rfl) (he : starEach (e :: es) X.env = (false, eval e X.env) :: starEach es X.env := by rfl) (hpl : (backTo pos (starEach es X.env)).any (·.1) = false := by rfl) :
    PX T X (.Call (.Name "abs" p) (e :: es) [] pos) (eCall fAbs ga) := px_blt call_abs ok_abs hg hm (by decide +kernel) ha (by decide) (by decide) he hpl
theorem pb_len (hm : X.mg "len" = none) (ha : PXA T X (e :: es) ga) (hg : Gl X "len" := by rfl) (he : starEach (e :: es) X.env = (false, eval e X.env) :: starEach es X.env := by rfl) (hpl : (backTo pos (starEach es X.env)).any (·.1) = false := by rfl) :
    PX T X (.Call (.Name "len" p) (e :: es) [] pos) (eCall fLen ga) := px_blt call_len ok_len hg hm (by decide +kernel) ha (by decide) (by decide) he hpl
theorem pb_int (hm : X.mg "int" = none) (ha : PXA T X (e :: es) ga) (hg : Gl X "int" := by rfl) (he : starEach (e :: es) X.env = (false, eval e X.env) :: starEach es X.env := by rfl) (hpl : (backTo pos (starEach es X.env)).any (·.1) = false := by rfl) :
    PX T X (.Call (.Name "int" p) (e :: es) [] pos) (eCall fInt ga) := px_bty call_int1 ok_int hg hm (by decide +kernel) ha (by decide) (by decide) he hpl
theorem pb_max (hc : X.calm = true) (hm : X.mg "max" = none) (ha : PXA T X (e :: es) ga) (hg : Gl X "max" := by rfl) (he : starEach (e :: es) X.env = (false, eval e X.env) :: starEach es X.env := by rfl) (hpl : (backTo pos (starEach es X.env)).any (·.1) = false := by rfl) :
    PX T X (.Call (.Name "max" p) (e :: es) [] pos) (eCall fMax ga) := px_blt (call_max2 hc) ok_max hg hm (by decide +kernel) ha (by decide) (by decide) he hpl
theorem pb_min (hc : X.calm = true) (hm : X.mg "min" = none) (ha : PXA T X (e :: es) ga) (hg : Gl X "min" := by rfl) (he : starEach (e :: es) X.env = (false, eval e X.env) :: starEach es X.env := by rfl) (hpl : (backTo pos (starEach es X.env)).any (·.1) = false := by rfl) :
    PX T X (.Call (.Name "min" p) (e :: es) [] pos) (eCall fMin ga) := px_blt (call_min2 hc) ok_min hg hm (by decide +kernel) ha (by decide) (by decide) he hpl
theorem pb_all (hc : X.calm = true) (hm : X.mg "all" = none) (ha : PXA T X (e :: es) ga) (hg : Gl X "all" := by rfl) (he : starEach (e :: es) X.env = (false, eval e X.env) :: starEach es X.env := by rfl) (hpl : (backTo pos (starEach es X.env)).any (·.1) = false := by rfl) :
    PX T X (.Call (.Name "all" p) (e :: es) [] pos) (eCall fAll ga) := px_blt (cr_all hc) ok_all hg hm (by decide +kernel) ha (by decide) (by decide) he hpl
theorem pb_any (hc : X.calm = true) (hm : X.mg "any" = none) (ha : PXA T X (e :: es) ga) (hg : Gl X "any" := by rfl) (he : starEach (e :: es) X.env = (false, eval e X.env) :: starEach es X.env := by rfl) (hpl : (backTo pos (starEach es X.env)).any (·.1) = false := by rfl) :
    PX T X (.Call (.Name "any" p) (e :: es) [] pos) (eCall fAny ga) := px_blt (cr_any hc) ok_any hg hm (by decide +kernel) ha (by decide) (by decide) he hpl
theorem pb_sum (hc : X.calm = true) (hm : X.mg "sum" = none) (ha : PXA T X (e :: es) ga) (hg : Gl X "sum" := by rfl) (he : starEach (e :: es) X.env = (false, eval e X.env) :: starEach es X.env := by rfl) (hpl : (backTo pos (starEach es X.env)).any (·.1) = false := by rfl) :
    PX T X (.Call (.Name "sum" p) (e :: es) [] pos) (eCall fSum ga) := px_blt (cr_sum hc) ok_sum hg hm (by decide +kernel) ha (by decide) (by decide) he hpl
theorem pb_repr {j : Nat} (hr : Room j X.A) (hgd : X.A.guards = some []) (hm : X.mg "repr" = none) (ha : PXA T X (e :: es) ga) (hg : Gl X "repr" := by rfl) (he : starEach (e :: es) X.env = (false, eval e X.env) :: starEach es X.env := by rfl) (hpl : (backTo pos (starEach es X.env)).any (·.1) = false := by rfl) :
    PX T X (.Call (.Name "repr" p) (e :: es) [] pos) (eCall fRepr ga) := px_blt (call_reprD hgd (Room.u64 hr)) ok_repr hg hm (by decide +kernel) ha (by decide) (by decide) he hpl
theorem pb_tuple (hm : X.mg "tuple" = none) (ha : PXA T X (e :: es) ga) (hg : Gl X "tuple" := by rfl) (he : starEach (e :: es) X.env = (false, eval e X.env) :: starEach es X.env := by rfl) (hpl : (backTo pos (starEach es X.env)).any (·.1) = false := by rfl) :
    PX T X (.Call (.Name "tuple" p) (e :: es) [] pos) (eCall fTuple ga) := px_bty call_tuple_of ok_tuple hg hm (by decide +kernel) ha (by decide) (by decide) he hpl
theorem pb_list (hm : X.mg "list" = none) (ha : PXA T X (e :: es) ga) (hg : Gl X "list" := by rfl) (he : starEach (e :: es) X.env = (false, eval e X.env) :: starEach es X.env := by rfl) (hpl : (backTo pos (starEach es X.env)).any (·.1) = false := by rfl) :
    PX T X (.Call (.Name "list" p) (e :: es) [] pos) (eCall fList ga) := px_bty call_list_of ok_list hg hm (by decide +kernel) ha (by decide) (by decide) he hpl
end
end DL


set_option linter.all false
set_option autoImplicit false
set_option Elab.async false
set_option maxRecDepth 100000
set_option maxHeartbeats 2000000
/-! DLe1: an error class of the module whose own __init__ calls super's and keeps what it was given: made. -/
namespace ArmX
open PySem PySem.W PySem.Calls PyProof.Rows PySem.HandSPX

abbrev armArgs : Arguments := { posonlyargs := [], args := [{ arg := "self", annotation := none, pos := ⟨4, 17, 4, 21⟩ }, { arg := "value", annotation := none, pos := ⟨4, 23, 4, 28⟩ }], vararg := none, kwonlyargs := [], kw_defaults := [], kwarg := none, defaults := [] }
abbrev armBody : List Stmt :=
  [.Expr (.Call (.Attribute (.Call (.Name "super" ⟨5, 8, 5, 13⟩) [] [] ⟨5, 8, 5, 15⟩) "__init__" ⟨5, 8, 5, 24⟩) [.Name "value" ⟨5, 25, 5, 30⟩] [] ⟨5, 8, 5, 31⟩) ⟨5, 8, 5, 31⟩, .Assign [.Attribute (.Name "self" ⟨6, 8, 6, 12⟩) "value" ⟨6, 8, 6, 18⟩] (.Name "value" ⟨6, 21, 6, 26⟩) ⟨6, 8, 6, 26⟩]
abbrev armScope : Scope := { kind := .function, names := [(PySem.Str.ofString "self", .local), (PySem.Str.ofString "value", .local), (PySem.Str.ofString "__class__", .free), (PySem.Str.ofString "super", .globalImplicit)], isGenerator := false, isCoroutine := false, more := [] }

/-- what the written part holds of an error class at C: its base at D, the __init__ at fI -/
structure ArmAt (p : Program) (K : Frag) (C D fI : Addr) : Prop where
  cls : ∃ nm q N bs bm sn sub ab col dd k0 k1 k2 k3 k5, K.lookup C = some (excClassObj nm q C N bs bm true sn sub ab col dd k0 k1 k2 k3 k5 "ValueError.__new__") ∧ refsVE bm = true
  sa : findIn K (.ref C) "__setattr__" = some (some (.builtin "object.__setattr__"))
  ga : findIn K (.ref C) "__getattribute__" = some (some (.builtin "BaseException.__getattribute__"))
  gg : findIn K (.ref C) "__getattr__" = some none
  noN : findIn K (.ref C) "value" = some none
  iC : findIn K (.ref C) "__init__" = some (some (.ref fI))
  tC : typeIn K (.ref fI) = some (.type "function")
  kC : keepIn K (.ref C) = true
  exC : subIn K (.ref C) (.type "BaseException") = some true
  vC : subIn K (.ref C) (.type "ValueError") = some true
  tyC : typeIn K (.ref C) = some (.type "type")
  hdC : hasDictIn K C = true
  clD : ∃ cdD, clsIn K D = some cdD
  mD : mroIn K C (.ref D) = some true
  sm : ks_superIn K C D "__init__" = some (some (.builtin "ValueError.__init__"))
  ca : findIn K (.ref C) "__class__" = some (some (.builtin "object.__class__"))
  cn : specialIn K (.builtin "object.__class__") "__get__" = some (some (.builtin "getset_descriptor.__get__"))
  ct : takesIn K (.builtin "object.__class__") = some true
  cm : mroIn K C (.type "object") = some true
  th : nsIn K cStatics "thirdparty.any" = some none
  fn : ∃ (oc : Value) (od : Option Addr) (kV doc pm : Value) (an : Option Addr) (cda cc : Addr) (ct : Value) (osl : Array (Option Value)) (vs : Array Value) (file : Str) (tf : Tok) (ccl cl : Value) (cdd cld : Option Addr) (ccs csl : Array (Option Value)),
    K.lookup fI = some ⟨oc, od, .func (ksFn "__init__" "ArmError.__init__" armArgs armBody armScope .none kV doc pm an (.ref cda) ct cc), osl⟩ ∧ codeIn K (.ref cda) "ArmError.__init__" = true ∧
    K.lookup cda = some ⟨ccl, cdd, .fields vs, ccs⟩ ∧ vs[2]? = some (.str file tf) ∧ ((p.main.file : Str) == file) = true ∧ K.lookup cc = some ⟨cl, cld, .cell (some (.ref D)), csl⟩
  top : (p.main.scope.names.lookup ("super" : Str)).isSome = false

theorem sl1 (v : Value) : [v].length ≤ sizeLine := by
  rw [sizeLine_eq]; exact (by decide : 1 ≤ 16777216)
theorem ld_loc {M : Model} {s : Shared} {env : Env} {m : Str → Option Value} {x : Str} {pos : Pos} {v : Value} {Q : Value → Shared → Prop} {A : Around} {E : Value → Shared → Prop} (hn : s.heap.Ns env.locals m) (hv : m x = some v) (h : Q v s)
    (hk : env.scope.kind = .function) (hl : env.kindOf x = some .local) (hd : (x == ("__debug__" : Str)) = false := by decide) :
    wpAny M A (eval (.Name x pos) env) Q E s := wpAny_Name (wpAny_loadName_local hk hl hn hv h) hd
/-- a method-wrapper is called with one argument -/
theorem mw_args {M : Model} {s : Shared} {env : Env} {A : Around} {E : Value → Shared → Prop} {i : String} {u x : Addr} {e : Expr} {pos : Pos} {Q : Value → Shared → Prop}
    (h : wpAny M A (eval e env) (fun v s₁ => KxsAt i u x s₁.heap ∧ wpAny M A (call (.ref u) [v]) Q E s₁) E s) (he : starEach (e :: []) env = (false, eval e env) :: [] := by rfl) :
    wpAny M A (callWith pos (.ref u) [] (backTo pos (starEach (e :: []) env)) []) Q E s := by
  rw [he]; refine kxs_callWith (i := i) (x := x) rfl (evalArgs_plain (spliced_cons (wpAny_mono h (fun v s₁ h₁ => ?_) fun _ _ y => y)))
  exact Calls.spliced_nil h₁
theorem mw_call {prog : Program} {w : World} {A : Around} {E : Value → Shared → Prop} {h : Heap} {g : Array GenState} {d : Drawn} {tk : Nat} {os : OsState} {nm q : Str} {C N u x t0 : Addr} {bs bm sub : List Value} {sn : List Str} {ab hdct : Bool} {col : Option Bool} {dd : Option Addr} {k0 k1 k2 k3 k5 : Option Value} {v : Value} {Q : Value → Shared → Prop}
    (hC : h.get? C = some (excClassObj nm q C N bs bm hdct sn sub ab col dd k0 k1 k2 k3 k5 "ValueError.__new__")) (he : h.get? x = some (excO C t0)) (hu : h.get? u = some (kxs_mw "ValueError.__init__" x))
    (hq : ∀ h' t1, (∀ b o, b ≠ x → h.get? b = some o → h'.get? b = some o) → h'.get? x = some (excO C t1) → Q .none ⟨h', g, d, tk, os⟩) :
    wpAny (model prog w) A (call (.ref u) [v]) Q E ⟨h, g, d, tk, os⟩ := by
  refine wpAny_call (codeAny_of_tree ?_); show wpAny _ A.in1 (callAny (.ref u) ⟨[v], []⟩) _ _ _
  simp only [callAny]; refine wpAny_bind (wpAny_load hu ?_); simp only [kxs_mw, show (Value.type "method-wrapper" == Value.type "method" || Value.type "method-wrapper" == Value.type "builtin_function_or_method" || Value.type "method-wrapper" == Value.type "method-wrapper") = true by decide, if_true]; refine KFB.if_so (by decide) ?_
  refine wpAny_bind (check_bound_init (F.excBase_ValueError).toExcCallFacts hC he rfl ?_); refine wpAny_bind (wpAny_pure (wpAny_pure ?_)); refine ⟨plainId_quiet (F.excBase_ValueError).init.plain _, codeAny_builtin (F.excBase_ValueError).initEntry ?_⟩
  exact exc_init_tree (cls := .ref C) (t0 := t0) (dv := none) (c2 := .none) (c3 := .none) (b4 := .bool false) he (sl1 v) fun h' k' e' t' => hq h' h.objs.size k' e'
/-- the globals as __init__ needs them -/
structure GlobAt (mg : Str → Option Value) (h : Heap) : Prop where
  g : h.Ns mainGlobals mg
  b : ∃ mb, h.Ns builtinsNs mb ∧ mb "super" = some (.type "super")
  lim : h.NoLimit
theorem GlobAt.keeps {mg : Str → Option Value} {h h' : Heap} (G : GlobAt mg h) (k : ∀ b o, h.get? b = some o → h'.get? b = some o) : GlobAt mg h' := by
  obtain ⟨mb, b1, b2⟩ := G.b
  exact ⟨G.g.keeps k, ⟨mb, b1.keeps k, b2⟩, G.lim.keeps k⟩
/-- what __init__ leaves of the exception at x -/
structure Inited (h h' : Heap) (x C : Addr) (v : Value) : Prop where
  keep : ∀ b o, b ≠ x → h.get? b = some o → h'.get? b = some o
  obj : ∃ t dx, h'.get? x = some { cls := .ref C, dict := some dx, data := .fields #[.ref t, .none, .none, .none, .bool false, .none] } ∧ h.objs.size ≤ dx ∧ dx ≠ x ∧ h'.Ns1 dx (fun y => if y = "value" then some v else none)
section
variable {prog : Program} {w : World} {A : Around} {E : Value → Shared → Prop} {R : Result → Shared → Prop} {s : Shared} {K : Frag} {mg : Str → Option Value} {C D fI : Addr}
theorem arm_init (T : ArmAt prog K C D fI) (hsup : mg "super" = none) {x t0 : Addr} {v : Value} (X : K.In s.heap) (G : GlobAt mg s.heap) (hx : s.heap.get? x = some (excO C t0)) (hxn : K.lookup x = none) (hroom : A.depth < recursionLimit)
    (hq : ∀ h' tk, Inited s.heap h' x C v → R (.ok (.ret .none)) { s with heap := h', toks := tk }) :
    codeAny (model prog w) A (.call (.ref fI) ⟨[.ref x, v], []⟩) R s := by
  obtain ⟨oc, od, kV, doc, pm, an, cda, cc, ct, osl, vs, file, tf, ccl, cl, cdd, cld, ccs, csl, ho, hcd, hcode, hvs, hfile, hcell⟩ := T.fn
  obtain ⟨nm, q, N, bs, bm, sn, sub, ab, col, dd, k0, k1, k2, k3, k5, hC, hbm⟩ := T.cls
  have hcl : clsIn K C = some { name := nm, bases := bs, mro := .ref C :: bm, ns := N, qualname := q, hasDict := true, slotNames := sn, subclasses := sub, abstract := ab, collection := col, hasDel := false } := by unfold clsIn; rw [hC] <;> rfl
  refine ks_codeAny_call_defAt (fd := ksFn "__init__" "ArmError.__init__" armArgs armBody armScope .none kV doc pm an (.ref cda) ct cc) (binds := [("self", .ref x), ("value", v)]) hroom (X _ _ ho) rfl G.lim (codeRec_of X hcd) rfl (BindsTo.of_eq (by first | rfl | with_unfolding_all rfl)) (show ∀ y ∈ armScope.names, y.2 ≠ .cell by decide) (fun y hy => ?_) (fun h₁ hn k => ?_) rfl rfl rfl
  · rcases List.mem_cons.mp hy with rfl | hy
    · rfl
    · rcases List.mem_cons.mp hy with rfl | hy
      · rfl
      · cases hy
  have X₁ : K.In h₁ := X.keeps k
  have G₁ := G.keeps k
  have hx₁ := k _ _ hx
  have hLs : s.heap.objs.size < h₁.objs.size := hn.lt
  have hxL : x ≠ s.heap.objs.size := Nat.ne_of_lt (Heap.lt_size hx)
  obtain ⟨hp, g, d, tk, os⟩ := s
  obtain ⟨cdD, hD⟩ := T.clD
  obtain ⟨mb, hb, hbs⟩ := G₁.b
  obtain ⟨oD, hD1, hD2⟩ : ∃ oD, h₁.get? D = some oD ∧ oD.data = .cls cdD := by
    unfold clsIn at hD
    split at hD
    · rename_i c d cd' sl ho'
      cases hD
      exact ⟨_, X₁ _ _ ho', rfl⟩
    · cases hD
  have I : InstAt h₁ x (excO C t0) C none := ⟨hx₁, rfl, rfl, trivial⟩
  refine ks_wpAt_execs_cons ?_
  refine ks_wpAt_Expr_any ?_
  refine ks_wpAt_MethodCall ?_
  refine ks_wpAt_super_base (env := ksEnv "ArmError.__init__" armScope hp.objs.size fI (.ref cda) cc) rfl rfl rfl rfl (X₁ _ _ ho) rfl rfl rfl (X₁ _ _ hcode) rfl hvs hfile T.top ?_
  refine ks_loadName_global rfl rfl (loadGlobal_builtin (env := ksEnv "ArmError.__init__" armScope hp.objs.size fI (.ref cda) cc) G₁.g hsup hb hbs ⟨rfl, ?_⟩)
  refine wpAny_loadName_free rfl rfl rfl ⟨_, X₁ _ _ hcell, rfl⟩ ?_
  refine wpAny_loadName_local rfl rfl hn (by first | rfl | with_unfolding_all rfl | kernel_rfl) ?_
  refine ks_wpAny_isType_cls hD1 hD2 ⟨rfl, ?_⟩
  refine ks_wpAny_call_super hD1 hD2 hx₁ rfl (fun c e => by cases e) (looks_mroIn X₁ T.mD) (fun h₂ e₂ k₂ => ?_)
  have X₂ : K.In h₂ := X₁.keeps k₂
  have I₂ : InstAt h₂ x (excO C t0) C none := ⟨k₂ _ _ hx₁, rfl, rfl, trivial⟩
  have hm := T.sm
  unfold ks_superIn at hm
  rw [hcl] at hm
  refine kxs_getMethod kxs_ValueError e₂ (looks_opaque X₂ T.th) (l₀ := .ref C :: bm) (fun A Q E s k q => wpAny_bind ((looks_clsIn X₂ hcl) A _ E s k (wpAny_pure q))) rfl X₂ hm (I₂.type.andThen (looks_subIn X₂ T.vC)) (ks_ne X₂ I₂ hcl) rfl ?_
  have hmw : (h₂.push (kxs_mw "ValueError.__init__" x)).get? h₂.objs.size = some (kxs_mw "ValueError.__init__" x) := Heap.get?_push_at rfl rfl
  have k₃ : ∀ b o, h₂.get? b = some o → (h₂.push (kxs_mw "ValueError.__init__" x)).get? b = some o := fun b o e => Heap.get?_push_of_some _ e
  have hn₃ := (hn.keeps k₂).keeps k₃
  have hx₃ := k₃ _ _ (k₂ _ _ hx₁)
  refine mw_args (i := "ValueError.__init__") (x := x) (ld_loc hn₃ (v := v) (by first | rfl | with_unfolding_all rfl | kernel_rfl) ⟨hmw, ?_⟩ rfl rfl)
  refine mw_call (k₃ _ _ (k₂ _ _ (k _ _ (X _ _ hC)))) hx₃ hmw fun h₄ t1 k₄ e₄ => ?_
  have hLx : hp.objs.size ≠ x := fun z => hxL z.symm
  have old : ∀ b o, b ≠ x → h₁.get? b = some o → h₄.get? b = some o := fun b o hb e => k₄ b o hb (k₃ b o (k₂ b o e))
  have hn₄ : h₄.Ns hp.objs.size _ := hn₃.at fun o e => k₄ _ o hLx e
  have X₄ : K.In h₄ := fun a o e => old a o (fun z => by
    rw [z, hxn] at e; cases e) (X₁ a o e)
  show PySem.wpAt _ _ _ (execs _ _) _ _ _
  refine wpAt_of_wpAny (wpAny_execs_cons (plainObj_wpAny_Assign_Attribute ?_))
  refine ld_loc hn₄ (v := v) (by first | rfl | with_unfolding_all rfl | kernel_rfl) (ld_loc hn₄ (v := .ref x) (by first | rfl | with_unfolding_all rfl | kernel_rfl) ?_ rfl rfl) rfl rfl
  refine set_plain X₄ (ox := excO C t1) (od := none) ⟨e₄, rfl, rfl, trivial⟩ T.sa ?_
  refine exc_osa X₄ e₄ hcl (show refsVE (.ref C :: bm) = true from hbm) rfl T.noN (fun h₅ tk₅ dx k₅ dn dne hx₅ hn₅ => ?_)
  show wpAny _ _ (execs _ _) _ _ _
  have z : hp.objs.size ≤ h₄.objs.size := Nat.le_of_lt hn₄.lt
  exact wpAny_execs_nil (hq h₅ tk₅ ⟨fun b o hb e => k₅ b o hb (old b o hb (k b o e)), t1, dx, hx₅, Nat.le_trans z dn, dne, hn₅⟩)
/-- a made exception of the class at C, holding v under value -/
structure ArmMade (h h' : Heap) (e C : Addr) (v : Value) : Prop where
  keep : ∀ b o, h.get? b = some o → h'.get? b = some o
  new : h.objs.size ≤ e
  obj : ∃ t d, h'.get? e = some { cls := .ref C, dict := some d, data := .fields #[.ref t, .none, .none, .none, .bool false, .none] } ∧ h.objs.size ≤ d ∧ d ≠ e ∧ h'.Ns1 d (fun y => if y = "value" then some v else none)
theorem arm_made (T : ArmAt prog K C D fI) (hsup : mg "super" = none) {v : Value} (X : K.In s.heap) (G : GlobAt mg s.heap) (hroom : A.depth + 1 < recursionLimit)
    (hq : ∀ h' tk e, ArmMade s.heap h' e C v → R (.ok (.ret (.ref e))) { s with heap := h', toks := tk }) :
    codeAny (model prog w) A (.call (.ref C) ⟨[v], []⟩) R s := by
  obtain ⟨nm, q, N, bs, bm, sn, sub, ab, col, dd, k0, k1, k2, k3, k5, hC, hbm⟩ := T.cls
  obtain ⟨hp, g, dr, tk, os⟩ := s
  have k : ∀ b o, hp.get? b = some o → ((hp.push (kdv_tup [v])).push (excO C hp.objs.size)).get? b = some o := fun b o e => Heap.get?_push_of_some _ (Heap.get?_push_of_some _ e)
  have hget : ((hp.push (kdv_tup [v])).push (excO C hp.objs.size)).get? (hp.objs.size + 1) = some (excO C hp.objs.size) := by heap_get
  have hnx : K.lookup (hp.objs.size + 1) = none := by
    cases e : K.lookup (hp.objs.size + 1) with
    | none => rfl
    | some o =>
      have z : hp.get? (hp.objs.size + 1) = some o := X _ _ e
      exact absurd (Nat.lt_of_succ_lt (Heap.lt_size z)) (Nat.lt_irrefl _)
  refine call_own F.excBase_ValueError (fun Y => refsVE_contains Y bm hbm) (X _ _ hC) (looks_findIn X T.iC) (fun self => bind_fn X self T.tC) (sl1 v) ?_
  refine arm_init (s := ⟨(hp.push (kdv_tup [v])).push (excO C hp.objs.size), g, dr, tk, os⟩) T hsup (X.keeps k) (G.keeps k) hget hnx ?_ fun h' tk' M => ?_
  · show A.depth + 1 < recursionLimit
    exact hroom
  · obtain ⟨t, dx, hx, dn, dne, hns⟩ := M.obj
    have old : ∀ b o, hp.get? b = some o → h'.get? b = some o := fun b o e => M.keep b o (Nat.ne_of_lt (Nat.lt_succ_of_lt (Heap.lt_size e))) (k b o e)
    have dn' : ((hp.push (kdv_tup [v])).push (excO C hp.objs.size)).objs.size ≤ dx := dn
    rw [Heap.size_push, Heap.size_push] at dn'
    exact ⟨rfl, hq h' tk' (hp.objs.size + 1) ⟨old, Nat.le_succ _, t, dx, hx, Nat.le_trans (Nat.le_succ_of_le (Nat.le_succ _)) dn', dne, hns⟩⟩
end
end ArmX


set_option linter.all false
set_option autoImplicit false
set_option Elab.async false
set_option maxRecDepth 100000
set_option maxHeartbeats 2000000
/-! DLe2: raise of an error class of the module. -/
namespace DL
open PySem PySem.Spec L2
open PyProof.Rows hiding St b2i
/-- an error class as the module holds it: ArmError over it -/
structure ExcAt (P : Program) (K : PySem.W.Frag) (mg : Str → Option Value) (c : Str) : Prop where
  ex : ∃ C D fI, mg c = some (.ref C) ∧ ArmX.ArmAt P K C D fI
  sup : mg "super" = none
section
variable {X : Cx} {pins : List (Addr × Obj)} {σ : St} {H : Hp} {s : Shared}
theorem Inv.globAt (I : Inv X pins σ H s) : ArmX.GlobAt X.mg s.heap := by
  refine ⟨I.mod.glob.keeps I.bk, ?_, I.nolimit⟩
  obtain ⟨mb, h1, h2⟩ := I.mod.blt
  exact ⟨mb, h1.keeps I.bk, (h2 _ (by decide)).trans (by first | rfl | boot_by_name | kernel_rfl)⟩
theorem relO_value {v : V} {v' : Value} (r : RelV v v') (f : Str) : RelO (List.lookup f [(("value" : Str), v)]) (if f = "value" then some v' else none) := by
  by_cases hw : f = "value"
  · subst hw; rw [if_pos rfl]
    have q : List.lookup ("value" : Str) [(("value" : Str), v)] = some v := by simp [List.lookup]
    rw [q]; exact r
  · have qw : (f == ("value" : Str)) = false := by simpa using hw
    have q2 : List.lookup f [(("value" : Str), v)] = none := by simp [List.lookup, qw]
    rw [if_neg hw, q2]; trivial
end
section
variable {X : Cx} {C D fI : Addr}
/-- the class at C, called with one value -/
def tMkArm (C : Addr) (ta : TA) : St → Hp → XK → Prop := fun σ H Q => ta σ H fun vs H1 => ∃ v, vs = [v] ∧ ∀ d, H1 d = none → Q (.ref C) (some d) (upd H1 d (.xd [(("value" : Str), v)]))
theorem pmk_arm {a : Expr} {ta : TA} {x : Str} {p pos : Pos} {k : Nat} (gC : X.mg x = some (.ref C)) (T : ArmX.ArmAt X.prog X.K C D fI) (hs : X.mg "super" = none) (hr : Room k X.A) (ha : PA X [a] ta) (hg : Gl X x) (hdb : (x == ("__debug__" : Str)) = false)
    (he : starEach (a :: []) X.env = (false, eval a X.env) :: starEach [] X.env) (hpl : (backTo pos (starEach [] X.env)).any (·.1) = false) :
    PMk X (.Call (.Name x p) [a] [] pos) (tMkArm C ta) := by
  intro pins s σ H Q I h
  refine wpAny_Call_Name_kw (ld_glob I hg gC ?_ hdb)
  refine PySem.W.callWith_K (h₀ := X.base) I.ok.mod.kin T.kC (thn (ha.run pos pins s σ H _ I h) fun us s1 hh => ?_) he hpl
  obtain ⟨vs, H1, I1, r1, v, ev, q1⟩ := hh
  subst ev
  refine ⟨I1.kIn, ?_⟩
  cases r1 with
  | cons rv rn =>
    rename_i v' us'
    cases rn
    show wpAny _ _ (call (.ref C) [v']) _ _ _
    have G1 := Inv.globAt I1
    obtain ⟨hp, g, dr, tk, os⟩ := s1
    refine wpAny_call (ArmX.arm_made T hs I1.kIn G1 (by have := hr.dp; omega) fun h' tk' e M => ?_)
    show MkP X pins σ Q (.ref e) ⟨h', g, dr, tk', os⟩
    obtain ⟨t, d, hoe, dn, dne, hns⟩ := M.obj
    obtain ⟨G', g1, g2⟩ := restrict h' fun b => decide (b ≠ e)
    have gk : ∀ b, b ≠ e → G'.get? b = h'.get? b := fun b hb => g1 b (decide_eq_true hb)
    have ge : G'.get? e = none := g2 e (by simp)
    have old : ∀ b o, hp.get? b = some o → G'.get? b = some o := fun b o q => (gk b (Nat.ne_of_lt (Nat.lt_of_lt_of_le (Heap.lt_size q) M.new))).trans (M.keep b o q)
    have ob : ObjOk X.prog X.w (upd H1 d (.xd [(("value" : Str), v)])) G' d (.xd [(("value" : Str), v)]) := ⟨_, hns.at (fun o q => (gk d dne).trans q), fun f => relO_value rv f⟩
    have J : Inv X pins σ (upd H1 d (.xd [(("value" : Str), v)])) ⟨G', g, dr, tk', os⟩ := I1.laid (t' := tk') old dn ob
    refine ⟨e, _, _, ⟨G', g, dr, tk', os⟩, _, .ref C, some d, rfl, J, fun b o q => ?_, ge, hoe, ⟨rfl, rfl⟩, rfl, rfl, ?_, rfl, I1.bare, raises_own T.exC T.tyC, q1 d (I1.hok.fresh dn)⟩
    · by_cases hb : b = e
      · have q' : G'.get? b = some o := q
        rw [hb, ge] at q'; cases q'
      · exact (gk b hb).symm.trans q
    · rw [upd_ne (Ne.symm dne)]
      exact I1.hok.fresh M.new
end
section
variable {T : List (Addr × Str)} {X : Cx} {a : Expr} {fa : EF} {pos p pos2 : Pos} {x : Str}
theorem px_raise {k : Nat} (hc : X.calm = true) (h : ExcAt X.prog X.K X.mg x) (hr : Room k X.A) (ha : PX T X a fa) (hg : Gl X x := by rfl) (hdb : (x == ("__debug__" : Str)) = false := by decide) (he : starEach (a :: []) X.env = (false, eval a X.env) :: starEach [] X.env := by rfl) (hpl : (backTo pos (starEach [] X.env)).any (·.1) = false := by rfl) :
    PXS T X (.Raise (some (.Call (.Name x p) [a] [] pos)) none pos2) (sRaise x fa) := by
  obtain ⟨C, D, fI, gC, TA'⟩ := h.ex
  refine ⟨fun W tk => PS.weak (ps_raise hc tk (pmk_arm gC TA' h.sup hr (pa_cons (hs := he) (ha.run W tk) pa_nil) hg hdb he hpl)) fun Y σ H q => ?_⟩
  obtain ⟨β, ρ, S, hs, he', q⟩ := q
  show tE _ _ _ _ _ _
  refine tE_st hs he' q fun d S1 v β1 H1 x1 k1 e1 r1 q1 => ?_
  refine ⟨v, rfl, fun dx hdx => ?_⟩
  exact q1 C dx v σ β1 _ (Ext.new hdx) (k1.new hdx) (e1.ext (Ext.new hdx).toExtW) gC upd_same (Rep.ext (Ext.new hdx).toExtW d v r1)
end
end DL


set_option linter.all false
set_option autoImplicit false
set_option Elab.async false
set_option maxRecDepth 100000
set_option maxHeartbeats 2000000
/-! DLe3: isinstance of a caught exception, its value. -/
namespace DL
open PySem PySem.Spec L2
open PyProof.Rows hiding St b2i
/-- which error class lies under which -/
structure SubAt (P : Program) (K : PySem.W.Frag) (mg : Str → Option Value) (sub : Str → Str → Option Bool) : Prop where
  ex : ∀ c c' b, sub c c' = some b → ∃ C C' D fI, mg c = some (.ref C) ∧ mg c' = some (.ref C') ∧ ArmX.ArmAt P K C D fI ∧ PySem.W.kitOne K (.ref C) (.ref C') = some b ∧ PySem.W.exmOne K (.ref C) (.ref C') = some b
/-- a kept exception as an instance -/
theorem exv_inst {X : Cx} {pins : List (Addr × Obj)} {σ : St} {H : Hp} {s : Shared} {C dx a : Addr} {x : V} (I : Inv X pins σ H s) (h1 : H a = some (ExV C dx a)) (h2 : H dx = some (.xd [(("value" : Str), x)])) :
    ∃ oe od u, PySem.W.InstAt s.heap a oe C (some od) ∧ PySem.W.lookIn "value" od = some (some u) ∧ RelV x u := by
  obtain ⟨⟨oe, vs, e1, z, e2⟩, _⟩ := (show ObjOk X.prog X.w H s.heap a (ExV C dx a) from I.hok a _ h1)
  obtain ⟨mA, hns, hr⟩ := (show ObjOk X.prog X.w H s.heap dx (.xd [(("value" : Str), x)]) from I.hok dx _ h2)
  obtain ⟨od, ho, hl⟩ := lookIn_ns hns
  have l : List.lookup ("value" : Str) [(("value" : Str), x)] = some x := by simp [List.lookup]
  obtain ⟨u, hu, ru⟩ := RelO.some_of (v := x) (o := mA "value") (by rw [← l]; exact hr "value")
  exact ⟨oe, od, u, ⟨e1, z.1, by unfold PySem.W.notCls; rw [e2] <;> rfl, by rw [z.2]; exact ho⟩, by rw [hl, hu], ru⟩
/-- isinstance(e, C'), e a kept exception -/
def rIsiX (P : Program) (K : PySem.W.Frag) : List V → Hp → VK → Prop := fun xs H Q => ∃ (a C dx C' D fI : Addr) (x : V) (b : Bool), xs = [.ref a, .ref C'] ∧ H a = some (ExV C dx a) ∧ H dx = some (.xd [(("value" : Str), x)]) ∧
  ArmX.ArmAt P K C D fI ∧ PySem.W.kitOne K (.ref C) (.ref C') = some b ∧ Q (.bl b) H
theorem call_isiX {X : Cx} : CallR X (.builtin "isinstance") (rIsiX X.prog X.K) := by
  intro pins s σ H xs us Q I r h
  obtain ⟨a, C, dx, C', D, fI, x, b, rfl, h1, h2, T, e, q⟩ := h
  obtain ⟨u1, u2, rfl, r1, r2⟩ := vals2 r
  cases (show u1 = Value.ref a from r1)
  cases (show u2 = Value.ref C' from r2)
  obtain ⟨oe, od, u, J, _, _⟩ := exv_inst I h1 h2
  have hc : (PySem.W.clsIn X.K C).isSome = true := by
    obtain ⟨cd, hc, _⟩ := PySem.W.any_some T.hdC
    rw [hc]; rfl
  exact PySem.W.kia_one (PySem.W.kitx_exc (ox := oe) (od := some od) hc T.ga T.gg T.exC T.ca T.cn T.ct T.cm) I.kIn J e (fun z => nomatch z) fun tk => ⟨.bl b, H, I.tok tk, rfl, q⟩
section
variable {T : List (Addr × Str)} {X : Cx} {a b c e : Expr} {fa fb fc : EF} {pos p pos2 : Pos} {ga : AF} {es : List Expr} {x : Str} {sub : Str → Str → Option Bool}
theorem ok_isiX (hs : SubAt X.prog X.K X.mg sub) : CallOk T X (fun xs H Q => rIsi X.K xs H Q ∨ rIsiX X.prog X.K xs H Q) (fIsi sub) := fun W σ β H S xs vs Q k l h => by
  unfold fIsi at h
  split at h
  · rename_i _ x t
    refine .inl (ok_isi (T := T) (fun _ _ => none) (fun _ _ => rfl) W σ β H S [x, .ty t] vs Q k l ?_)
    exact h
  · rename_i _ c d c'
    cases eb : sub c c' with
    | none => rw [eb] at h; exact h.elim
    | some b =>
      rw [eb] at h
      obtain ⟨v, u, rfl, r1, r2⟩ := RepL.two l
      obtain ⟨a, C, dx, y, rfl, g1, g2, g3, g4⟩ := r1
      obtain ⟨C', rfl, g5⟩ := r2
      obtain ⟨C1, C1', D, fI, m1, m2, A, e1, _⟩ := hs.ex c c' b eb
      cases (show some (Value.ref C) = some (Value.ref C1) from (show X.mg c = _ from g1).symm.trans m1)
      cases (show some (Value.ref C') = some (Value.ref C1') from (show X.mg c' = _ from g5).symm.trans m2)
      exact .inr ⟨a, C, dx, C', D, fI, y, b, rfl, g2, g3, A, e1, post.val h k rfl⟩
  · exact h.elim
theorem pb_isinstance (h : SubAt X.prog X.K X.mg sub) (hm : X.mg "isinstance" = none) (ha : PXA T X (e :: es) ga) (hg : Gl X "isinstance" := by rfl) (he : starEach (e :: es) X.env = (false, eval e X.env) :: starEach es X.env := by rfl) (hpl : (backTo pos (starEach es X.env)).any (·.1) = false := by rfl) :
    PX T X (.Call (.Name "isinstance" p) (e :: es) [] pos) (eCall (fIsi sub) ga) := px_blt (call_isi.or call_isiX) (ok_isiX h) hg hm (by decide +kernel) ha (by decide) (by decide) he hpl
/-- e.value -/
def tValue (P : Program) (K : PySem.W.Frag) (te : TE) : TE := fun σ H Q => te σ H fun v H1 => ∃ (a C dx D fI : Addr) (x : V), v = .ref a ∧ H1 a = some (ExV C dx a) ∧ H1 dx = some (.xd [(("value" : Str), x)]) ∧ ArmX.ArmAt P K C D fI ∧ Q x H1
theorem pe_value {te : TE} (he : PE X a te) (hb : attributeBase a "value" X.env (eval a X.env) = eval a X.env) : PE X (.Attribute a "value" pos) (tValue X.prog X.K te) := by
  refine ⟨fun pins s σ H Q I h => attr_of hb (thn (he.run pins s σ H _ I h) fun u s1 hh => ?_)⟩
  obtain ⟨v, H1, I1, rv, aa, C, dx, D, fI, x, rfl, h1, h2, A, q⟩ := hh
  cases (show u = Value.ref aa from rv)
  obtain ⟨oe, od, u, J, l1, ru⟩ := exv_inst I1 h1 h2
  exact HandSPX.exc_get I1.kIn J A.ga A.gg A.exC (PySem.W.findObj_own A.hdC A.noN rfl l1) (handed_of ru) ⟨x, H1, I1.tok _, ru, q⟩
theorem px_value (h : SubAt X.prog X.K X.mg sub) (ha : PX T X a fa) (hb : attributeBase a "value" X.env (eval a X.env) = eval a X.env := by rfl) : PX T X (.Attribute a "value" pos) (eValue sub fa) :=
  ⟨fun W t => PE.weak (pe_value (ha.run W t) hb) fun σ H Q ⟨β, ρ, S, hs, he, q⟩ => tE_bind hs he q fun d S1 v β1 H1 x1 k1 e1 r1 q1 => by
    cases d with
    | exo c d =>
      by_cases hc : sub c c = some true
      · simp only [if_pos hc] at q1
        obtain ⟨aa, C, dx, y, rfl, g1, g2, g3, g4⟩ := r1
        obtain ⟨C1, C1', D, fI, m1, m2, A, e1, _⟩ := h.ex c c true hc
        cases (show some (Value.ref C) = some (Value.ref C1) from (show X.mg c = _ from g1).symm.trans m1)
        exact ⟨aa, C, dx, D, fI, y, rfl, g2, g3, A, post.val q1 k1 g4⟩
      · simp only [if_neg hc] at q1
        exact q1.elim
    | _ => exact q1.elim⟩
end
end DL


set_option linter.all false
set_option autoImplicit false
set_option Elab.async false
set_option maxRecDepth 100000
set_option maxHeartbeats 2000000
/-! DLe4: an exception that is caught and kept. -/
namespace DL
open PySem PySem.Spec L2
open PyProof.Rows hiding St b2i
section
variable {X : Cx} {pins : List (Addr × Obj)} {σ σ' : St} {H H' : Hp} {s sI : Shared}
/-- the exception that was pinned is known from now on; sI: the state ahead of it -/
theorem Inv.track {a C dx : Addr} {oe : Obj} {vs : Array Value} (J : Inv X pins σ' H' sI) (hn : sI.heap.get? a = none) (hx : X.ex = []) (I : Inv X ((a, oe) :: pins) σ H s) (hz : Zc (.ref C) (some dx) oe) (hd : oe.data = .fields vs) :
    Inv X pins σ (upd H a (ExV C dx a)) s := by
  obtain ⟨ea, na, nL, nF, nc⟩ := I.pin (a, oe) (by simp)
  have nox : ∀ b : Addr, b ∉ X.ex := fun b z => by rw [hx] at z; cases z
  have ne0 : ∀ b o, X.s_0.heap.get? b = some o → b ≠ a := fun b o e z => by
    obtain ⟨o', e'⟩ := J.base.there b o e (nox b)
    rw [z, hn] at e'; cases e'
  have neH : ∀ b o, H b = some o → b ≠ a := fun b o e z => by rw [z, na] at e; cases e
  have cell : ∀ y c, X.env.cells.lookup y = some c → c ≠ a := fun y c e z => by
    obtain ⟨v, o, e1, e2⟩ := I.cell y c e
    rw [z, ea] at e1; cases e1
    exact nc v e2
  refine ⟨I.ok, I.os, I.bare, ⟨I.base.keep, I.base.slot, fun b o e n q => ?_, I.base.there, fun b xs e => ?_, fun b o u e => ?_, fun b ps e => ?_⟩, I.loc, I.cell, ?_, fun y c e => ?_, fun p hp => ?_, ?_, I.len⟩
  · rw [upd_ne (ne0 b o e)]; exact I.base.free b o e n q
  · have z := I.base.tups b xs e
    rw [upd_ne (neH _ _ z)]; exact z
  · have z := I.base.frzs b o u e
    rw [upd_ne (neH _ _ z)]; exact z
  · obtain ⟨more, z⟩ := I.base.tbls b ps e
    exact ⟨more, by rw [upd_ne (neH _ _ z)]; exact z⟩
  · rw [upd_ne (Ne.symm nL)]; exact I.free
  · rw [upd_ne (cell y c e)]; exact I.freeC y c e
  · have hne : p.1 ≠ a := fun z => by
      have e := (J.pin p hp).1
      rw [z, hn] at e; cases e
    obtain ⟨h1, h2, h3⟩ := I.pin p ((List.mem_append.mp hp).elim (List.mem_append_left _) fun z => List.mem_append_right _ (List.mem_cons_of_mem _ z))
    exact ⟨h1, by rw [upd_ne hne]; exact h2, h3⟩
  · exact I.hok.laidN (fun _ _ e => e) na ⟨⟨oe, vs, ea, hz, hd⟩, ⟨oe, ea⟩, fun h1 h2 ⟨o, v, e1, r⟩ k => ⟨o, v, k _ e1, r⟩⟩
end
/-- what a clause that keeps its exception wishes: the class is named; the suite runs with the exception in slot i; then it is known -/
def wKeep (K : PySem.W.Frag) (c : Value) (i : Nat) (ts : Addr → Value → Option Addr → TS) (Y : Ends) : WX := fun cls d σ H =>
  PySem.W.exmOne K cls c = some true ∧ ∃ C dx, cls = .ref C ∧ d = some dx ∧ ∀ a, H a = none → ts a cls d { nx := fun σ' H' => H' a = none → Y.nx (σ'.set i none) (upd H' a (ExV C dx a)), rt := fun _ _ => False } (σ.set i (some (.ref a))) H
section
variable {X : Cx} {x n : Str} {c : Value} {i : Nat} {body suite : List Stmt} {b₀ : Stmt} {np pos pos' : Pos} {tb : WX → TS} {ts : Addr → Value → Option Addr → TS}
theorem ps_try_keep (hs : X.stack = X.env :: X.outer) (hf : X.env.frame = some X.env.locals) (hx : X.ex = []) (hN : X.N.Nodup) (hi : X.N[i]? = some n) (hln : X.env.kindOf n = some .local) (hc : Names X x c)
    (hb : ∀ (W : WX) (pn : List (Addr × Obj)) (xe : Value → Shared → Prop), Takes (X.tr pn xe) W → PSs (X.tr pn xe) body (tb W))
    (hsu : ∀ (a : Addr) (oe : Obj) (cls : Value) (d : Option Addr) (pn : List (Addr × Obj)), PSs (X.suite a ((a, oe) :: pn)) (b₀ :: suite) (ts a cls d)) :
    PS X (.Try body [.ExceptHandler (some (.Name x np)) (some n) (b₀ :: suite) pos'] [] [] pos) (fun Y σ H => tb (wKeep X.K c i ts Y) Y σ H) := by
  refine ⟨fun pins s σ H Y I h => wpAny_Try_except ?_⟩
  have fr : X.A.frames = some (X.env :: X.outer) := by rw [I.ok.frames, hs]
  refine wpAny_mono ((hb (wKeep X.K c i ts Y) (X.pn ++ pins) _ (fun u s' z => ?_)).run [] s σ H Y (I.toTry _) h) (fun f s1 hsp => ?_) fun e s1 he => he
  · obtain ⟨a, B, sI, pins', σ', H', cls, d, rfl, J', nb, up, sky, na, os, ag, hname, C, dx, rfl, rfl, hyes⟩ := z
    have J : Inv X pins σ' H' sI := J'.ofTry I.ok
    show wpAny (model X.prog X.w) X.A (noteFrame (.ref a) X.env) _ _ _
    refine Sky.land Zc.steady fr hf (show Sky B (X.env :: X.outer) a (Zc (.ref C) (some dx)) X.env.locals s'.heap by rw [← hs]; exact sky) fun h3 fl3 up3 => ?_
    have J3 : Inv X pins σ' H' { s' with heap := h3 } := J.landed nb fl3.1 (up.trans up3) os ag
    obtain ⟨oe3, vs3, he3, hz3, hd3⟩ := fl3.there
    have out : a ∉ frs (X.env :: X.outer) := fun hm => by
      obtain ⟨_, o', e', hnf⟩ := fl3.2.2.1.mem hm
      rw [he3] at e'; cases e'; exact hnf _ hd3
    have nL : a ≠ X.env.locals := fun z => out (List.mem_filterMap.mpr ⟨X.env, .head _, by rw [hf, z]⟩)
    have nF : a ∉ X.fs := fun hm => by
      obtain ⟨e, he, q⟩ := List.mem_filterMap.mp hm
      exact out (List.mem_filterMap.mpr ⟨e, .tail _ he, q⟩)
    have hnone : sI.heap.get? a = none := by
      cases e : sI.heap.get? a with
      | none => rfl
      | some o => exact absurd ((nb a o e (by rw [hs]; exact out)).symm.trans fl3.2.1) (by simp)
    have S3 := J3.suite he3 hd3 na nL nF
    refine wpAny_handleBy_cons (codeAny_handlers_test ?_) (by intro q; cases q)
    have LT : PySem.W.Looks (model X.prog X.w) h3 (typeOf (.ref a)) (.ref C) := fun A Q E s k q => wpAny_typeOf_ref (k _ _ he3) (by rw [hz3.1]; exact q)
    have test : ∀ {Q : Value → Shared → Prop} {E : Value → Shared → Prop}, Q c { s' with heap := h3 } → wpAny (model X.prog X.w) (X.A.mark (some (.ref a))) (eval (.Name x np) X.env) Q E { s' with heap := h3 } := fun {Q E} q => by
      obtain ⟨hg, hdb, hm | ⟨hm, hv, hnn⟩⟩ := hc
      · exact ld_glob (X := X.suite a ((a, oe3) :: (X.pn ++ pins))) S3 hg hm q hdb
      · exact ld_blt (X := X.suite a ((a, oe3) :: (X.pn ++ pins))) S3 hg hm hv q hnn hdb
    refine test ((PySem.W.exm_one (M := model X.prog X.w) J3.kIn LT hname).here ?_)
    refine codeAny_handlers_suite_as (HandSPX.lands_againZ fl3 fun h4 fl4 up4 => ?_)
    have J4 : Inv X pins σ' H' { s' with heap := h4 } := J.landed nb fl4.1 ((up.trans up3).trans up4) os ag
    obtain ⟨oe4, vs4, he4, hz4, hd4⟩ := fl4.there
    refine store_ok (X := X.suite a ((a, oe4) :: (X.pn ++ pins))) (v := .ref a) (J4.suite he4 hd4 na nL nF) hN hi (.inl hln) rfl (fun s5 S5 => ?_) (.inr hln)
    refine wpAny_mono ((hsu a oe4 (.ref C) (some dx) (X.pn ++ pins)).run [] s5 _ H' _ S5 (hyes a na)) (fun f s6 hsp => ?_) (fun _ _ z => z.elim)
    cases f with
    | next =>
      obtain ⟨σ6, H6, S6, q6⟩ := hsp
      have P6 := S6.pin (a, oe4) (by simp)
      have K6 : Inv X ((a, oe4) :: pins) σ6 H6 s6 := ⟨I.ok, S6.os, S6.bare, S6.base, S6.loc, S6.cell, S6.free, S6.freeC, fun p hp => by
        rcases List.mem_append.mp hp with z | z
        · exact S6.pin p (by simp [z])
        · rcases List.mem_cons.mp z with z | z
          · rw [z]; exact P6
          · exact S6.pin p (by simp [z]), S6.hok, S6.len⟩
      refine gone_ok K6 hN hi hln fun s7 K7 => ⟨_, _, Inv.track J hnone hx K7 hz4 hd4, q6 P6.2.1⟩
    | brk => exact hsp.elim fun _ z => z.elim fun _ z => z.2.elim
    | cont => exact hsp.elim fun _ z => z.elim fun _ z => z.2.elim
    | ret u => exact hsp.elim fun _ z => z.elim fun _ z => z.elim fun _ z => z.2.2.elim
  · cases f with
    | next => exact wpAny_execs_nil (by obtain ⟨σ1, H1, I1, q1⟩ := hsp; exact ⟨_, _, I1.ofTry I.ok, q1⟩)
    | brk => obtain ⟨σ1, H1, I1, q1⟩ := hsp; exact ⟨_, _, I1.ofTry I.ok, q1⟩
    | cont => obtain ⟨σ1, H1, I1, q1⟩ := hsp; exact ⟨_, _, I1.ofTry I.ok, q1⟩
    | ret u => obtain ⟨v1, σ1, H1, I1, r1, q1⟩ := hsp; exact ⟨_, _, _, I1.ofTry I.ok, r1, q1⟩
end
end DL


set_option linter.all false
set_option autoImplicit false
set_option Elab.async false
set_option maxRecDepth 100000
set_option maxHeartbeats 2000000
/-! DLe5: _law_heard(lambda: body). -/
namespace DL
open PySem PySem.Spec L2 LamX
open PyProof.Rows hiding St b2i
section
variable {X : Cx} {pins : List (Addr × Obj)} {σ σ0 : St} {H : Hp} {s : Shared}
/-- call(), call being the lambda, in the def that got it: the slots are σ0 there, also for what is wished of an exception -/
theorem act_at {CXg : CXT} {Eg : XK} {Ng : List Str} {qg : Str} {sg : Scope} {g f c' : Addr} {cdg pm ctv : Value} {params : Arguments} {body : Expr} {scope : Scope} {k i : Nat} {a : Str} {pn : List (Addr × Obj)} {xe : Value → Shared → Prop} {W : WX} {E : XK} {tb : TE} {p1 p2 : Pos}
    (I : Inv X pins σ H s) (L : LamS X.env.scope scope) (hf : s.heap.get? f = some (PySem.W.kla_obj "<lambda>" (X.env.qual ++ "<lambda>") params body scope (cloFrom X.env.cells scope.names []) pm c' ctv)) (fn : H f = none) (ff : f ∉ frs X.stack)
    (hbind : bindArgs (PySem.W.kla_fn "<lambda>" (X.env.qual ++ "<lambda>") params body scope (cloFrom X.env.cells scope.names []) pm (.ref c') ctv) ⟨[], []⟩ = pure [])
    (tk : Takes ((cxOf CXg X.prog X.w X.K X.mg X.base Ng qg sg g cdg X.A X.stack s H Eg).tr pn xe) W) (hW : ∀ cls d H', E cls d H' → W cls d σ0 H') (hr : Room (k + 1) (X.A.deeper (envOfC qg sg s.heap.objs.size g cdg)))
    (hbody : ∀ (A : Around) (outer : List PySem.Env) (s : Shared) (H : Hp), Room k (A.deeper (lamEnv X scope s.heap.objs.size f c')) → PE (lamCx X A outer s H E scope f c') body tb)
    (hN : Ng[i]? = some a) (hv : Vis sg a) (hd : (a == ("__debug__" : Str)) = false) (hcd : (a == ("__classdict__" : Str)) = false) :
    PE ((cxOf CXg X.prog X.w X.K X.mg X.base Ng qg sg g cdg X.A X.stack s H Eg).tr pn xe) (.Call (.Name a p1) [] [] p2) (fun σZ HZ Q => σZ = σ0 ∧ σ0[i]? = some (some (.ref f)) ∧ HZ c' = some (CodeO c' (X.env.qual ++ "<lambda>")) ∧ tb σ HZ Q) := by
  refine ⟨fun pinsZ sZ σZ HZ Q IZ ⟨eσ, hs, hc, ht⟩ => ?_⟩
  rw [eσ] at IZ ⊢
  have nm := (pe_var (X := (cxOf CXg X.prog X.w X.K X.mg X.base Ng qg sg g cdg X.A X.stack s H Eg).tr pn xe) (pos := p1) (i := i) hN hv hd hcd).run pinsZ sZ σ0 HZ (fun v H1 => v = .ref f ∧ H1 = HZ) IZ ⟨.ref f, hs, rfl, rfl⟩
  refine wpAny_Call_Name_kw (thn nm fun u s1 ⟨v, H1, I1, r1, ev, eH⟩ => ?_)
  rw [eH] at I1; rw [ev] at r1
  cases (show u = Value.ref f from r1)
  have fat : s1.heap.get? f = some (PySem.W.kla_obj "<lambda>" (X.env.qual ++ "<lambda>") params body scope (cloFrom X.env.cells scope.names []) pm c' ctv) := I1.base.keep f _ hf fn ff (fun z => nomatch (show f ∈ ([] : List Addr) from z))
  have un : Un (frs X.stack) [] H HZ s.heap s1.heap := I1.base
  obtain ⟨⟨oc, vs, t, co1, co2, co3⟩, _, _⟩ := I1.hok c' _ hc
  have run : codeAny (model X.prog X.w) (X.A.deeper (envOfC qg sg s.heap.objs.size g cdg)) (.call (.ref f) ⟨[], []⟩) (CR (L2.CX X.prog X.w) (envOfC qg sg s.heap.objs.size g cdg :: X.stack) X.prog X.w HZ s1 Q E) s1 := by
    refine PySem.W.kla_callFunE hr.depth fat rfl L.co L.gen rfl ⟨c', oc, vs, t, rfl, co1, co2, co3⟩ ?_
    rw [hbind]; refine wpAny_pure (wpAny_newFunctionEnv (fun y hy => (L.own y hy).2) (fun y hy => by cases hy) (fun h₁ hns hsb => ⟨I1.nolimit.fresh _ hsb, ?_⟩) L.kind)
    have kp : ∀ b o, s1.heap.get? b = some o → h₁.get? b = some o := fun b o e => hsb.extBut b o (Nat.ne_of_lt (Heap.lt_size e)) (Heap.get?_push_of_some _ e)
    show codeAny _ _ (.expr body (lamEnv X scope s1.heap.objs.size f c')) _ _
    have J := lam_start2 (E := E) (f := f) (c' := c') (tk := s1.toks + ([] : List (Str × Value)).length) I L I1.env0 hr.hd un hns kp
    refine PySem.W.kla_codeExpr (wpAny_mono ((hbody _ _ s1 HZ (hr.deeper _)).run [] _ _ HZ Q J ht) (fun v s' ⟨w', H', J', rv, q⟩ => ⟨w', H', J'.os, J'.bare, J'.base, J'.hok, rv, q⟩) fun e s' hq => hq)
  have wish : Takes ((cxOf CXg X.prog X.w X.K X.mg X.base Ng qg sg g cdg X.A X.stack s H Eg).tr pn xe) W := tk
  refine PySem.W.callWith_F0 ⟨_, _, _, _, fat⟩ (wpAny_call (codeAny_mono run fun r s' hq => ?_))
  match r, hq with
  | .error e, hq => exact wish e s' (XE.of_call (E := fun cls d H' => W cls d σ0 H') (W := W) I1 (fun cls d H' z => z) (by
      obtain ⟨x1, x2, x3, x4, x5, x6, x7, x8, x9, x10, x11, x12, x13⟩ := hq
      exact ⟨x1, x2, x3, x4, x5, x6, x7, x8, x9, x10, x11, x12, hW _ _ _ x13⟩))
  | .ok (.ret u), hq => exact I1.after hq
end
abbrev hdNames : List Str := ["call", "caught", "gave", "error"]
abbrev hdScope : Scope := { kind := .function, names := [(PySem.Str.ofString "call", .local), (PySem.Str.ofString "caught", .local), (PySem.Str.ofString "gave", .local), (PySem.Str.ofString "error", .local), (PySem.Str.ofString "ArmError", .globalImplicit)], isGenerator := false, isCoroutine := false, more := [] }
/-- the body of _law_heard -/
abbrev hdBody (q1 q2 q3 q4 q5 q6 q7 q8 q9 q10 q11 q12 q13 q14 q15 q16 q17 q18 q19 q20 q21 : Pos) : List Stmt :=
  [.Assign [.Tuple [.Name "caught" q1, .Name "gave" q2] 0 q3] (.Tuple [.Constant .none 0 q4, .Constant .none 0 q5] 0 q6) q7,
   .Try [.Assign [.Name "gave" q8] (.Call (.Name "call" q9) [] [] q10) q11] [.ExceptHandler (some (.Name "ArmError" q12)) (some "error") [.Assign [.Name "caught" q13] (.Name "error" q14) q15] q16] [] [] q17,
   .Return (some (.Tuple [.Name "caught" q18, .Name "gave" q19] 0 q20)) q21]
theorem hdS : FnScope hdNames ["call"] hdScope := ⟨rfl, rfl, rfl, by decide, rfl, by decide, by decide⟩
/-- what the module holds of _law_heard -/
structure HeardAt (K : PySem.W.Frag) (mg : Str → Option Value) : Prop where
  ex : ∃ (g D : Addr) (oc : Value) (od : Option Addr) (kV doc pm : Value) (an : Option Addr) (cdv ct : Value) (osl : Array (Option Value)) (pg : Arguments) (q1 q2 q3 q4 q5 q6 q7 q8 q9 q10 q11 q12 q13 q14 q15 q16 q17 q18 q19 q20 q21 : Pos),
    mg "_law_heard" = some (.ref g) ∧ mg "ArmError" = some (.ref D) ∧ PySem.W.keepIn K (.ref g) = true ∧ PySem.W.codeIn K cdv "_law_heard" = true ∧
    K.lookup g = some ⟨oc, od, .func (PySem.W.fnOf "_law_heard" "_law_heard" pg (hdBody q1 q2 q3 q4 q5 q6 q7 q8 q9 q10 q11 q12 q13 q14 q15 q16 q17 q18 q19 q20 q21) hdScope .none kV doc pm an cdv ct), osl⟩ ∧
    L2.Binds K (PySem.W.fnOf "_law_heard" "_law_heard" pg (hdBody q1 q2 q3 q4 q5 q6 q7 q8 q9 q10 q11 q12 q13 q14 q15 q16 q17 q18 q19 q20 q21) hdScope .none kV doc pm an cdv ct) ["call"] [] ∧
    ∀ (Z1 Z2 : Addr) (Z3 : Value), swappedStores [.Tuple [.Name "caught" q1, .Name "gave" q2] 0 q3] (.Tuple [.Constant .none 0 q4, .Constant .none 0 q5] 0 q6) (envOfC "_law_heard" hdScope Z1 Z2 Z3) = pure none
/-- what is wished of an exception of the lambda -/
def eHd (K : PySem.W.Frag) (D : Addr) (Q : VK) : XK := fun cls d H' => PySem.W.exmOne K cls (.ref D) = some true ∧ ∃ C dx, cls = .ref C ∧ d = some dx ∧ ∀ a, H' a = none → ∀ r, upd H' a (ExV C dx a) r = none → Q (.ref r) (upd (upd H' a (ExV C dx a)) r (.tup [.ref a, .non]))
def tHeard (K : PySem.W.Frag) (D : Addr) (T : List (Addr × Str)) (t : XK → TE) : TE := fun σ H Q => Tabs T H ∧ ∀ H1, ExtN H H1 → Tabs T H1 → ∀ p, H1 p = none →
  t (eHd K D Q) σ (upd H1 p (.tup [.non, .non])) (fun v H' => ∀ r, H' r = none → Q (.ref r) (upd H' r (.tup [.non, v])))
theorem PE.cl {X : Cx} {e : Expr} {t : TE} (h : PE X e t) : PE X e (fun σ H Q => ∃ Q1 : VK, (∀ v H', Q1 v H' → Q v H') ∧ t σ H Q1) :=
  ⟨fun pins s σ H Q I ⟨Q1, k, q⟩ => wpAny_mono (h.run pins s σ H Q1 I q) (fun v s' ⟨w', H', J, r, z⟩ => ⟨w', H', J, r, k _ _ z⟩) fun _ _ z => z⟩
theorem le2 : 2 ≤ sizeLine := by rw [sizeLine_eq]; exact (by decide : 2 ≤ 16777216)
section
variable {X : Cx}
theorem pe_heard {T : List (Addr × Str)} {g D c P : Addr} {k : Nat} {pg : Arguments} {dV kV doc pm cdv ct oc : Value} {an od : Option Addr} {osl : Array (Option Value)} {params : Arguments} {body : Expr} {scope : Scope} {t : XK → TE} {p lpos pos q1 q2 q3 q4 q5 q6 q7 q8 q9 q10 q11 q12 q13 q14 q15 q16 q17 q18 q19 q20 q21 : Pos}
    (hg : Gl X "_law_heard") (hm : X.mg "_law_heard" = some (.ref g)) (hk : PySem.W.keepIn X.K (.ref g) = true) (hD : X.mg "ArmError" = some (.ref D))
    (lk : X.K.lookup g = some ⟨oc, od, .func (PySem.W.fnOf "_law_heard" "_law_heard" pg (hdBody q1 q2 q3 q4 q5 q6 q7 q8 q9 q10 q11 q12 q13 q14 q15 q16 q17 q18 q19 q20 q21) hdScope dV kV doc pm an cdv ct), osl⟩) (hcg : PySem.W.codeIn X.K cdv "_law_heard" = true)
    (hb : L2.Binds X.K (PySem.W.fnOf "_law_heard" "_law_heard" pg (hdBody q1 q2 q3 q4 q5 q6 q7 q8 q9 q10 q11 q12 q13 q14 q15 q16 q17 q18 q19 q20 q21) hdScope dV kV doc pm an cdv ct) ["call"] [])
    (hw : ∀ (Z1 Z2 : Addr) (Z3 : Value), swappedStores [.Tuple [.Name "caught" q1, .Name "gave" q2] 0 q3] (.Tuple [.Constant .none 0 q4, .Constant .none 0 q5] 0 q6) (envOfC "_law_heard" hdScope Z1 Z2 Z3) = pure none)
    (TB : TabB X.base X.mg c P) (hcode : X.env.code = .ref c) (hmT : (P, X.env.qual ++ "<lambda>") ∈ T) (hu : ∀ y ∈ T, y.1 = P → y.2 = X.env.qual ++ "<lambda>") (hr : Room (k + 2) X.A) (L : LamS X.env.scope scope) (hdef : defaultsOf params X.env = ([], []))
    (hbind : ∀ (q : Str) (cl : List (Str × Addr)) (pm cv ctv : Value), bindArgs (PySem.W.kla_fn "<lambda>" q params body scope cl pm cv ctv) ⟨[], []⟩ = pure [])
    (hbody : ∀ (A : Around) (outer : List PySem.Env) (s : Shared) (H : Hp) (E : XK) (f c' : Addr), Room k (A.deeper (lamEnv X scope s.heap.objs.size f c')) → PE (lamCx X A outer s H E scope f c') body (t E)) :
    PE X (.Call (.Name "_law_heard" p) [.Lambda params body scope lpos] [] pos) (tHeard X.K D T t) := by
  refine ⟨fun pins s σ H Q I ⟨hT, h⟩ => ?_⟩
  refine wpAny_Call_Name_kw (ld_glob I hg hm (PySem.W.callWith_K (h₀ := X.base) I.ok.mod.kin hk ?_ (by rfl) (by rfl)) rfl)
  show wpAny _ _ (spliced ((false, eval (.Lambda params body scope lpos) X.env) :: backTo pos (starEach [] X.env))) _ _ s
  refine Calls.spliced_cons (lam_make2 I TB hcode hmT hu hT hdef (L.has I.ok) fun f c' pm' ctv H1 s' I1 eN T1 hf hfn hfr hco => Calls.spliced_nil ⟨I1.kIn, ?_⟩)
  have rc : codeAny (model X.prog X.w) X.A (.call (.ref g) ⟨[.ref f], []⟩) (CR C8.CX0 X.stack X.prog X.w H1 s' Q C8.E0) s' := by
    refine run_ofS (N := hdNames) (ps := ["call"]) (us := [.ref f]) (vs := [.ref f]) lk hcg hdS hr I1.env0 (hb s' [.ref f] I1.kIn rfl) (.cons rfl .nil) rfl fun hr' => ?_
    refine ⟨_, pss_cons (ps_asg (pe_tup (pa_cons pe_non (pa_cons pe_non pa_nil))) (pg_tup rfl (pgs_cons (pg_name (i := 1) hdS.nd rfl (.inl rfl)) (pgs_cons (pg_name (i := 2) hdS.nd rfl (.inl rfl)) pgs_nil))) rfl (hw _ _ _))
      (pss_cons (ps_try_keep (i := 3) (c := .ref D) (tb := fun W Y σZ HZ => ∃ (E : XK) (Q1 : VK), (∀ cls d H', E cls d H' → W cls d σZ H') ∧ (∀ v H', Q1 v H' → Y.nx (σZ.set 2 (some v)) H') ∧ σZ[0]? = some (some (.ref f)) ∧ HZ c' = some (CodeO c' (X.env.qual ++ "<lambda>")) ∧ t E σ HZ Q1)
        (ts := fun a cls d => tAsg (tVar 3) (gName 1)) rfl rfl rfl hdS.nd rfl rfl ⟨rfl, by decide, .inl hD⟩ (fun W pn xe tk => ?_) (fun a oe cls d pn => pss_one (ps_set (i := 1) hdS.nd rfl (.inl rfl) (pe_var (i := 3) rfl (.inl rfl) (by decide) (by decide)))))
      (pss_one (ps_ret (pe_tup (pa_cons (pe_var (i := 1) rfl (.inl rfl) (by decide) (by decide)) (pa_cons (pe_var (i := 2) rfl (.inl rfl) (by decide) (by decide)) pa_nil)))))), ?_⟩
    · refine ⟨fun pins s2 σ2 H2 Y I2 ⟨E, Q1, hW, hQ, z1, z2, z3⟩ => ?_⟩
      exact (pss_one (ps_set (i := 2) hdS.nd rfl (.inl rfl) (PE.cl (act_at (i := 0) (p1 := q9) (p2 := q10) I1 L hf hfn hfr (hbind _ _ _ _ _) tk hW hr' (fun A outer s H hr2 => hbody A outer s H E f c' hr2) rfl (.inl rfl) (by decide) (by decide))))).run pins s2 σ2 H2 Y I2 ⟨Q1, hQ, rfl, z1, z2, z3⟩
    · refine ⟨le2, fun p hp => ⟨p, _, rfl, .of upd_same, rfl, .non, _, rfl, .non, _, rfl, rfl, ?_⟩⟩
      have hne : c' ≠ p := fun z => by rw [z, hp] at hco; cases hco
      have key := h H1 eN T1 p hp
      refine ⟨eHd X.K D Q, fun v H' => ∀ r, H' r = none → Q (.ref r) (upd H' r (.tup [.non, v])), fun cls d H' ⟨e1, C, dx, e2, e3, e4⟩ => ⟨e1, C, dx, e2, e3, fun a ha => ⟨_, rfl, fun _ => ?_⟩⟩, fun v H' hv => ⟨_, rfl, _, rfl, le2, fun r hr => hv r hr⟩, rfl, by rw [upd_ne hne]; exact hco, key⟩
      exact ⟨_, rfl, _, rfl, le2, fun r hr => e4 a ha r hr⟩
  refine wpAny_call (codeAny_mono rc fun r s2 hq => ?_)
  match r, hq with
  | .error e, hq => exact (show False from hq).elim
  | .ok (.ret u), hq => exact I1.after hq
end
end DL


set_option linter.all false
set_option autoImplicit false
set_option Elab.async false
set_option maxRecDepth 100000
set_option maxHeartbeats 2000000
/-! DLe6: _law_heard(lambda: body) as data; defs with a lambda. -/
namespace DL
open PySem PySem.Spec L2 LamX
open PyProof.Rows hiding St b2i
/-- the maker's code object and its table -/
def LamIn (base : Heap) (mg : Str → Option Value) (T : List (Addr × Str)) (q : Str) (cdv : Value) : Prop := ∃ c P, cdv = .ref c ∧ TabB base mg c P ∧ (P, q ++ "<lambda>") ∈ T ∧ ∀ y ∈ T, y.1 = P → y.2 = q ++ "<lambda>"
section
variable {w : Wo} {β : Bt} {H H1 : Hp}
theorem ext_of (e : ExtN H H1) : Ext β H β H1 :=
  ⟨⟨⟨[], by simp, fun _ z => nomatch z⟩, fun _ z => .inl z, fun a o h n1 n2 => e a o h n2, fun a xs h _ => e a _ h (fun _ z => nomatch z), fun a n o h => by
    by_cases z : ∃ ps, o = .tbl ps
    · exact z
    · exact n o (e a o h fun ps y => z ⟨ps, y⟩)⟩, rfl⟩
theorem SOk.ofN {S : Sto} (k : SOk w β H S) (e : ExtN H H1) (t : Tabs w.T H1) : SOk w β H1 S :=
  ⟨t, k.nodup, fun a ha => ⟨(k.hid a ha).1.imp fun xs h => e _ _ h (fun _ z => nomatch z), (k.hid a ha).2⟩, k.len, fun n a ds e1 e2 => by
    obtain ⟨xs, h1, h2⟩ := k.at_ n a ds e1 e2
    exact ⟨xs, e _ _ h1 (fun _ z => nomatch z), RepL.ext (ext_of e).toExtW ds xs h2⟩⟩
end
section
variable {T : List (Addr × Str)} {X : Cx} {a : Expr} {fa : EF} {p lpos pos : Pos} {params : Arguments} {scope : Scope} {sub : Str → Str → Option Bool} {k : Nat}
theorem px_heard (hsub : SubAt X.prog X.K X.mg sub) (hh : HeardAt X.K X.mg) (hl : LamIn X.base X.mg T X.env.qual X.env.code) (hr : Room (k + 2) X.A) (L : lamSB X.env.scope scope = true)
    (hbody : ∀ (A : Around) (outer : List PySem.Env) (s : Shared) (H : Hp) (E : XK) (f c' : Addr), Room k (A.deeper (lamEnv X scope s.heap.objs.size f c')) → PX T (lamCx X A outer s H E scope f c') a fa)
    (hg : Gl X "_law_heard" := by rfl) (hdef : defaultsOf params X.env = ([], []) := by rfl) (hbind : ∀ (q : Str) (cl : List (Str × Addr)) (pm cv ctv : Value), bindArgs (PySem.W.kla_fn "<lambda>" q params a scope cl pm cv ctv) ⟨[], []⟩ = pure [] := by intros; rfl) :
    PX T X (.Call (.Name "_law_heard" p) [.Lambda params a scope lpos] [] pos) (eHeard sub fa) := by
  obtain ⟨g, D, oc, od, kV, doc, pm, an, cdv, ct, osl, pg, q1, q2, q3, q4, q5, q6, q7, q8, q9, q10, q11, q12, q13, q14, q15, q16, q17, q18, q19, q20, q21, m1, m2, m3, m4, m5, m6, m7⟩ := hh.ex
  obtain ⟨c, P, hcode, TB, hmT, hu⟩ := hl
  refine ⟨fun W t => PE.weak (pe_heard (t := fun E => tE (wo X T) (fun cls d _ H' => E cls d H') fa) hg m1 m3 m2 m5 m4 m6 m7 TB hcode hmT hu hr (lamS_by L) hdef hbind fun A outer s H E f c' hr' => (hbody A outer s H E f c' hr').run _ (takes_of rfl rfl rfl rfl)) fun σ H Q ⟨β, ρ, S, hs, he, h⟩ => ?_⟩
  refine ⟨hs.tabs, fun H1 eN T1 p hp => ?_⟩
  have x1 : Ext β H β H1 := ext_of eN
  have k1 : SOk (wo X T) β H1 S := hs.ofN eN T1
  have x2 : Ext β H β (upd H1 p (.tup [.non, .non])) := x1.trans (Ext.new hp)
  refine ⟨β, ρ, S, k1.new hp, he.ext x2.toExtW, ?_⟩
  have h := post.ext h x2
  unfold eHeard at h
  cases q : fa ρ S with
  | ok d S1 =>
    rw [q] at h
    intro v β' H' x k r r' hr'
    exact h (.ref r') β' _ (x.trans (Ext.new hr')) (k.new hr') ⟨r', _, rfl, .of upd_same, .non, _, rfl, rfl, v, _, rfl, Rep.ext (Ext.new hr').toExtW d v r, rfl⟩
  | exc cn d S1 =>
    rw [q] at h
    by_cases hc : sub cn "ArmError" = some true
    · simp only [if_pos hc] at h
      intro C dx v β' H' x k g1 g2 r
      obtain ⟨C1, C1', D1, fI, n1, n2, A, e1, e2⟩ := hsub.ex cn "ArmError" true hc
      cases (show some (Value.ref C) = some (Value.ref C1) from (show X.mg cn = _ from g1).symm.trans n1)
      cases (show some (Value.ref D) = some (Value.ref C1') from m2.symm.trans n2)
      refine ⟨e2, C, dx, rfl, rfl, fun aa haa r' hr' => ?_⟩
      have y1 : Ext β' H' β' (upd H' aa (ExV C dx aa)) := Ext.new haa
      have y2 : Ext β' H' β' (upd (upd H' aa (ExV C dx aa)) r' (.tup [.ref aa, .non])) := y1.trans (Ext.new hr')
      have s1 : Same (upd H' aa (ExV C dx aa)) (upd (upd H' aa (ExV C dx aa)) r' (.tup [.ref aa, .non])) := same_upd hr'
      exact h (.ref r') β' _ (x.trans y2) ((k.new haa).new hr') ⟨r', _, rfl, .of upd_same, .ref aa, _, rfl, ⟨aa, C, dx, v, rfl, g1, s1 _ _ upd_same, s1 _ _ (same_upd haa _ _ g2), Rep.ext y2.toExtW d v r⟩, .non, _, rfl, rfl, rfl⟩
    · simp only [if_neg hc] at h
      exact h.elim
  | bad => rw [q] at h; exact h
end
/-- a def that holds a lambda -/
structure DefInL (K : PySem.W.Frag) (mg : Str → Option Value) (base : Heap) (T : List (Addr × Str)) (x : Str) (st : Stmt) : Prop where
  ex : ∃ (f : Addr) (oc : Value) (od : Option Addr) (kV doc pm : Value) (an : Option Addr) (cdv ct : Value) (osl : Array (Option Value)),
    mg x = some (.ref f) ∧ K.lookup f = some ⟨oc, od, .func (PySem.W.fnOf x x (defArgs st) (defBody st) (defScope st) .none kV doc pm an cdv ct), osl⟩ ∧ PySem.W.codeIn K cdv x = true ∧ PySem.W.keepIn K (.ref f) = true ∧ LamIn base mg T (x ++ ".<locals>.") cdv
section
variable {P : Program} {w : World} {K : PySem.W.Frag} {mg : Str → Option Value} {base : Heap} {T : List (Addr × Str)} {gd : Bool} {k : Nat} {x : Str} {st : Stmt} {N ps : List Str} {m n : Nat} {g : SF}
theorem callee_ofL (D : DefInL K mg base T x st) (Sc : FnScope N ps (defScope st)) (hm : ps.length = m) (hn : N.length = n)
    (hb : ∀ (kV doc pm : Value) (an : Option Addr) (cdv ct : Value) (us : List Value), us.length = ps.length → bindArgs (PySem.W.fnOf x x (defArgs st) (defBody st) (defScope st) .none kV doc pm an cdv ct) ⟨us, []⟩ = pure (ps.zip us))
    (body : ∀ (f : Addr) (cdv : Value) (A : Around) (outer : List PySem.Env) (s : Shared) (H : Hp) (E : XK), LamIn base mg T (x ++ ".<locals>.") cdv → (gd = true → A.guards = some []) → Room k (A.deeper (envOfC x (defScope st) s.heap.objs.size f cdv)) → PXSs T (cxOf (L2.CX P w) P w K mg base N x (defScope st) f cdv A outer s H E) (defBody st) g) :
    Callee P w K mg base T gd (k + 1) x ps (mkFn m n g) := by
  obtain ⟨f, oc, od, kV, doc, pm, an, cdv, ct, osl, h1, h2, h3, h4, h5⟩ := D.ex
  exact ⟨f, _, fnG_of h2 h3 Sc hm hn fun A outer s H E hg hr => body f cdv A outer s H E h5 hg hr, h1, h4, .all (hb kV doc pm an cdv ct)⟩
end
end DL


set_option linter.all false
set_option autoImplicit false
set_option Elab.async false
set_option maxRecDepth 100000
set_option maxHeartbeats 2000000
/-! DLe7: the end of a law's row. -/
namespace DL
open PySem PySem.Spec L2 LamX
open PyProof.Rows hiding St b2i
section
variable {P : Program} {w : World} {K : PySem.W.Frag} {mg mb : Str → Option Value} {s₁ : Shared} {a : Addr} {vs : List Value} {ns : List Int} {ts : List Addr}
abbrev scriptO (vs : List Value) : Obj := { cls := .type "list", data := .seq vs.toArray }
/-- at the law's entry: the script and the tables are tracked -/
def H_in (K : PySem.W.Frag) (ts : List Addr) (a : Addr) (vs : List Value) (ns : List Int) : Hp := fun b => if b ∈ ts then some (.tbl #[]) else if b = a ∧ K.lookup a = none then some (.frz (scriptO vs) (.lst (ns.map V.int))) else none
theorem hin_cases (b : Addr) : (b ∈ ts ∧ H_in K ts a vs ns b = some (.tbl #[])) ∨ (b ∉ ts ∧ b = a ∧ K.lookup a = none ∧ H_in K ts a vs ns b = some (.frz (scriptO vs) (.lst (ns.map V.int)))) ∨ (H_in K ts a vs ns b = none ∧ b ∉ ts ∧ (b = a → K.lookup a ≠ none)) := by
  unfold H_in
  by_cases h1 : b ∈ ts
  · exact .inl ⟨h1, by rw [if_pos h1]⟩
  · by_cases h2 : b = a ∧ K.lookup a = none
    · exact .inr (.inl ⟨h1, h2.1, h2.2, by rw [if_neg h1, if_pos h2]⟩)
    · exact .inr (.inr ⟨by rw [if_neg h1, if_neg h2], h1, fun e z => h2 ⟨e, z⟩⟩)
/-- what stands at the entry -/
structure EntryAt (P : Program) (w : World) (K : PySem.W.Frag) (mg mb : Str → Option Value) (s₁ : Shared) (a : Addr) (vs : List Value) (ns : List Int) (cs : List (Addr × Addr)) : Prop where
  KX : K.In s₁.heap
  g : s₁.heap.Ns mainGlobals mg
  b : s₁.heap.Ns builtinsNs mb
  bb : ∀ x : Str, x ≠ "__name__" → mb x = bootBuiltins x
  lim : s₁.heap.NoLimit
  gens : s₁.gens = #[]
  tab : ∀ p ∈ cs, s₁.heap.get? p.2 = some { cls := .none, data := .fields #[] }
  out : ∀ p ∈ cs, K.lookup p.2 = none
  code : ∀ p ∈ cs, PySem.W.CodeHd s₁.heap p.1 p.2
  bm : ∃ (bm : Addr) (ob : Obj), mg "__builtins__" = some (.ref bm) ∧ bm ≠ builtinsNs ∧ s₁.heap.get? bm = some ob ∧ ob.cls = .type "module" ∧ ob.dict = some builtinsNs ∧ ob.data = .plain
  sc : s₁.heap.get? a = some (scriptO vs)
  isI : IntsAre vs ns
  line : ns.length ≤ sizeLine
variable {cs : List (Addr × Addr)}
theorem EntryAt.tabs (Y : EntryAt P w K mg mb s₁ a vs ns cs) {b : Addr} (h : b ∈ cs.map (·.2)) : s₁.heap.get? b = some { cls := .none, data := .fields #[] } ∧ K.lookup b = none := by
  obtain ⟨p, hp, e⟩ := List.mem_map.mp h
  rw [← e]; exact ⟨Y.tab p hp, Y.out p hp⟩
theorem EntryAt.free (Y : EntryAt P w K mg mb s₁ a vs ns cs) {b : Addr} {o : Obj} (e : s₁.heap.get? b = some o) (h1 : ∀ v n, o.data ≠ .seq v n) (h2 : o.data ≠ .fields #[]) : H_in K (cs.map (·.2)) a vs ns b = none := by
  rcases hin_cases (K := K) (ts := cs.map (·.2)) (a := a) (vs := vs) (ns := ns) b with ⟨z, _⟩ | ⟨_, z, _⟩ | ⟨z, _⟩
  · rw [(Y.tabs z).1] at e; cases e; exact absurd rfl h2
  · rw [z, Y.sc] at e; cases e; exact absurd rfl (h1 _ _)
  · exact z
theorem EntryAt.base (Y : EntryAt P w K mg mb s₁ a vs ns cs) {b : Addr} {o : Obj} (e : s₁.heap.get? b = some o) (h1 : ∀ v n, o.data ≠ .seq v n) (h2 : o.data ≠ .fields #[]) : (hidT s₁.heap (H_in K (cs.map (·.2)) a vs ns)).get? b = some o := hidT_get e (Y.free e h1 h2)
theorem EntryAt.nsAt (Y : EntryAt P w K mg mb s₁ a vs ns cs) {b : Addr} {m : Str → Option Value} (h : s₁.heap.Ns b m) : (hidT s₁.heap (H_in K (cs.map (·.2)) a vs ns)).Ns b m := by
  obtain ⟨o, es, ep, e, d, r⟩ := h
  exact ⟨o, es, ep, Y.base e (fun v n z => by rw [d] at z; cases z) (fun z => by rw [d] at z; cases z), d, r⟩
theorem EntryAt.kin (Y : EntryAt P w K mg mb s₁ a vs ns cs) : K.In (hidT s₁.heap (H_in K (cs.map (·.2)) a vs ns)) := fun b o e => by
  refine hidT_get (Y.KX b o e) ?_
  rcases hin_cases (K := K) (ts := cs.map (·.2)) (a := a) (vs := vs) (ns := ns) b with ⟨z, _⟩ | ⟨_, z, z2, _⟩ | ⟨z, _⟩
  · rw [(Y.tabs z).2] at e; cases e
  · rw [z, z2] at e; cases e
  · exact z
theorem EntryAt.mod (Y : EntryAt P w K mg mb s₁ a vs ns cs) : L2.Mod K mg (hidT s₁.heap (H_in K (cs.map (·.2)) a vs ns)) := by
  obtain ⟨mc, h1, h2⟩ := Y.lim
  exact ⟨Y.kin, Y.nsAt Y.g, ⟨mb, Y.nsAt Y.b, Y.bb⟩, mc, Y.nsAt h1, h2⟩
theorem EntryAt.tabB (Y : EntryAt P w K mg mb s₁ a vs ns cs) : ∀ p ∈ cs, TabB (hidT s₁.heap (H_in K (cs.map (·.2)) a vs ns)) mg p.1 p.2 := fun p hp => by
  have hT := Y.tab p hp
  obtain ⟨og, es, ep, eg, dg, _⟩ := Y.g
  refine ⟨?_, ?_, fun z => by rw [z, hT] at eg; cases eg; cases dg⟩
  · obtain ⟨o, us, file, tf, flags, tg, inF, text, tt, e1, r1, r2, r3, r⟩ := Y.code p hp
    exact ⟨o, us, file, tf, flags, tg, inF, text, tt, Y.base e1 (fun v n z => by rw [r2] at z; cases z) (fun z => by rw [r2] at z; cases z; simp at r3), r1, r2, r3, r⟩
  · obtain ⟨bm, ob, b1, b2, b3, b4, b5, b6⟩ := Y.bm
    refine ⟨bm, ob, b1, b2, fun q => ?_, fun q => ?_, Y.base b3 (fun v n z => by rw [b6] at z; cases z) (fun z => by rw [b6] at z; cases z), b4, b5, b6⟩
    · rw [q, eg] at b3; cases b3; rw [dg] at b6; cases b6
    · rw [q, hT] at b3; cases b3; cases b6
theorem EntryAt.hok (Y : EntryAt P w K mg mb s₁ a vs ns cs) : HOk P w (H_in K (cs.map (·.2)) a vs ns) s₁.heap := fun b u e => by
  rcases hin_cases (K := K) (ts := cs.map (·.2)) (a := a) (vs := vs) (ns := ns) b with ⟨z, q⟩ | ⟨_, z, _, q⟩ | ⟨q, _⟩
  · rw [q] at e; cases e; exact (Y.tabs z).1
  · rw [q] at e; cases e
    rw [z]
    exact ⟨Y.sc, by rw [List.length_map]; exact Y.line, vs, _, vals_ints Y.isI, Y.sc⟩
  · rw [q] at e; cases e
theorem EntryAt.sq (Y : EntryAt P w K mg mb s₁ a vs ns cs) : FzL K ⟨[], []⟩ (H_in K (cs.map (·.2)) a vs ns) a (ns.map V.int) := by
  rcases hin_cases (K := K) (ts := cs.map (·.2)) (a := a) (vs := vs) (ns := ns) a with ⟨z, _⟩ | ⟨_, _, _, q⟩ | ⟨_, _, q⟩
  · have e := (Y.tabs z).1
    rw [Y.sc] at e
    cases (congrArg Obj.data (Option.some.inj e) : Data.seq _ _ = Data.fields _)
  · exact .inr (.inl ⟨_, q⟩)
  · cases hk : K.lookup a with
    | none => exact absurd hk (q rfl)
    | some o =>
      have e := Y.KX a o hk
      rw [Y.sc] at e; cases e
      exact .inr (.inr ⟨_, vs.toArray, _, hk, rfl, rfl, rfl, by rw [List.size_toArray, Y.isI.length]; exact Y.line, by simpa using vals_ints Y.isI⟩)
theorem repL_script {w : Wo} {β : Bt} {H : Hp} : ∀ ns : List Int, RepL w β H (ns.map D.int) (ns.map V.int)
  | [] => rfl
  | n :: r => ⟨_, _, rfl, rfl, repL_script r⟩
/-- the law's def called with the script -/
theorem law_run {T : List (Addr × Str)} {gd : Bool} {k : Nat} {fa : Addr} {fd : FuncData} {x : Str} {fn : FN} (Y : EntryAt P w K mg mb s₁ a vs ns cs) (hT : ∀ y ∈ T, y.1 ∈ cs.map (·.2)) (hr : Room k callerA)
    (F : FnG P w K mg (hidT s₁.heap (H_in K (cs.map (·.2)) a vs ns)) T gd k fa fd [x] fn) (hb : BindsTo s₁ fd ⟨[.ref a], []⟩ [(x, .ref a)]) (law : ∃ S, fn [.lst (ns.map D.int)] [] = .ok (.bl true) S) :
    codeAny (model P w) callerA (.call (.ref fa) ⟨[.ref a], []⟩) (fun r s' => r = .ok (.ret (.bool true)) ∧ OldK s₁.heap s'.heap ∧ s'.os = s₁.os ∧ AllBare s'.gens) s₁ := by
  obtain ⟨S, hS⟩ := law
  have e0 : Env0 P w K mg (hidT s₁.heap (H_in K (cs.map (·.2)) a vs ns)) callerA [] s₁ (H_in K (cs.map (·.2)) a vs ns) := ⟨rfl, Y.mod, fun b o e => of_hidT e, Nat.le_of_eq (hidT_size _ _), trivial, fun b hb => (nomatch (show b ∈ ([] : List Addr) from hb)), Y.hok, .of_eq Y.gens⟩
  have tabs : Tabs T (H_in K (cs.map (·.2)) a vs ns) := fun y hy => TabS.nil (by unfold H_in; rw [if_pos (hT y hy)])
  refine codeAny_mono (F.run callerA [] s₁ _ ⟨[.ref a], []⟩ [.ref a] [.ref a] (fun v _ => v = .bl true) (fun _ _ _ => False) (fun _ => rfl) hr e0 hb (.cons rfl .nil)
    ⟨⟨[], []⟩, [.lst (ns.map D.int)], [], ⟨tabs, List.nodup_nil, fun _ z => (nomatch z), rfl, fun n b ds z => by simp at z⟩, ⟨.ref a, [], rfl, ⟨a, _, rfl, Y.sq, repL_script ns⟩, rfl⟩, by rw [hS]; exact fun v β' H' _ _ r => r⟩) fun r s' h => ?_
  match r, h with
  | .error e, h =>
    obtain ⟨_, _, _, _, _, _, _, _, _, _, _, _, z⟩ := h
    exact z.elim
  | .ok (.ret u), h =>
    obtain ⟨v, H', os, bare, un, hok', r', q⟩ := h
    cases (show v = V.bl true from q)
    cases (show u = Value.bool true from r')
    have none' : ∀ b : Addr, b ∉ ([] : List Addr) := fun b z => nomatch z
    have key : ∀ b o, b ∉ cs.map (·.2) → s₁.heap.get? b = some o → s'.heap.get? b = some o := fun b o nb e => by
      rcases hin_cases (K := K) (ts := cs.map (·.2)) (a := a) (vs := vs) (ns := ns) b with ⟨z, _⟩ | ⟨_, _, _, z⟩ | ⟨z, _⟩
      · exact absurd z nb
      · obtain ⟨e1, _⟩ := Y.hok b _ z
        obtain ⟨e2, _⟩ := hok' b _ (un.frzs b _ _ z)
        rw [e] at e1; cases e1; exact e2
      · exact un.keep b o e z (none' b) (none' b)
    have grown : ∀ b ∈ cs.map (·.2), ∃ more : Array Value, s'.heap.get? b = some { cls := .none, data := .fields more } := fun b hb => by
      obtain ⟨more, z⟩ := un.tbls b #[] (by unfold H_in; rw [if_pos hb])
      exact ⟨_, hok' b _ z⟩
    refine ⟨rfl, ⟨fun b o e => ?_, fun b o e => ?_⟩, os, bare⟩
    · by_cases hb : b ∈ cs.map (·.2)
      · obtain ⟨more, hm⟩ := grown b hb
        obtain ⟨p, hp, ep⟩ := List.mem_map.mp hb
        have e1 := (Y.tabs hb).1
        rw [e] at e1; cases e1
        have hc := ((Y.code p hp).tab (Y.tab p hp)).isCodeTable
        rw [ep] at hc
        exact .inr (.inl ⟨hc, rfl, #[], more, rfl, by rw [Array.empty_append]; exact hm⟩)
      · exact .inl (key b o hb e)
    · by_cases hb : b ∈ cs.map (·.2)
      · obtain ⟨more, hm⟩ := grown b hb
        exact ⟨_, hm⟩
      · exact ⟨o, key b o hb e⟩
end
/-- what the end must give: the tables, the def's promise over any base -/
def LawG (P : Program) (w : World) (K : PySem.W.Frag) (k : Nat) (y x : Str) (fn : FN) (mg : Str → Option Value) (h : Heap) : Prop :=
  ∃ (gd : Bool) (cs : List (Addr × Addr)) (T : List (Addr × Str)), (∀ y ∈ T, y.1 ∈ cs.map (·.2)) ∧ (∀ p ∈ cs, h.get? p.2 = some { cls := .none, data := .fields #[] }) ∧ (∀ p ∈ cs, K.lookup p.2 = none) ∧ (∀ p ∈ cs, PySem.W.CodeHd h p.1 p.2) ∧
    ∀ base : Heap, K.In base → base.Ns mainGlobals mg → (∀ p ∈ cs, TabB base mg p.1 p.2) → Callee P w K mg base T gd k y [x] fn
theorem law_walk {l : PySem.W.OpenLaw} {n k : Nat} {q : Program} {loose : List Str} {XP : (Str → Option Value) → Heap → Prop} {YP : World → Heap → Prop} {d : DefRec} {K : Params → PySem.W.Frag} {x : Str} {fn : FN}
    (hn : l.most = some n) (hn2 : n ≤ sizeLine) (hdf : d.params.defaults = []) (hr : Room k callerA) (hY : ∀ (w : World) (h : Heap), YP w h → (K w.params).In h)
    (F : ∀ (w : World) (mg mb : Str → Option Value) (mean : ExcName → Option Value) (h : Heap), YP w h → (K w.params).In h → h.Ns mainGlobals mg → Top q (PySem.W.looseW q loose) mean mg mb h → LawG l.prog w (K w.params) k d.name x fn mg h)
    (law : ∀ ns : List Int, ns.length ≤ n → (∀ z ∈ ns, Builtin.Int.intBits z ≤ 1048576) → ∃ S, fn [.lst (ns.map D.int)] [] = .ok (.bl true) S) :
    PySem.W.WalkO q loose XP YP l.row.toRowW d [] (fun f vs => PySem.call f vs) := by
  refine Att.attach_callB hn hdf fun w s₀ s₁ mg mb fa o pm cd doc a vs ns G Y ho hd hcd hmg hobj hints hlen hbits hg => ?_
  have KX := hY w _ Y
  obtain ⟨gd, cs, T, hT, h1, h2, h3, hF⟩ := F w mg mb _ _ Y KX G.T.g G.T
  have E : EntryAt l.prog w (K w.params) mg mb s₁ a vs ns cs := ⟨KX, G.T.g, G.T.b, G.T.builtins, G.T.nolimit, hg, h1, h2, h3, G.T.bmain, hobj, hints, Nat.le_trans hlen hn2⟩
  obtain ⟨f, fd, F', m1, _, B⟩ := (hF _ E.kin (E.nsAt E.g) E.tabB).ex
  cases (show some (Value.ref f) = some (Value.ref fa) from m1.symm.trans hmg)
  have b := B s₁ [.ref a] KX rfl
  rw [List.append_nil] at b
  exact law_run E hT hr F' b (law ns hlen hbits)

/-! ### facts of the written part -/
section
variable {P : Program} {K : PySem.W.Frag} {mg : Str → Option Value} {h : Heap}
theorem defIn_of {x : Str} {st : Stmt} {f : Addr} {oc kV dc pm cd ct : Value} {od an : Option Addr} {sl : Array (Option Value)} (X : K.In h) (G : h.Ns mainGlobals mg) (a : PySem.W.nsIn K mainGlobals x = some (some (.ref f)))
    (l : K.lookup f = some ⟨oc, od, .func (PySem.W.fnOf x x (defArgs st) (defBody st) (defScope st) .none kV dc pm an cd ct), sl⟩) (c : PySem.W.codeIn K cd x = true) (k : PySem.W.keepIn K (.ref f) = true) : DefIn K mg x st :=
  ⟨f, oc, od, kV, dc, pm, an, cd, ct, sl, PySem.W.mg_of X G a, l, c, k⟩
/-- u is d, seen in the written part -/
def cstIn (K : PySem.W.Frag) : Nat → Value → D → Bool
  | 0, _, _ => false
  | _ + 1, .none, .non => true
  | _ + 1, .bool b, .bl c => b == c
  | _ + 1, .int i _, .int j => decide (i = j)
  | _ + 1, .str x _, .str y => x == y
  | n + 1, .ref a, .tup ds => match K.lookup a with
    | some ⟨.type "tuple", _, .seq its _, _⟩ => decide (its.size ≤ 1000) && go n its.toList ds
    | _ => false
  | n + 1, .ref a, .lst ds => match K.lookup a with
    | some ⟨.type "list", none, .seq its _, _⟩ => decide (its.size ≤ 1000) && go n its.toList ds
    | _ => false
  | _, _, _ => false
where go : Nat → List Value → List D → Bool
  | _, [], [] => true
  | 0, _, _ => false
  | n + 1, u :: us, d :: ds => cstIn K n u d && go n us ds
  | _, _, _ => false
theorem cst_rep : ∀ n : Nat, (∀ (u : Value) (d : D), cstIn K n u d = true → ∃ v, RelV v u ∧ ∀ (T : List (Addr × Str)) (β : Bt) (H : Hp), Rep ⟨K, mg, T⟩ β H d v) ∧
    ∀ (us : List Value) (ds : List D), cstIn.go K n us ds = true → ∃ xs, Vals xs us ∧ ∀ (T : List (Addr × Str)) (β : Bt) (H : Hp), RepL ⟨K, mg, T⟩ β H ds xs := by
  intro n
  induction n with
  | zero =>
    refine ⟨fun u d e => by simp [cstIn] at e, fun us ds e => ?_⟩
    match us, ds, e with
    | [], [], _ => exact ⟨[], .nil, fun _ _ _ => rfl⟩
    | [], d :: ds, e => simp [cstIn.go] at e
    | u :: us, [], e => simp [cstIn.go] at e
    | u :: us, d :: ds, e => simp [cstIn.go] at e
  | succ n ih =>
    refine ⟨fun u d e => ?_, fun us ds e => ?_⟩
    · unfold cstIn at e
      split at e
      · cases e
      · exact ⟨.non, rfl, fun _ _ _ => rfl⟩
      · exact ⟨.bl _, rfl, fun _ _ _ => by rw [beq_iff_eq.mp e]; rfl⟩
      · exact ⟨.int _, ⟨_, rfl⟩, fun _ _ _ => by rw [of_decide_eq_true e]; rfl⟩
      · exact ⟨.str _, ⟨_, rfl⟩, fun _ _ _ => by rw [beq_iff_eq.mp e]; rfl⟩
      · rename_i m a ds hm
        cases hm
        split at e
        · rename_i _ dd its nn sl hk
          rw [Bool.and_eq_true] at e
          obtain ⟨xs, r1, r2⟩ := ih.2 its.toList ds e.2
          have hz : its.size ≤ sizeLine := by rw [sizeLine_eq]; have := of_decide_eq_true e.1; omega
          exact ⟨.ref a, rfl, fun T β H => ⟨a, xs, rfl, .inr ⟨_, its, nn, hk, rfl, rfl, hz, r1⟩, r2 T β H⟩⟩
        · cases e
      · rename_i m a ds hm
        cases hm
        split at e
        · rename_i _ its nn sl hk
          rw [Bool.and_eq_true] at e
          obtain ⟨xs, r1, r2⟩ := ih.2 its.toList ds e.2
          have hz : its.size ≤ sizeLine := by rw [sizeLine_eq]; have := of_decide_eq_true e.1; omega
          exact ⟨.ref a, rfl, fun T β H => ⟨a, xs, rfl, .inr (.inr ⟨_, its, nn, hk, rfl, rfl, rfl, hz, r1⟩), r2 T β H⟩⟩
        · cases e
      · cases e
    · match us, ds, e with
      | [], [], _ => exact ⟨[], .nil, fun _ _ _ => rfl⟩
      | [], d :: ds, e => simp [cstIn.go] at e
      | u :: us, [], e => simp [cstIn.go] at e
      | u :: us, d :: ds, e =>
        simp only [cstIn.go, Bool.and_eq_true] at e
        obtain ⟨v, a1, a2⟩ := ih.1 u d e.1
        obtain ⟨xs, b1, b2⟩ := ih.2 us ds e.2
        exact ⟨v :: xs, .cons a1 b1, fun T β H => ⟨v, xs, rfl, a2 T β H, b2 T β H⟩⟩
theorem cst_of {x : Str} {u : Value} {d : D} {n : Nat} (X : K.In h) (G : h.Ns mainGlobals mg) (a : PySem.W.nsIn K mainGlobals x = some (some u)) (e : cstIn K n u d = true) : Cst K mg x d := by
  obtain ⟨v, r1, r2⟩ := (cst_rep (K := K) (mg := mg) n).1 u d e
  exact ⟨u, v, PySem.W.mg_of X G a, r1, r2⟩
end
end DL


set_option linter.all false
set_option autoImplicit false
set_option Elab.async false
set_option maxRecDepth 100000
set_option maxHeartbeats 2000000
/-! DLe8: the facts of the written part about the error classes, the hearing, the tables. -/
namespace DL
open PySem PySem.Spec L2 LamX
open PyProof.Rows hiding St b2i
section
variable {p : Program} {K : PySem.W.Frag} {mg : Str → Option Value} {h : Heap}
/-- an error class, looked up -/
structure ArmK (p : Program) (K : PySem.W.Frag) (c : Str) (C D fI : Addr) : Prop where
  aC : PySem.W.nsIn K mainGlobals c = some (some (.ref C))
  aD : PySem.W.nsIn K mainGlobals "ArmError" = some (some (.ref D))
  arm : ArmX.ArmAt p K C D fI
open PySem.W in
theorem arm_mk {c : Str} {C D fI N cda cc : Addr} {nm q : Str} {bs bm sub : List Value} {sn : List Str} {ab : Bool} {col : Option Bool} {dd od an cdd cld : Option Addr} {k0 k1 k2 k3 k5 : Option Value} {oc kV doc pm ct ccl cl : Value} {osl ccs csl : Array (Option Value)} {vs : Array Value} {file : Str} {tf : Tok}
    (X : K.In h) (aC : nsIn K mainGlobals c = some (some (.ref C))) (aD : nsIn K mainGlobals "ArmError" = some (some (.ref D)))
    (xL : K.lookup C = some (excClassObj nm q C N bs bm true sn sub ab col dd k0 k1 k2 k3 k5 "ValueError.__new__")) (hb : HandSPX.refsVE bm = true)
    (sa : findIn K (.ref C) "__setattr__" = some (some (.builtin "object.__setattr__"))) (ga : findIn K (.ref C) "__getattribute__" = some (some (.builtin "BaseException.__getattribute__"))) (gg : findIn K (.ref C) "__getattr__" = some none) (noN : findIn K (.ref C) "value" = some none)
    (iC : findIn K (.ref C) "__init__" = some (some (.ref fI))) (tC : typeIn K (.ref fI) = some (.type "function")) (kC : keepIn K (.ref C) = true) (exC : subIn K (.ref C) (.type "BaseException") = some true) (vC : subIn K (.ref C) (.type "ValueError") = some true)
    (tyC : typeIn K (.ref C) = some (.type "type")) (hdC : hasDictIn K C = true) (clD : (clsIn K D).isSome = true) (mD : mroIn K C (.ref D) = some true) (sm : ks_superIn K C D "__init__" = some (some (.builtin "ValueError.__init__")))
    (ca : findIn K (.ref C) "__class__" = some (some (.builtin "object.__class__"))) (cn : specialIn K (.builtin "object.__class__") "__get__" = some (some (.builtin "getset_descriptor.__get__"))) (ctk : takesIn K (.builtin "object.__class__") = some true) (cm : mroIn K C (.type "object") = some true)
    (th : nsIn K cStatics "thirdparty.any" = some none)
    (lf : K.lookup fI = some ⟨oc, od, .func (ksFn "__init__" "ArmError.__init__" ArmX.armArgs ArmX.armBody ArmX.armScope .none kV doc pm an (.ref cda) ct cc), osl⟩) (hcd : codeIn K (.ref cda) "ArmError.__init__" = true)
    (lc : K.lookup cda = some ⟨ccl, cdd, .fields vs, ccs⟩) (hv : vs[2]? = some (.str file tf)) (hf : ((p.main.file : Str) == file) = true) (le : K.lookup cc = some ⟨cl, cld, .cell (some (.ref D)), csl⟩) (top : (p.main.scope.names.lookup ("super" : Str)).isSome = false) : ArmK p K c C D fI :=
  ⟨aC, aD, ⟨⟨nm, q, N, bs, bm, sn, sub, ab, col, dd, k0, k1, k2, k3, k5, xL, hb⟩, sa, ga, gg, noN, iC, tC, kC, exC, vC, tyC, hdC, Option.isSome_iff_exists.mp clD, mD, sm, ca, cn, ctk, cm, th,
    ⟨oc, od, kV, doc, pm, an, cda, cc, ct, osl, vs, file, tf, ccl, cl, cdd, cld, ccs, csl, lf, hcd, lc, hv, hf, le⟩, top⟩⟩
abbrev DefOf {K : PySem.W.Frag} {h : Heap} (_ : K.In h) (mg : Str → Option Value) (x : Str) (st : Stmt) : Prop := DefIn K mg x st
abbrev CstOf {K : PySem.W.Frag} {h : Heap} (_ : K.In h) (mg : Str → Option Value) (x : Str) (d : D) : Prop := Cst K mg x d
abbrev ArmOf {K : PySem.W.Frag} {h : Heap} (_ : K.In h) (p : Program) (c : Str) : Prop := ∃ C D fI, ArmK p K c C D fI
abbrev ExcOf {K : PySem.W.Frag} {h : Heap} (_ : K.In h) (mg : Str → Option Value) (p : Program) (c : Str) : Prop := ExcAt p K mg c
abbrev SubOf {K : PySem.W.Frag} {h : Heap} (_ : K.In h) (mg : Str → Option Value) (p : Program) (sub : Str → Str → Option Bool) : Prop := SubAt p K mg sub
abbrev HeardOf {K : PySem.W.Frag} {h : Heap} (_ : K.In h) (mg : Str → Option Value) : Prop := HeardAt K mg
theorem exc_mk {c : Str} (X : K.In h) (G : h.Ns mainGlobals mg) (A : ArmOf X p c) (z : PySem.W.nsIn K mainGlobals "super" = some none) : ExcAt p K mg c := by
  obtain ⟨C, D, fI, A⟩ := A
  exact ⟨⟨C, D, fI, PySem.W.mg_of X G A.aC, A.arm⟩, PySem.W.mg_none_of X G z⟩
theorem sub_mk {c c' : Str} {C C' : Addr} {b : Bool} (X : K.In h) (G : h.Ns mainGlobals mg) (A : ArmOf X p c) (a1 : PySem.W.nsIn K mainGlobals c = some (some (.ref C))) (a : PySem.W.nsIn K mainGlobals c' = some (some (.ref C'))) (k : PySem.W.kitOne K (.ref C) (.ref C') = some b) (e : PySem.W.exmOne K (.ref C) (.ref C') = some b) :
    ∃ C C' D fI, mg c = some (.ref C) ∧ mg c' = some (.ref C') ∧ ArmX.ArmAt p K C D fI ∧ PySem.W.kitOne K (.ref C) (.ref C') = some b ∧ PySem.W.exmOne K (.ref C) (.ref C') = some b := by
  obtain ⟨C1, D, fI, A⟩ := A
  cases (show some (some (Value.ref C)) = some (some (Value.ref C1)) from a1.symm.trans A.aC)
  exact ⟨C, C', D, fI, PySem.W.mg_of X G a1, PySem.W.mg_of X G a, A.arm, k, e⟩
theorem cls_mk {c : Str} {C : Addr} (X : K.In h) (G : h.Ns mainGlobals mg) (a : PySem.W.nsIn K mainGlobals c = some (some (.ref C))) : ∃ C, mg c = some (.ref C) := ⟨C, PySem.W.mg_of X G a⟩
theorem heard_mk {f D : Addr} {oc kV dc pm cd ct : Value} {od an : Option Addr} {sl : Array (Option Value)} {pg : Arguments} {q1 q2 q3 q4 q5 q6 q7 q8 q9 q10 q11 q12 q13 q14 q15 q16 q17 q18 q19 q20 q21 : Pos} (X : K.In h) (G : h.Ns mainGlobals mg)
    (a : PySem.W.nsIn K mainGlobals "_law_heard" = some (some (.ref f))) (aD : PySem.W.nsIn K mainGlobals "ArmError" = some (some (.ref D)))
    (l : K.lookup f = some ⟨oc, od, .func (PySem.W.fnOf "_law_heard" "_law_heard" pg (hdBody q1 q2 q3 q4 q5 q6 q7 q8 q9 q10 q11 q12 q13 q14 q15 q16 q17 q18 q19 q20 q21) hdScope .none kV dc pm an cd ct), sl⟩) (c : PySem.W.codeIn K cd "_law_heard" = true) (k : PySem.W.keepIn K (.ref f) = true)
    (b : ∀ us : List Value, us.length = 1 → bindArgs (PySem.W.fnOf "_law_heard" "_law_heard" pg (hdBody q1 q2 q3 q4 q5 q6 q7 q8 q9 q10 q11 q12 q13 q14 q15 q16 q17 q18 q19 q20 q21) hdScope .none kV dc pm an cd ct) ⟨us, []⟩ = pure ((["call"] : List Str).zip us))
    (hw : ∀ (Z1 Z2 : Addr) (Z3 : Value), swappedStores [.Tuple [.Name "caught" q1, .Name "gave" q2] 0 q3] (.Tuple [.Constant .none 0 q4, .Constant .none 0 q5] 0 q6) (envOfC "_law_heard" hdScope Z1 Z2 Z3) = pure none) : HeardAt K mg :=
  ⟨f, D, oc, od, kV, dc, pm, an, cd, ct, sl, pg, q1, q2, q3, q4, q5, q6, q7, q8, q9, q10, q11, q12, q13, q14, q15, q16, q17, q18, q19, q20, q21, PySem.W.mg_of X G a, PySem.W.mg_of X G aD, k, c, l, .all b, hw⟩
/-- a def with a lambda; its code object at c, its table at q -/
structure LamK (K : PySem.W.Frag) (mg : Str → Option Value) (x : Str) (st : Stmt) (c q : Addr) : Prop where
  ex : ∃ (f : Addr) (oc : Value) (od : Option Addr) (kV doc pm : Value) (an : Option Addr) (ct : Value) (osl : Array (Option Value)),
    mg x = some (.ref f) ∧ K.lookup f = some ⟨oc, od, .func (PySem.W.fnOf x x (defArgs st) (defBody st) (defScope st) .none kV doc pm an (.ref c) ct), osl⟩ ∧ PySem.W.codeIn K (.ref c) x = true ∧ PySem.W.keepIn K (.ref f) = true
theorem lamK_of {x : Str} {st : Stmt} {f c q : Addr} {oc kV dc pm ct : Value} {od an : Option Addr} {sl : Array (Option Value)} (X : K.In h) (G : h.Ns mainGlobals mg) (a : PySem.W.nsIn K mainGlobals x = some (some (.ref f)))
    (l : K.lookup f = some ⟨oc, od, .func (PySem.W.fnOf x x (defArgs st) (defBody st) (defScope st) .none kV dc pm an (.ref c) ct), sl⟩) (cI : PySem.W.codeIn K (.ref c) x = true) (k : PySem.W.keepIn K (.ref f) = true) : LamK K mg x st c q :=
  ⟨f, oc, od, kV, dc, pm, an, ct, sl, PySem.W.mg_of X G a, l, cI, k⟩
theorem LamK.def {x : Str} {st : Stmt} {c q : Addr} {base : Heap} {T : List (Addr × Str)} (L : LamK K mg x st c q) (TB : TabB base mg c q) (hm : (q, x ++ ".<locals>." ++ "<lambda>") ∈ T) (hu : ∀ y ∈ T, y.1 = q → y.2 = x ++ ".<locals>." ++ "<lambda>") : DefInL K mg base T x st := by
  obtain ⟨f, oc, od, kV, doc, pm, an, ct, osl, h1, h2, h3, h4⟩ := L.ex
  exact ⟨f, oc, od, kV, doc, pm, an, .ref c, ct, osl, h1, h2, h3, h4, c, q, rfl, TB, hm, hu⟩
/-- .. with its table, outside of the written part -/
structure LamE (K : PySem.W.Frag) (mg : Str → Option Value) (h : Heap) (x : Str) (st : Stmt) : Prop where
  ex : ∃ c q, LamK K mg x st c q ∧ PySem.W.codeHdIn K c q = true ∧ K.lookup q = none ∧ h.get? q = some { cls := .none, data := .fields #[] }
abbrev LamOf {K : PySem.W.Frag} {h : Heap} (_ : K.In h) (mg : Str → Option Value) (x : Str) (st : Stmt) : Prop := LamE K mg h x st
theorem lamE_mk {x : Str} {st : Stmt} {f c q : Addr} {oc kV dc pm ct : Value} {od an : Option Addr} {sl : Array (Option Value)} (X : K.In h) (G : h.Ns mainGlobals mg) (a : PySem.W.nsIn K mainGlobals x = some (some (.ref f)))
    (l : K.lookup f = some ⟨oc, od, .func (PySem.W.fnOf x x (defArgs st) (defBody st) (defScope st) .none kV dc pm an (.ref c) ct), sl⟩) (cI : PySem.W.codeIn K (.ref c) x = true) (k : PySem.W.keepIn K (.ref f) = true)
    (t : PySem.W.tabIn K x = some (c, q)) (d : PySem.W.codeHdIn K c q = true) (n : K.lookup q = none) (b : h.get? q = some { cls := .none, data := .fields #[] }) : LamE K mg h x st :=
  ⟨c, q, lamK_of X G a l cI k, d, n, b⟩
end
end DL


set_option linter.all false
set_option autoImplicit false
set_option Elab.async false
set_option maxRecDepth 100000
set_option maxHeartbeats 2000000
/-! DLx1: sums of bools. -/
namespace DL
open PySem PySem.Spec L2
open PyProof.Rows hiding St b2i
section
variable {T : List (Addr × Str)} {X : Cx} {a b : Expr} {fa fb : EF} {pos : Pos}
def rAddB : R2 := fun x y H Q => (∃ i j, x = .int i ∧ y = .int j ∧ Q (.int (i + j)) H) ∨ (∃ i j, x = .bl i ∧ y = .bl j ∧ Q (.int (b2i i + b2i j)) H) ∨ (∃ i j, x = .int i ∧ y = .bl j ∧ Q (.int (i + b2i j)) H) ∨ ∃ i j, x = .bl i ∧ y = .int j ∧ Q (.int (b2i i + j)) H
theorem op_addB : OpR X (binaryOp .Add) rAddB := by
  intro pins s σ H x y v u Q I rx ry h
  rcases h with h | h | h | h
  · exact op_add pins s σ H x y v u Q I rx ry h
  · obtain ⟨i, j, rfl, rfl, q⟩ := h
    cases (show v = Value.bool i from rx)
    cases (show u = Value.bool j from ry)
    exact add_bool ⟨.int _, H, I.tok _, ⟨_, rfl⟩, q⟩
  · obtain ⟨i, j, rfl, rfl, q⟩ := h
    obtain ⟨t, rfl⟩ := (show ∃ t, v = Value.int i t from rx)
    cases (show u = Value.bool j from ry)
    exact add_int_bool ⟨.int _, H, I.tok _, ⟨_, rfl⟩, q⟩
  · obtain ⟨i, j, rfl, rfl, q⟩ := h
    cases (show v = Value.bool i from rx)
    obtain ⟨t, rfl⟩ := (show ∃ t, u = Value.int j t from ry)
    exact PySem.IntBool.add_bool_int ⟨.int _, H, I.tok _, ⟨_, rfl⟩, q⟩
theorem px_addB (ha : PX T X a fa) (hb : PX T X b fb) : PX T X (.BinOp a .Add b pos) (eBin dAddB fa fb) := px_op op_addB (fun W σ β H S x y v u Q hs rx ry h => by
  cases x with
  | int i =>
    cases y with
    | int j => exact .inl ⟨i, j, rx, ry, post.val h hs rfl⟩
    | bl j => exact .inr (.inr (.inl ⟨i, j, rx, ry, post.val h hs rfl⟩))
    | _ => exact h.elim
  | bl i =>
    cases y with
    | bl j => exact .inr (.inl ⟨i, j, rx, ry, post.val h hs rfl⟩)
    | int j => exact .inr (.inr (.inr ⟨i, j, rx, ry, post.val h hs rfl⟩))
    | _ => exact h.elim
  | _ => cases y <;> exact h.elim) ha hb
end
end DL


set_option linter.all false
set_option autoImplicit false
set_option Elab.async false
set_option maxRecDepth 100000
set_option maxHeartbeats 2000000
/-! DLx2: comprehensions whose list is changed later. -/
namespace DL
open PySem PySem.Spec L2
open PyProof.Rows hiding St b2i
section
variable {w : Wo} {β : Bt} {H : Hp} {p : Addr} {hs : List Addr}
/-! ### a hidden list becomes one of the store -/
theorem FzL.rel {K : PySem.W.Frag} {a : Addr} {xs : List V} (hp : p ∈ β.h) (h : FzL K β H a xs) (hh : ∀ a ∈ hs, a ∈ β.h := by first | exact fun _ z => z | assumption) : FzL K ⟨β.l ++ [p], hs⟩ H a xs := by
  rcases h with ⟨h, n, n2⟩ | ⟨o, h⟩ | h
  · refine .inl ⟨h, fun z => ?_, fun z => n2 (hh a z)⟩
    rcases List.mem_append.mp z with z | z
    · exact n z
    · rw [List.mem_singleton.mp z] at n2; exact n2 hp
  · exact .inr (.inl ⟨o, h⟩)
  · exact .inr (.inr h)
mutual
theorem Rep.rel' (hp : p ∈ β.h) (hh : ∀ a ∈ hs, a ∈ β.h) : ∀ (d : D) (v : V), Rep w β H d v → Rep w ⟨β.l ++ [p], hs⟩ H d v
  | .non, _, h => h
  | .bl _, _, h => h
  | .int _, _, h => h
  | .str _, _, h => h
  | .tup ds, _, ⟨a, xs, r, h, l⟩ => ⟨a, xs, r, h, RepL.rel' hp hh ds xs l⟩
  | .lst ds, _, ⟨a, xs, r, h, l⟩ => ⟨a, xs, r, FzL.rel hp h hh, RepL.rel' hp hh ds xs l⟩
  | .loc n, _, ⟨a, r, h⟩ => ⟨a, r, by show (β.l ++ [p])[n]? = some a; rw [List.getElem?_append_left (List.getElem?_eq_some_iff.mp h).1]; exact h⟩
  | .exo c d, _, ⟨a, C, dx, x, r, h1, h2, h3, h4⟩ => ⟨a, C, dx, x, r, h1, h2, h3, Rep.rel' hp hh d x h4⟩
  | .ty _, _, h => h
  | .cls _, _, h => h
  | .fn _, _, h => h
theorem RepL.rel' (hp : p ∈ β.h) (hh : ∀ a ∈ hs, a ∈ β.h) : ∀ (ds : List D) (vs : List V), RepL w β H ds vs → RepL w ⟨β.l ++ [p], hs⟩ H ds vs
  | [], _, h => h
  | d :: ds, _, ⟨x, xr, r, h, l⟩ => ⟨x, xr, r, Rep.rel' hp hh d x h, RepL.rel' hp hh ds xr l⟩
end
end
section
variable {T : List (Addr × Str)} {X : Cx} {elt tg iter : Expr} {ifs : List Expr} {scope : Scope} {own : List (Str × Nat)} {pos : Pos} {it : AF} {g : TgF} {t : TF} {f : EF} {ws : List Nat}
theorem comp_readN {W : WX} {vs : List Nat} (hw : ∀ i ∈ ws, i ∈ vs) {σ : St} {H : Hp} {Q : VK} (h : tE (wo X T) W (eCompN vs it g t f) σ H Q) :
    tLc (tI (wo X T) W it) (tG (wo X T) g ws) (tT (wo X T) noW t) (tE (wo X T) noW f) vs σ H Q := by
  obtain ⟨β, ρ, S, hs, he, h⟩ := h
  refine ⟨β, ρ, S, hs, he, ?_⟩
  unfold eCompN at h
  cases q : it ρ S with
  | exc c d S1 => rw [q] at h; exact h
  | bad => rw [q] at h; exact h
  | ok ds S1 =>
    rw [q] at h
    simp only [bind_ok] at h
    intro J β1 H1 x1 k1 wk D hD
    split at h
    · rename_i hz
      have h1 := post.ext h x1
      have nD := notin_of k1 hD
      -- the state of the turns
      refine ⟨fun i m H' => m = ds.length - i ∧ i ≤ ds.length ∧ ∃ (β' : Bt) (S' : Sto) (ys : List DL.D) (acc : List V), β'.h = D :: β1.h ∧ Ext β1 H1 ⟨β'.l, β1.h⟩ H' ∧ SOk (wo X T) β' H' S' ∧ RepE (wo X T) β' H' ρ σ ∧
        H' D = some (.lst acc) ∧ RepL (wo X T) β' H' ys acc ∧ acc.length ≤ i ∧ post (wo X T) W σ β1 H1 ((compL vs g t f ρ (ds.drop i) S').bind fun zs S => .ok (.loc S.length) (S ++ [ys ++ zs])) Q, ?_, ?_⟩
      · -- start
        have xn : Ext β1 H1 β1 (upd H1 D (.lst [])) := Ext.new hD
        have xw : ExtW β1 H1 ⟨β1.l, D :: β1.h⟩ (upd H1 D (.lst [])) := ⟨⟨[], by simp, fun _ z => nomatch z⟩, fun a ha => by
          rcases List.mem_cons.mp ha with z | z
          · exact .inr (by rw [z]; exact .of hD)
          · exact .inl z, xn.keep, xn.lsts, xn.dom⟩
        refine ⟨ds.length, by simp, Nat.zero_le _, ⟨β1.l, D :: β1.h⟩, S1, [], [], rfl, xn, ⟨k1.tabs.ext (same_upd hD), k1.nodup, fun a ha => ?_, k1.len, fun n a es e1 e2 => ?_⟩, (he.ext x1.toExtW).ext xw, upd_same, rfl, Nat.le_refl _, ?_⟩
        · rcases List.mem_cons.mp ha with z | z
          · rw [z, upd_same]; exact ⟨⟨[], rfl⟩, nD.1⟩
          · exact ⟨(k1.hid a z).1.imp fun zs e => xn.lsts a zs e (k1.hid a z).2, (k1.hid a z).2⟩
        · obtain ⟨xs, g1, g2⟩ := k1.at_ n a es e1 e2
          exact ⟨xs, same_upd hD _ _ g1, RepL.ext xw es xs g2⟩
        · simpa using h1
      · rintro i m H2 ⟨rfl, hi, β2, S2, ys, acc, hh, x2, k2, e2, hacc, racc, hle, q2⟩
        have mD : D ∈ β2.h := by rw [hh]; exact List.mem_cons_self
        have nD2 := (k2.hid D mD).2
        have w2 : ExtW β1 H1 β2 H2 := ⟨x2.pre, fun a ha => by
          rw [hh] at ha
          rcases List.mem_cons.mp ha with z | z
          · exact .inr (by rw [z]; exact .of hD)
          · exact .inl z, x2.keep, x2.lsts, x2.dom⟩
        by_cases hlt : i < ds.length
        · have hd : ds[i]? = some ds[i] := List.getElem?_eq_getElem hlt
          rw [List.drop_eq_getElem_cons hlt] at q2
          simp only [compL] at q2
          cases qg : g ds[i] (wipeE ρ vs) with
          | none => rw [qg] at q2; exact q2.elim
          | some ρ3 =>
            rw [qg] at q2
            simp only at q2
            refine .inr ⟨wk.go i _ hd β2 H2 w2, fun H' => i + 1 ≤ ds.length ∧ ∃ (β' : Bt) (S' : Sto) (ys : List DL.D) (acc : List V), β'.h = D :: β1.h ∧ Ext β1 H1 ⟨β'.l, β1.h⟩ H' ∧ SOk (wo X T) β' H' S' ∧ RepE (wo X T) β' H' ρ σ ∧
              H' D = some (.lst acc) ∧ RepL (wo X T) β' H' ys acc ∧ acc.length ≤ i + 1 ∧ post (wo X T) W σ β1 H1 ((compL vs g t f ρ (ds.drop (i + 1)) S').bind fun zs S => .ok (.loc S.length) (S ++ [ys ++ zs])) Q,
              fun H' z => ⟨ds.length - (i + 1), by omega, rfl, z⟩, fun x H' y => ?_⟩
            obtain ⟨sm, rx⟩ := wk.yld i _ hd β2 H2 w2 x H' y
            have xs : Ext β2 H2 β2 H' := .same sm
            have xs' : Ext ⟨β2.l, β1.h⟩ H2 ⟨β2.l, β1.h⟩ H' := .same sm
            refine ⟨β2, ds[i], wipeE ρ vs, ρ3, rx, (e2.ext xs.toExtW).wipe vs, qg, fun σ3 e3 o3 => ?_⟩
            have hwp : wipe (wipe σ vs) vs = wipe σ vs := by
              refine wipe_of (ws := vs) ⟨wipe_length σ vs, fun j hj => ?_⟩ fun _ h => h
              exact wipe_out hj
            refine ⟨(wipe_of o3 hw).trans hwp, β2, ρ3, S2, k2.same sm, e3, ?_⟩
            have cont : ∀ (β4 : Bt) (H4 : Hp) (S4 : Sto), Ext β2 H' β4 H4 → β4.h = D :: β1.h ∧ Ext β1 H1 ⟨β4.l, β1.h⟩ H4 ∧ H4 D = some (.lst acc) ∧ RepE (wo X T) β4 H4 ρ σ ∧ Ext ⟨β2.l, β1.h⟩ H2 ⟨β4.l, β1.h⟩ H4 := fun β4 H4 S4 x4 => by
              have x24 := xs.trans x4
              have y4 : Ext ⟨β2.l, β1.h⟩ H2 ⟨β4.l, β1.h⟩ H4 := ⟨⟨x24.pre, fun a ha => .inl ha, x24.keep, x24.lsts, x24.dom⟩, rfl⟩
              exact ⟨x4.heq.trans hh, x2.trans y4, x24.lsts D acc hacc nD2, e2.ext x24.toExtW, y4⟩
            cases qt : t ρ3 S2 with
            | exc c d S3 => rw [qt] at q2; exact q2.elim
            | bad => rw [qt] at q2; exact q2.elim
            | ok b S3 =>
              rw [qt] at q2
              intro β3 H3 x3 k3
              cases b with
              | false =>
                simp only [Bool.false_eq_true, if_false]
                simp only at q2
                obtain ⟨a1, a2, a3, a4, a5⟩ := cont β3 H3 S3 x3
                exact ⟨hlt, β3, S3, ys, acc, a1, a2, k3, a4, a3, RepL.ext (xs.trans x3).toExtW ys acc racc, by omega, q2⟩
              | true =>
                simp only [if_true]
                simp only at q2
                refine ⟨β3, ρ3, S3, k3, e3.ext x3.toExtW, ?_⟩
                cases qf : f ρ3 S3 with
                | exc c d S4 => rw [qf] at q2; exact q2.elim
                | bad => rw [qf] at q2; exact q2.elim
                | ok y0 S4 =>
                  rw [qf] at q2
                  simp only at q2
                  intro v β4 H4 x4 k4 r4
                  obtain ⟨a1, a2, a3, a4, a5⟩ := cont β4 H4 S4 (x3.trans x4)
                  have m4 : D ∈ β4.h := by rw [a1]; exact List.mem_cons_self
                  have racc4 := RepL.ext (xs.trans (x3.trans x4)).toExtW ys acc racc
                  have nD4 := (k4.hid D m4).2
                  -- the list with one item more
                  have xu : Ext β1 H1 ⟨β4.l, β1.h⟩ (upd H4 D (.lst (acc ++ [v]))) := ⟨⟨a2.pre, fun a ha => .inl ha, fun a o e n1 n2 => by
                      rw [upd_ne (ne_of_none e hD)]; exact a2.keep a o e n1 n2, fun a zs e n => by
                      rw [upd_ne (ne_of_none e hD)]; exact a2.lsts a zs e n, fun a n o e => by
                      by_cases z : a = D
                      · rw [z, hD] at e; cases e
                      · exact a2.dom a (fun o e => n o (by rw [upd_ne z]; exact e)) o e⟩, rfl⟩
                  refine ⟨acc, a3, ?_, hlt, β4, S4, ys ++ [y0], acc ++ [v], a1, xu, k4.hide m4 a3, a4.hide m4 a3, upd_same, RepL.append (RepL.hid m4 a3 ys acc racc4) ⟨v, [], rfl, Rep.hid m4 a3 y0 v r4, rfl⟩, by simp; omega, ?_⟩
                  · rw [sizeLine_eq]; omega
                  · have q3 := q2
                    have eq : ((compL vs g t f ρ (ds.drop (i + 1)) S4).bind fun ys' S => .ok (y0 :: ys') S).bind (fun zs S => R.ok (DL.D.loc S.length) (S ++ [ys ++ zs])) = (compL vs g t f ρ (ds.drop (i + 1)) S4).bind fun zs S => R.ok (DL.D.loc S.length) (S ++ [ys ++ [y0] ++ zs]) := by
                      cases compL vs g t f ρ (ds.drop (i + 1)) S4 <;> simp
                    rw [← eq]
                    exact q3
        · have e0 : i = ds.length := by omega
          subst e0
          rw [List.drop_length] at q2
          simp only [compL, bind_ok, List.append_nil] at q2
          have hD2 : D ∈ β2.h := mD
          refine .inl ⟨wk.stop β2 H2 w2, q2 (.ref D) ⟨β2.l ++ [D], β1.h⟩ H2 ?_ ?_ ⟨D, rfl, ?_⟩⟩
          · obtain ⟨ν, e1, f1⟩ := x2.pre
            have e1 : β2.l = β1.l ++ ν := e1
            exact ⟨⟨⟨ν ++ [D], by rw [e1, List.append_assoc], fun p hp => by
              rcases List.mem_append.mp hp with z | z
              · exact f1 p z
              · rw [List.mem_singleton.mp z]; exact .of hD⟩, x2.hid, x2.keep, x2.lsts, x2.dom⟩, rfl⟩
          · refine ⟨k2.tabs, ?_, fun a ha => ⟨(k2.hid a (by rw [hh]; exact List.mem_cons_of_mem _ ha)).1, fun z => ?_⟩, by simp [k2.len], fun n a es e1 e2 => ?_⟩
            · show (β2.l ++ [D]).Nodup
              rw [List.nodup_append]
              exact ⟨k2.nodup, by simp, fun a ha b hb => by rw [List.mem_singleton.mp hb]; exact fun z => nD2 (z ▸ ha)⟩
            · rcases List.mem_append.mp z with z | z
              · exact (k2.hid a (by rw [hh]; exact List.mem_cons_of_mem _ ha)).2 z
              · rw [List.mem_singleton.mp z] at ha; exact nD.2 ha
            · have e1 : (β2.l ++ [D])[n]? = some a := e1
              by_cases hn : n < β2.l.length
              · rw [List.getElem?_append_left hn] at e1
                rw [List.getElem?_append_left (by rw [← k2.len]; exact hn)] at e2
                obtain ⟨xs, g1, g2⟩ := k2.at_ n a es e1 e2
                exact ⟨xs, g1, RepL.rel' hD2 (fun a ha => by rw [hh]; exact List.mem_cons_of_mem _ ha) es xs g2⟩
              · rw [List.getElem?_append_right (by omega)] at e1
                rw [List.getElem?_append_right (by rw [← k2.len]; omega)] at e2
                have hn0 : n - β2.l.length = 0 := by
                  have := (List.getElem?_eq_some_iff.mp e1).1
                  simp at this; omega
                rw [hn0] at e1
                rw [← k2.len, hn0] at e2
                simp at e1 e2
                subst e1; subst e2
                exact ⟨acc, hacc, RepL.rel' hD2 (fun a ha => by rw [hh]; exact List.mem_cons_of_mem _ ha) ys acc racc⟩
          · show (β2.l ++ [D])[S2.length]? = some D
            rw [← k2.len]; simp
    · exact h.elim
theorem px_compN (hc : X.calm = true) (hN : X.N.Nodup) (hi : PXI T X tg iter it) (ok : BlkOk X.N X.env.scope scope own)
    (hg : ∀ (s : Shared) (H : Hp) (C : Addr) (cl : List (Str × Addr)) (fp : List Addr), PXG T (X.blk s H scope (compEnvC scope cl C X.env) fp) tg g ws)
    (ht : ∀ (s : Shared) (H : Hp) (C : Addr) (cl : List (Str × Addr)) (fp : List Addr), PXTs T (X.blk s H scope (compEnvC scope cl C X.env) fp) ifs t)
    (he : ∀ (s : Shared) (H : Hp) (C : Addr) (cl : List (Str × Addr)) (fp : List Addr), PX T (X.blk s H scope (compEnvC scope cl C X.env) fp) elt f)
    (hw : ∀ i ∈ ws, i ∈ own.map (·.2)) (hs : ∀ x, foldedSetIterable iter X.env x = pure x := by intro _; rfl) : PX T X (.ListComp elt [⟨tg, iter, ifs, 0⟩] scope pos) (eCompN (own.map (·.2)) it g t f) :=
  ⟨fun W tk => PE.weak (pe_lc hc hN (hi.run W tk) ok (fun s H C cl fp => (hg s H C cl fp).run) (fun s H C cl fp => (ht s H C cl fp).run noW takesNo) (fun s H C cl fp => (he s H C cl fp).run noW takesNo) hs) fun σ H Q h => comp_readN hw h⟩
/-- name = [..] on one line -/
theorem px_setCompN (i : Nat) {y : Str} {py spos : Pos} (hc : X.calm = true) (hN : X.N.Nodup) (hi : PXI T X tg iter it) (ok : BlkOk X.N X.env.scope scope own)
    (hg : ∀ (s : Shared) (H : Hp) (C : Addr) (cl : List (Str × Addr)) (fp : List Addr), PXG T (X.blk s H scope (compEnvC scope cl C X.env) fp) tg g ws)
    (ht : ∀ (s : Shared) (H : Hp) (C : Addr) (cl : List (Str × Addr)) (fp : List Addr), PXTs T (X.blk s H scope (compEnvC scope cl C X.env) fp) ifs t)
    (he : ∀ (s : Shared) (H : Hp) (C : Addr) (cl : List (Str × Addr)) (fp : List Addr), PX T (X.blk s H scope (compEnvC scope cl C X.env) fp) elt f)
    (hw : ∀ i ∈ ws, i ∈ own.map (·.2)) (hsw : swapsWith (.ListComp elt [⟨tg, iter, ifs, 0⟩] scope pos) (some (.Name y py)) spos.line X.env = pure true)
    (hy : X.N[i]? = some y := by rfl) (hyl : X.env.scope.names.lookup y = some .local := by rfl) (hs : ∀ x, foldedSetIterable iter X.env x = pure x := by intro _; rfl) :
    PXS T X (.Assign [.Name y py] (.ListComp elt [⟨tg, iter, ifs, 0⟩] scope pos) spos) (sSet i (eCompN (own.map (·.2)) it g t f)) :=
  ⟨fun W tk => PS.weak (ps_setLc hc hN hy hyl hsw (hi.run W tk) ok (fun s H C cl fp => (hg s H C cl fp).run) (fun s H C cl fp => (ht s H C cl fp).run noW takesNo) (fun s H C cl fp => (he s H C cl fp).run noW takesNo) hs)
    fun D σ H ⟨β, ρ, S, hs, he, h⟩ => comp_readN hw (tE_st hs he h fun d S1 v β1 H1 x1 k1 e1 r1 q1 => q1.nx_ k1 (e1.set r1 i))⟩
end
end DL


set_option linter.all false
set_option autoImplicit false
/-! the mirror of elbowsexactly_k18_whole_turns_near_ways, printed by gen.py -/
namespace K18
open PySem DL
def k_MOST : D := .int 1000000
def k_ONE : D := .tup [.int 1, .int 1]
def k_QUARTER : D := .tup [.tup [.int 0, .int 1], .tup [.int 1, .int 1]]
def k_ZERO : D := .tup [.int 0, .int 1]
def sub0 (c c' : Str) : Option Bool := if c = "BadInt" ∧ c' = "BadInt" then some true else if c = "BadInt" ∧ c' = "ArmError" then some true else if c = "BadInt" ∧ c' = "BadTurn" then some false else if c = "BadTurn" ∧ c' = "BadTurn" then some true else if c = "BadTurn" ∧ c' = "ArmError" then some true else if c = "BadTurn" ∧ c' = "BadInt" then some false else none
noncomputable def m_is_int : SF := sRet (eAnd (eCall (fIsi sub0) (aCons (eVar 0) (aCons (eC (.ty "int")) (aNil)))) (eAnd (eNot (eCall (fIsi sub0) (aCons (eVar 0) (aCons (eC (.ty "bool")) (aNil))))) (eChain dLe dLe (eVar 1) (eVar 0) (eVar 2))))
noncomputable def f_is_int : FN := mkFn 3 3 m_is_int
noncomputable def m_is_whole : SF := sRet (eAnd (eCall (fIsi sub0) (aCons (eVar 0) (aCons (eC (.ty "int")) (aNil)))) (eNot (eCall (fIsi sub0) (aCons (eVar 0) (aCons (eC (.ty "bool")) (aNil))))))
noncomputable def f_is_whole : FN := mkFn 1 1 m_is_whole
noncomputable def m_common : SF := sSeq (sPar 0 1 (aCons (eCall fAbs (aCons (eVar 0) (aNil))) (aCons (eCall fAbs (aCons (eVar 1) (aNil))) (aNil)))) (sSeq (sWhile (tOf (eBin dNe (eVar 1) (eC (.int 0)))) (sPar 0 1 (aCons (eVar 1) (aCons (eBin dMod (eVar 0) (eVar 1)) (aNil))))) (sRet (eVar 0)))
noncomputable def f_common : FN := mkFn 2 2 m_common
noncomputable def m_rate : SF := sSeq (sSet 2 (eCall f_common (aCons (eVar 0) (aCons (eVar 1) (aNil))))) (sSeq (sIf (tOf (eBin dLt (eVar 1) (eC (.int 0)))) (sSet 2 (eUn dNeg (eVar 2))) (sNil)) (sRet (eTup (aCons (eBin dDiv (eVar 0) (eVar 2)) (aCons (eBin dDiv (eVar 1) (eVar 2)) (aNil))))))
noncomputable def f_rate : FN := mkFn 2 3 m_rate
noncomputable def m_is_lowest : SF := sSeq (sIf (DL.tOr (DL.tNot (tTru (eCall (fIsi sub0) (aCons (eVar 0) (aCons (eC (.ty "tuple")) (aNil)))))) (DL.tOr (tOf (eBin dNe (eCall fLen (aCons (eVar 0) (aNil))) (eC (.int 2)))) (DL.tOr (DL.tNot (tTru (eCall f_is_whole (aCons (eBin dIx (eVar 0) (eC (.int 0))) (aNil))))) (DL.tNot (tTru (eCall f_is_whole (aCons (eBin dIx (eVar 0) (eC (.int 1))) (aNil)))))))) (sRet (eC (.bl false))) (sNil)) (sRet (eAnd (eBin dGt (eBin dIx (eVar 0) (eC (.int 1))) (eC (.int 0))) (eBin dEq (eCall f_common (aCons (eBin dIx (eVar 0) (eC (.int 0))) (aCons (eBin dIx (eVar 0) (eC (.int 1))) (aNil)))) (eC (.int 1)))))
noncomputable def f_is_lowest : FN := mkFn 1 1 m_is_lowest
noncomputable def m_is_fraction : SF := sRet (eAnd (eCall f_is_lowest (aCons (eVar 0) (aNil))) (eAnd (eChain dLe dLe (eUn dNeg (eC k_MOST)) (eBin dIx (eVar 0) (eC (.int 0))) (eC k_MOST)) (eBin dLe (eBin dIx (eVar 0) (eC (.int 1))) (eC k_MOST))))
noncomputable def f_is_fraction : FN := mkFn 1 1 m_is_fraction
noncomputable def m_plus : SF := sRet (eCall f_rate (aCons (eBin dAdd (eBin dMul (eBin dIx (eVar 0) (eC (.int 0))) (eBin dIx (eVar 1) (eC (.int 1)))) (eBin dMul (eBin dIx (eVar 1) (eC (.int 0))) (eBin dIx (eVar 0) (eC (.int 1))))) (aCons (eBin dMul (eBin dIx (eVar 0) (eC (.int 1))) (eBin dIx (eVar 1) (eC (.int 1)))) (aNil))))
noncomputable def f_plus : FN := mkFn 2 2 m_plus
noncomputable def m_less : SF := sRet (eCall f_rate (aCons (eBin dSub (eBin dMul (eBin dIx (eVar 0) (eC (.int 0))) (eBin dIx (eVar 1) (eC (.int 1)))) (eBin dMul (eBin dIx (eVar 1) (eC (.int 0))) (eBin dIx (eVar 0) (eC (.int 1))))) (aCons (eBin dMul (eBin dIx (eVar 0) (eC (.int 1))) (eBin dIx (eVar 1) (eC (.int 1)))) (aNil))))
noncomputable def f_less : FN := mkFn 2 2 m_less
noncomputable def m_times : SF := sRet (eCall f_rate (aCons (eBin dMul (eBin dIx (eVar 0) (eC (.int 0))) (eBin dIx (eVar 1) (eC (.int 0)))) (aCons (eBin dMul (eBin dIx (eVar 0) (eC (.int 1))) (eBin dIx (eVar 1) (eC (.int 1)))) (aNil))))
noncomputable def f_times : FN := mkFn 2 2 m_times
noncomputable def m_turned_sign : SF := sRet (eTup (aCons (eUn dNeg (eBin dIx (eVar 0) (eC (.int 0)))) (aCons (eBin dIx (eVar 0) (eC (.int 1))) (aNil))))
noncomputable def f_turned_sign : FN := mkFn 1 1 m_turned_sign
noncomputable def m_squared : SF := sRet (eTup (aCons (eBin dMul (eBin dIx (eVar 0) (eC (.int 0))) (eBin dIx (eVar 0) (eC (.int 0)))) (aCons (eBin dMul (eBin dIx (eVar 0) (eC (.int 1))) (eBin dIx (eVar 0) (eC (.int 1)))) (aNil))))
noncomputable def f_squared : FN := mkFn 1 1 m_squared
noncomputable def m_plain : SF := sRet (eTup (aCons (eVar 0) (aCons (eC k_ZERO) (aCons (eC (.int 0)) (aNil)))))
noncomputable def f_plain : FN := mkFn 1 1 m_plain
noncomputable def m_negative : SF := sRet (eTup (aCons (eCall f_turned_sign (aCons (eBin dIx (eVar 0) (eC (.int 0))) (aNil))) (aCons (eCall f_turned_sign (aCons (eBin dIx (eVar 0) (eC (.int 1))) (aNil))) (aCons (eBin dIx (eVar 0) (eC (.int 2))) (aNil)))))
noncomputable def f_negative : FN := mkFn 1 1 m_negative
noncomputable def m_sign_of_int : SF := sSeq (sIf (tOf (eBin dEq (eVar 0) (eC (.int 0)))) (sRet (eC (.int 0))) (sNil)) (sRet (eIf (tOf (eBin dGt (eVar 0) (eC (.int 0)))) (eC (.int 1)) (eUn dNeg (eC (.int 1)))))
noncomputable def f_sign_of_int : FN := mkFn 1 1 m_sign_of_int
noncomputable def m_sign_under : SF := sSeq (sPar 3 4 (aCons (eCall f_sign_of_int (aCons (eVar 0) (aNil))) (aCons (eIf (tOf (eBin dGt (eVar 2) (eC (.int 0)))) (eCall f_sign_of_int (aCons (eVar 1) (aNil))) (eC (.int 0))) (aNil)))) (sSeq (sIf (DL.tOr (tOf (eBin dEq (eVar 4) (eC (.int 0)))) (tOf (eBin dEq (eVar 3) (eVar 4)))) (sRet (eVar 3)) (sNil)) (sSeq (sIf (tOf (eBin dEq (eVar 3) (eC (.int 0)))) (sRet (eVar 4)) (sNil)) (sRet (eBin dMul (eVar 3) (eCall f_sign_of_int (aCons (eBin dSub (eBin dMul (eVar 0) (eVar 0)) (eBin dMul (eBin dMul (eVar 1) (eVar 1)) (eVar 2))) (aNil)))))))
noncomputable def f_sign_under : FN := mkFn 3 5 m_sign_under
noncomputable def m_sign : SF := sRet (eCall f_sign_under (aCons (eBin dMul (eBin dIx (eBin dIx (eVar 0) (eC (.int 0))) (eC (.int 0))) (eBin dIx (eBin dIx (eVar 0) (eC (.int 1))) (eC (.int 1)))) (aCons (eBin dMul (eBin dIx (eBin dIx (eVar 0) (eC (.int 1))) (eC (.int 0))) (eBin dIx (eBin dIx (eVar 0) (eC (.int 0))) (eC (.int 1)))) (aCons (eBin dIx (eVar 0) (eC (.int 2))) (aNil)))))
noncomputable def f_sign : FN := mkFn 1 1 m_sign
noncomputable def q_sign_of_four_1 : SF := sSet 6 (eCall f_sign_under (aCons (eVar 0) (aCons (eVar 1) (aCons (eVar 4) (aNil)))))
noncomputable def q_sign_of_four_2 : SF := sSet 7 (eIf (tOf (eBin dGt (eVar 5) (eC (.int 0)))) (eCall f_sign_under (aCons (eVar 2) (aCons (eVar 3) (aCons (eVar 4) (aNil))))) (eC (.int 0)))
noncomputable def q_sign_of_four_3 : SF := sIf (DL.tOr (tOf (eBin dEq (eVar 7) (eC (.int 0)))) (tOf (eBin dEq (eVar 6) (eVar 7)))) (sRet (eVar 6)) (sNil)
noncomputable def q_sign_of_four_4 : SF := sIf (tOf (eBin dEq (eVar 6) (eC (.int 0)))) (sRet (eVar 7)) (sNil)
noncomputable def q_sign_of_four_5 : SF := sSet 8 (eBin dSub (eBin dAdd (eBin dMul (eVar 0) (eVar 0)) (eBin dMul (eBin dMul (eVar 1) (eVar 1)) (eVar 4))) (eBin dMul (eBin dAdd (eBin dMul (eVar 2) (eVar 2)) (eBin dMul (eBin dMul (eVar 3) (eVar 3)) (eVar 4))) (eVar 5)))
noncomputable def q_sign_of_four_6 : SF := sRet (eBin dMul (eVar 6) (eCall f_sign_under (aCons (eVar 8) (aCons (eBin dMul (eC (.int 2)) (eBin dSub (eBin dMul (eVar 0) (eVar 1)) (eBin dMul (eBin dMul (eVar 2) (eVar 3)) (eVar 5)))) (aCons (eVar 4) (aNil))))))
noncomputable def m_sign_of_four : SF := sSeq (q_sign_of_four_1) (sSeq (q_sign_of_four_2) (sSeq (q_sign_of_four_3) (sSeq (q_sign_of_four_4) (sSeq (q_sign_of_four_5) (q_sign_of_four_6)))))
noncomputable def f_sign_of_four : FN := mkFn 6 9 m_sign_of_four
noncomputable def m_ints_of : SF := sSeq (sAsg (gTupD (gsCons (gTupD (gsCons (gSet 1) (gsCons (gSet 2) (gsNil)))) (gsCons (gTupD (gsCons (gSet 3) (gsCons (gSet 4) (gsNil)))) (gsCons (gSet 5) (gsNil))))) (eBin dIx (eVar 0) (eC (.int 0)))) (sSeq (sAsg (gTupD (gsCons (gTupD (gsCons (gSet 6) (gsCons (gSet 7) (gsNil)))) (gsCons (gTupD (gsCons (gSet 8) (gsCons (gSet 9) (gsNil)))) (gsCons (gSet 10) (gsNil))))) (eBin dIx (eVar 0) (eC (.int 1)))) (sSeq (sPar 11 12 (aCons (eBin dMul (eVar 2) (eVar 4)) (aCons (eBin dMul (eVar 7) (eVar 9)) (aNil)))) (sSeq (sPar 13 14 (aCons (eBin dMul (eBin dMul (eVar 1) (eVar 4)) (eVar 12)) (aCons (eBin dMul (eBin dMul (eVar 3) (eVar 2)) (eVar 12)) (aNil)))) (sSeq (sPar 15 16 (aCons (eBin dMul (eBin dMul (eVar 6) (eVar 9)) (eVar 11)) (aCons (eBin dMul (eBin dMul (eVar 8) (eVar 7)) (eVar 11)) (aNil)))) (sRet (eTup (aCons (eVar 13) (aCons (eVar 14) (aCons (eVar 15) (aCons (eVar 16) (aCons (eCall fMax (aCons (eVar 5) (aCons (eVar 10) (aNil)))) (aNil))))))))))))
noncomputable def f_ints_of : FN := mkFn 1 17 m_ints_of
noncomputable def m_sign_of_cross : SF := sSeq (sAsg (gTupD (gsCons (gSet 2) (gsCons (gSet 3) (gsCons (gSet 4) (gsCons (gSet 5) (gsCons (gSet 6) (gsNil))))))) (eCall f_ints_of (aCons (eVar 0) (aNil)))) (sSeq (sAsg (gTupD (gsCons (gSet 7) (gsCons (gSet 8) (gsCons (gSet 9) (gsCons (gSet 10) (gsCons (gSet 11) (gsNil))))))) (eCall f_ints_of (aCons (eVar 1) (aNil)))) (sSeq (sPar 12 13 (aCons (eBin dSub (eBin dMul (eVar 2) (eVar 9)) (eBin dMul (eVar 4) (eVar 7))) (aCons (eBin dSub (eBin dMul (eVar 3) (eVar 9)) (eBin dMul (eVar 5) (eVar 7))) (aNil)))) (sRet (eCall f_sign_of_four (aCons (eVar 12) (aCons (eVar 13) (aCons (eBin dSub (eBin dMul (eVar 2) (eVar 10)) (eBin dMul (eVar 4) (eVar 8))) (aCons (eBin dSub (eBin dMul (eVar 3) (eVar 10)) (eBin dMul (eVar 5) (eVar 8))) (aCons (eVar 6) (aCons (eVar 11) (aNil)))))))))))
noncomputable def f_sign_of_cross : FN := mkFn 2 14 m_sign_of_cross
noncomputable def m_sign_of_dot : SF := sRet (eCall f_sign_of_cross (aCons (eVar 0) (aCons (eTup (aCons (eCall f_negative (aCons (eBin dIx (eVar 1) (eC (.int 1))) (aNil))) (aCons (eBin dIx (eVar 1) (eC (.int 0))) (aNil)))) (aNil))))
noncomputable def f_sign_of_dot : FN := mkFn 2 2 m_sign_of_dot
noncomputable def m_is_turn : SF := sSeq (sIf (DL.tOr (DL.tNot (tTru (eCall (fIsi sub0) (aCons (eVar 0) (aCons (eC (.ty "tuple")) (aNil)))))) (DL.tOr (tOf (eBin dNe (eCall fLen (aCons (eVar 0) (aNil))) (eC (.int 2)))) (DL.tNot (tTru (eCall fAll (aCons (eComp [1] (wTup (eVar 0)) (gSet 1) (tYes) (eCall f_is_lowest (aCons (eVar 1) (aNil)))) (aNil))))))) (sRet (eC (.bl false))) (sNil)) (sRet (eBin dEq (eCall f_plus (aCons (eCall f_squared (aCons (eBin dIx (eVar 0) (eC (.int 0))) (aNil))) (aCons (eCall f_squared (aCons (eBin dIx (eVar 0) (eC (.int 1))) (aNil))) (aNil)))) (eC k_ONE)))
noncomputable def f_is_turn : FN := mkFn 1 2 m_is_turn
noncomputable def m_look_at_turn : SF := sIf (DL.tNot (tTru (eCall f_is_turn (aCons (eVar 0) (aNil))))) (sRaise "BadTurn" (eVar 0)) (sNil)
noncomputable def f_look_at_turn : FN := mkFn 1 1 m_look_at_turn
noncomputable def m_told_turn_of : SF := sSeq (sAsg (gTupD (gsCons (gSet 1) (gsCons (gSet 2) (gsNil)))) (eVar 0)) (sSeq (sSet 3 (eBin dAdd (eBin dMul (eVar 1) (eVar 1)) (eBin dMul (eVar 2) (eVar 2)))) (sRet (eTup (aCons (eCall f_rate (aCons (eBin dSub (eBin dMul (eVar 2) (eVar 2)) (eBin dMul (eVar 1) (eVar 1))) (aCons (eVar 3) (aNil)))) (aCons (eCall f_rate (aCons (eBin dMul (eBin dMul (eC (.int 2)) (eVar 1)) (eVar 2)) (aCons (eVar 3) (aNil)))) (aNil))))))
noncomputable def f_told_turn_of : FN := mkFn 1 4 m_told_turn_of
noncomputable def m_told_behind : SF := sSeq (sSet 2 (eCall f_less (aCons (eCall f_times (aCons (eBin dIx (eVar 0) (eC (.int 0))) (aCons (eBin dIx (eVar 1) (eC (.int 0))) (aNil)))) (aCons (eCall f_times (aCons (eBin dIx (eVar 0) (eC (.int 1))) (aCons (eBin dIx (eVar 1) (eC (.int 1))) (aNil)))) (aNil))))) (sRet (eTup (aCons (eVar 2) (aCons (eCall f_plus (aCons (eCall f_times (aCons (eBin dIx (eVar 0) (eC (.int 0))) (aCons (eBin dIx (eVar 1) (eC (.int 1))) (aNil)))) (aCons (eCall f_times (aCons (eBin dIx (eVar 0) (eC (.int 1))) (aCons (eBin dIx (eVar 1) (eC (.int 0))) (aNil)))) (aNil)))) (aNil)))))
noncomputable def f_told_behind : FN := mkFn 2 3 m_told_behind
noncomputable def m_lifted : SF := sRet (eTup (aCons (eCall f_plain (aCons (eBin dIx (eVar 0) (eC (.int 0))) (aNil))) (aCons (eCall f_plain (aCons (eBin dIx (eVar 0) (eC (.int 1))) (aNil))) (aNil))))
noncomputable def f_lifted : FN := mkFn 1 1 m_lifted
noncomputable def m_half_plane : SF := sSeq (sSet 1 (eCall f_sign (aCons (eBin dIx (eVar 0) (eC (.int 1))) (aNil)))) (sRet (eIf (DL.tOr (tOf (eBin dGt (eVar 1) (eC (.int 0)))) (DL.tAnd (tOf (eBin dEq (eVar 1) (eC (.int 0)))) (tOf (eBin dGt (eCall f_sign (aCons (eBin dIx (eVar 0) (eC (.int 0))) (aNil))) (eC (.int 0)))))) (eC (.int 0)) (eC (.int 1))))
noncomputable def f_half_plane : FN := mkFn 1 2 m_half_plane
noncomputable def m_is_ahead : SF := sSeq (sPar 2 3 (aCons (eCall f_half_plane (aCons (eVar 0) (aNil))) (aCons (eCall f_half_plane (aCons (eVar 1) (aNil))) (aNil)))) (sRet (eIf (tOf (eBin dNe (eVar 2) (eVar 3))) (eBin dLt (eVar 2) (eVar 3)) (eBin dGt (eCall f_sign_of_cross (aCons (eVar 0) (aCons (eVar 1) (aNil)))) (eC (.int 0)))))
noncomputable def f_is_ahead : FN := mkFn 2 4 m_is_ahead
noncomputable def m_is_same_way : SF := sRet (eAnd (eBin dEq (eCall f_sign_of_cross (aCons (eVar 0) (aCons (eVar 1) (aNil)))) (eC (.int 0))) (eBin dGt (eCall f_sign_of_dot (aCons (eVar 0) (aCons (eVar 1) (aNil)))) (eC (.int 0))))
noncomputable def f_is_same_way : FN := mkFn 2 2 m_is_same_way
noncomputable def m_is_between : SF := sSeq (sIf (DL.tOr (tTru (eCall f_is_same_way (aCons (eVar 0) (aCons (eVar 1) (aNil))))) (tTru (eCall f_is_same_way (aCons (eVar 2) (aCons (eVar 1) (aNil)))))) (sRet (eC (.bl false))) (sNil)) (sSeq (sIf (tTru (eCall f_is_same_way (aCons (eVar 0) (aCons (eVar 2) (aNil))))) (sRet (eC (.bl true))) (sNil)) (sRet (eBin dEq (eBin dAddB (eBin dAddB (eCall f_is_ahead (aCons (eVar 0) (aCons (eVar 1) (aNil)))) (eCall f_is_ahead (aCons (eVar 1) (aCons (eVar 2) (aNil))))) (eCall f_is_ahead (aCons (eVar 2) (aCons (eVar 0) (aNil))))) (eC (.int 2)))))
noncomputable def f_is_between : FN := mkFn 3 3 m_is_between
noncomputable def m_told_from_to : SF := sSeq (sIf (tTru (eCall f_is_same_way (aCons (eVar 0) (aCons (eVar 2) (aNil))))) (sRet (eCall f_is_same_way (aCons (eVar 0) (aCons (eVar 1) (aNil))))) (sNil)) (sRet (eOr (eCall f_is_same_way (aCons (eVar 0) (aCons (eVar 1) (aNil)))) (eOr (eCall f_is_same_way (aCons (eVar 2) (aCons (eVar 1) (aNil)))) (eCall f_is_between (aCons (eVar 0) (aCons (eVar 1) (aCons (eVar 2) (aNil))))))))
noncomputable def f_told_from_to : FN := mkFn 3 3 m_told_from_to
noncomputable def m_is_from_to : SF := sSeq (sExpr (eCall f_look_at_turn (aCons (eVar 0) (aNil)))) (sSeq (sExpr (eCall f_look_at_turn (aCons (eVar 1) (aNil)))) (sSeq (sExpr (eCall f_look_at_turn (aCons (eVar 2) (aNil)))) (sRet (eCall f_told_from_to (aCons (eCall f_lifted (aCons (eVar 0) (aNil))) (aCons (eCall f_lifted (aCons (eVar 1) (aNil))) (aCons (eCall f_lifted (aCons (eVar 2) (aNil))) (aNil))))))))
noncomputable def f_is_from_to : FN := mkFn 3 3 m_is_from_to
noncomputable def q_told_quarters_1 : SF := sSet 1 (eBin dDiv (eBin dIx (eVar 0) (eC (.int 0))) (eBin dIx (eVar 0) (eC (.int 1))))
noncomputable def q_told_quarters_2 : SF := sSet 2 (eCall f_told_turn_of (aCons (eCall f_less (aCons (eVar 0) (aCons (eTup (aCons (eVar 1) (aCons (eC (.int 1)) (aNil)))) (aNil)))) (aNil)))
noncomputable def q_told_quarters_3_1 : SF := sSet 2 (eCall f_told_behind (aCons (eVar 2) (aCons (eC k_QUARTER) (aNil))))
noncomputable def q_told_quarters_3B : SF := q_told_quarters_3_1
noncomputable def q_told_quarters_3 : SF := sFor (fRange1 (aCons (eVar 1) aNil)) (gSet 3) (q_told_quarters_3B)
noncomputable def m_told_quarters : SF := sSeq (q_told_quarters_1) (sSeq (q_told_quarters_2) (sSeq (q_told_quarters_3) (sRet (eVar 2))))
noncomputable def f_told_quarters : FN := mkFn 1 4 m_told_quarters
noncomputable def q_place_at_1 : SF := sPar 2 3 (aCons (eC (.int 0)) (aCons (eBin dMul (eC (.int 4)) (eVar 1)) (aNil)))
noncomputable def q_place_at_2_1 : SF := sSet 4 (eBin dDiv (eBin dAdd (eVar 2) (eVar 3)) (eC (.int 2)))
noncomputable def q_place_at_2_2 : SF := sIf (tTru (eCall f_is_ahead (aCons (eVar 0) (aCons (eCall f_lifted (aCons (eCall f_told_quarters (aCons (eCall f_rate (aCons (eVar 4) (aCons (eVar 1) (aNil)))) (aNil))) (aNil))) (aNil))))) (sSet 3 (eVar 4)) (sSet 2 (eVar 4))
noncomputable def q_place_at_2B : SF := sSeq (q_place_at_2_1) (q_place_at_2_2)
noncomputable def q_place_at_2 : SF := sWhile (tOf (eBin dGt (eBin dSub (eVar 3) (eVar 2)) (eC (.int 1)))) (q_place_at_2B)
noncomputable def m_place_at : SF := sSeq (q_place_at_1) (sSeq (q_place_at_2) (sRet (eVar 2)))
noncomputable def f_place_at : FN := mkFn 2 5 m_place_at
noncomputable def m_turn_near : SF := sSeq (sIf (DL.tOr (DL.tNot (tTru (eCall (fIsi sub0) (aCons (eVar 0) (aCons (eC (.ty "tuple")) (aNil)))))) (DL.tOr (tOf (eBin dNe (eCall fLen (aCons (eVar 0) (aNil))) (eC (.int 2)))) (DL.tOr (DL.tNot (tTru (eCall fAll (aCons (eComp [2] (wTup (eVar 0)) (gSet 2) (tYes) (eCall f_is_fraction (aCons (eVar 2) (aNil)))) (aNil))))) (tOf (eBin dEq (eVar 0) (eTup (aCons (eC k_ZERO) (aCons (eC k_ZERO) (aNil))))))))) (sRaise "BadTurn" (eVar 0)) (sNil)) (sSeq (sIf (DL.tNot (tTru (eCall f_is_int (aCons (eVar 1) (aCons (eC (.int 1)) (aCons (eBin dPow (eC (.int 10)) (eC (.int 6))) (aNil))))))) (sRaise "BadInt" (eVar 1)) (sNil)) (sRet (eCall f_told_quarters (aCons (eCall f_rate (aCons (eCall f_place_at (aCons (eCall f_lifted (aCons (eVar 0) (aNil))) (aCons (eVar 1) (aNil)))) (aCons (eVar 1) (aNil)))) (aNil)))))
noncomputable def f_turn_near : FN := mkFn 2 3 m_turn_near
noncomputable def m_law_pot : SF := sSeq (sSet 2 (eIf (tOf (eBin dLt (eVar 1) (eCall fLen (aCons (eVar 0) (aNil))))) (eBin dIx (eVar 0) (eVar 1)) (eBin dAdd (eBin dAdd (eBin dMod (eCall fInt (aCons (eCall fSum (aCons (eCut (eVar 0) (oNone) (oSome (eC (.int 1)))) (aNil))) (aNil))) (eC (.int 1000211))) (eBin dMul (eC (.int 4639)) (eVar 1))) (eC (.int 3163))))) (sSeq (sSet 3 (eBin dMul (eBin dMod (eCall fInt (aCons (eCall fAbs (aCons (eVar 2) (aNil))) (aNil))) (eBin dPow (eBin dPow (eC (.int 10)) (eC (.int 60))) (eC (.int 5)))) (eCall fInt (aCons (eBin dGe (eCall fAbs (aCons (eVar 2) (aNil))) (eBin dPow (eC (.int 10)) (eC (.int 18)))) (aNil))))) (sSeq (sSet 4 (eBin dMod (eCall fInt (aCons (eVar 2) (aNil))) (eC (.int 2305843009213693951)))) (sRet (eNew (aCons (eVar 3) (aCons (eBin dMod (eCall fInt (aCons (eBin dAdd (eBin dAdd (eBin dMul (eVar 4) (eC (.int 72161))) (eBin dMul (eBin dMul (eC (.int 10853)) (eVar 1)) (eVar 1))) (eC (.int 2843))) (aNil))) (eC (.int 2305843009213693921))) (aCons (eC (.int 0)) (aNil))))))))
noncomputable def f_law_pot : FN := mkFn 2 5 m_law_pot
noncomputable def m_law_take : SF := sSeq (sIf (tOf (eBin dGt (eBin dIx (eVar 0) (eC (.int 0))) (eC (.int 0)))) (sSeq (sSet 4 (eBin dMod (eCall fInt (aCons (eBin dIx (eVar 0) (eC (.int 0))) (aNil))) (eVar 1))) (sSeq (sSub (eVar 0) (eC (.int 0)) (eBin dDiv (eBin dIx (eVar 0) (eC (.int 0))) (eVar 1))) (sRet (eVar 4)))) (sNil)) (sSeq (sSub (eVar 0) (eC (.int 2)) (eBin dAdd (eBin dIx (eVar 0) (eC (.int 2))) (eC (.int 1)))) (sSeq (sSet 2 (eBin dIx (eLst (aCons (eC (.int 2147483647)) (aCons (eC (.int 2147483629)) (aCons (eC (.int 2147483587)) (aCons (eC (.int 2147483579)) (aCons (eC (.int 2147483563)) (aNil))))))) (eBin dMod (eCall fInt (aCons (eBin dIx (eVar 0) (eC (.int 2))) (aNil))) (eC (.int 5))))) (sSeq (sSet 3 (eBin dMod (eCall fInt (aCons (eBin dPow (eCall fInt (aCons (eBin dAdd (eBin dAdd (eBin dIx (eVar 0) (eC (.int 1))) (eBin dMul (eBin dMul (eC (.int 95257)) (eBin dIx (eVar 0) (eC (.int 2)))) (eBin dIx (eVar 0) (eC (.int 2))))) (eC (.int 3163))) (aNil))) (eC (.int 3))) (aNil))) (eVar 2))) (sSeq (sSet 3 (eBin dMod (eCall fInt (aCons (eBin dMul (eVar 3) (eBin dAdd (eBin dMod (eCall fInt (aCons (eVar 3) (aNil))) (eC (.int 13441))) (eBin dMul (eC (.int 419)) (eBin dIx (eVar 0) (eC (.int 2)))))) (aNil))) (eC (.int 2305843009213693907)))) (sRet (eBin dMod (eCall fInt (aCons (eBin dDiv (eVar 3) (eC (.int 229))) (aNil))) (eVar 1)))))))
noncomputable def f_law_take : FN := mkFn 2 5 m_law_take
noncomputable def m_law_of : SF := sRet (eBin dIx (eVar 1) (eCall f_law_take (aCons (eVar 0) (aCons (eCall fLen (aCons (eVar 1) (aNil))) (aNil)))))
noncomputable def f_law_of : FN := mkFn 2 2 m_law_of
noncomputable def m_law_cells : SF := sRet (eListRg (fRange1 (aCons (eCall fMax (aCons (eC (.int 1)) (aCons (eCall fMin (aCons (eVar 1) (aCons (eCall fLen (aCons (eVar 0) (aNil))) (aNil)))) (aNil)))) aNil)))
noncomputable def f_law_cells : FN := mkFn 2 2 m_law_cells
noncomputable def m_law_is_bool : SF := sRet (eAnd (eCall (fIsi sub0) (aCons (eVar 0) (aCons (eC (.ty "bool")) (aNil)))) (eBin dEq (eVar 0) (eVar 1)))
noncomputable def f_law_is_bool : FN := mkFn 2 2 m_law_is_bool
noncomputable def m_law_gcd : SF := sSeq (sPar 0 1 (aCons (eCall fAbs (aCons (eVar 0) (aNil))) (aCons (eCall fAbs (aCons (eVar 1) (aNil))) (aNil)))) (sSeq (sWhile (tOf (eBin dNe (eVar 1) (eC (.int 0)))) (sPar 0 1 (aCons (eVar 1) (aCons (eBin dMod (eVar 0) (eVar 1)) (aNil))))) (sRet (eVar 0)))
noncomputable def f_law_gcd : FN := mkFn 2 2 m_law_gcd
noncomputable def m_law_rate : SF := sSeq (sSet 2 (eBin dMul (eCall f_law_gcd (aCons (eVar 0) (aCons (eVar 1) (aNil)))) (eIf (tOf (eBin dGt (eVar 1) (eC (.int 0)))) (eC (.int 1)) (eUn dNeg (eC (.int 1)))))) (sRet (eTup (aCons (eBin dDiv (eVar 0) (eVar 2)) (aCons (eBin dDiv (eVar 1) (eVar 2)) (aNil)))))
noncomputable def f_law_rate : FN := mkFn 2 3 m_law_rate
noncomputable def m_law_less : SF := sRet (eCall f_law_rate (aCons (eBin dSub (eBin dMul (eBin dIx (eVar 0) (eC (.int 0))) (eBin dIx (eVar 1) (eC (.int 1)))) (eBin dMul (eBin dIx (eVar 1) (eC (.int 0))) (eBin dIx (eVar 0) (eC (.int 1))))) (aCons (eBin dMul (eBin dIx (eVar 0) (eC (.int 1))) (eBin dIx (eVar 1) (eC (.int 1)))) (aNil))))
noncomputable def f_law_less : FN := mkFn 2 2 m_law_less
noncomputable def m_law_times : SF := sRet (eCall f_law_rate (aCons (eBin dMul (eBin dIx (eVar 0) (eC (.int 0))) (eBin dIx (eVar 1) (eC (.int 0)))) (aCons (eBin dMul (eBin dIx (eVar 0) (eC (.int 1))) (eBin dIx (eVar 1) (eC (.int 1)))) (aNil))))
noncomputable def f_law_times : FN := mkFn 2 2 m_law_times
noncomputable def m_law_turn_of : SF := sSeq (sAsg (gTupD (gsCons (gSet 1) (gsCons (gSet 2) (gsNil)))) (eVar 0)) (sRet (eTup (aCons (eCall f_law_rate (aCons (eBin dSub (eBin dMul (eVar 2) (eVar 2)) (eBin dMul (eVar 1) (eVar 1))) (aCons (eBin dAdd (eBin dMul (eVar 1) (eVar 1)) (eBin dMul (eVar 2) (eVar 2))) (aNil)))) (aCons (eCall f_law_rate (aCons (eBin dMul (eBin dMul (eC (.int 2)) (eVar 1)) (eVar 2)) (aCons (eBin dAdd (eBin dMul (eVar 1) (eVar 1)) (eBin dMul (eVar 2) (eVar 2))) (aNil)))) (aNil)))))
noncomputable def f_law_turn_of : FN := mkFn 1 3 m_law_turn_of
noncomputable def q_law_quarters_1 : SF := sSet 1 (eBin dDiv (eBin dIx (eVar 0) (eC (.int 0))) (eBin dIx (eVar 0) (eC (.int 1))))
noncomputable def q_law_quarters_2 : SF := sSet 2 (eCall f_law_turn_of (aCons (eCall f_law_less (aCons (eVar 0) (aCons (eTup (aCons (eVar 1) (aCons (eC (.int 1)) (aNil)))) (aNil)))) (aNil)))
noncomputable def q_law_quarters_3_1 : SF := sSet 2 (eTup (aCons (eCall f_law_less (aCons (eTup (aCons (eC (.int 0)) (aCons (eC (.int 1)) (aNil)))) (aCons (eBin dIx (eVar 2) (eC (.int 1))) (aNil)))) (aCons (eBin dIx (eVar 2) (eC (.int 0))) (aNil))))
noncomputable def q_law_quarters_3B : SF := q_law_quarters_3_1
noncomputable def q_law_quarters_3 : SF := sFor (fRange1 (aCons (eVar 1) aNil)) (gSet 3) (q_law_quarters_3B)
noncomputable def m_law_quarters : SF := sSeq (q_law_quarters_1) (sSeq (q_law_quarters_2) (sSeq (q_law_quarters_3) (sRet (eVar 2))))
noncomputable def f_law_quarters : FN := mkFn 1 4 m_law_quarters
noncomputable def q_law_spot_near_1 : SF := sPar 2 3 (aCons (eBin dMul (eBin dIx (eBin dIx (eVar 0) (eC (.int 0))) (eC (.int 0))) (eBin dIx (eBin dIx (eVar 0) (eC (.int 1))) (eC (.int 1)))) (aCons (eBin dMul (eBin dIx (eBin dIx (eVar 0) (eC (.int 1))) (eC (.int 0))) (eBin dIx (eBin dIx (eVar 0) (eC (.int 0))) (eC (.int 1)))) (aNil)))
noncomputable def q_law_spot_near_3_1a_1 : SF := sPar3 2 3 4 (aCons (eVar 3) (aCons (eUn dNeg (eVar 2)) (aCons (eBin dAdd (eVar 4) (eC (.int 1))) (aNil))))
noncomputable def q_law_spot_near_3_1 : SF := sIf (DL.tOr (tOf (eBin dLe (eVar 2) (eC (.int 0)))) (tOf (eBin dLt (eVar 3) (eC (.int 0))))) (q_law_spot_near_3_1a_1) (sNil)
noncomputable def q_law_spot_near_3B : SF := q_law_spot_near_3_1
noncomputable def q_law_spot_near_3 : SF := sFor (fRange1 (aCons (eC (.int 3)) aNil)) (gSet 5) (q_law_spot_near_3B)
noncomputable def q_law_spot_near_5_1 : SF := sSet 8 (eBin dDiv (eBin dAdd (eVar 6) (eVar 7)) (eC (.int 2)))
noncomputable def q_law_spot_near_5_2 : SF := sSet 9 (eBin dSub (eBin dMul (eVar 1) (eVar 3)) (eBin dMul (eVar 8) (eVar 2)))
noncomputable def q_law_spot_near_5_3 : SF := sIf (DL.tAnd (tOf (eBin dGe (eVar 9) (eC (.int 0)))) (tOf (eBin dLe (eBin dMul (eBin dMul (eVar 8) (eVar 8)) (eBin dAdd (eBin dMul (eVar 2) (eVar 2)) (eBin dMul (eVar 3) (eVar 3)))) (eBin dMul (eVar 9) (eVar 9))))) (sSet 6 (eVar 8)) (sSet 7 (eVar 8))
noncomputable def q_law_spot_near_5B : SF := sSeq (q_law_spot_near_5_1) (sSeq (q_law_spot_near_5_2) (q_law_spot_near_5_3))
noncomputable def q_law_spot_near_5 : SF := sWhile (tOf (eBin dGt (eBin dSub (eVar 7) (eVar 6)) (eC (.int 1)))) (q_law_spot_near_5B)
noncomputable def m_law_spot_near : SF := sSeq (q_law_spot_near_1) (sSeq (sSet 4 (eC (.int 0))) (sSeq (q_law_spot_near_3) (sSeq (sPar 6 7 (aCons (eC (.int 0)) (aCons (eVar 1) (aNil)))) (sSeq (q_law_spot_near_5) (sRet (eTup (aCons (eVar 4) (aCons (eVar 6) (aNil)))))))))
noncomputable def f_law_spot_near : FN := mkFn 2 10 m_law_spot_near
noncomputable def q_law_way_drawn_1 : SF := sAsg (gTupD (gsCons (gSet 2) (gsCons (gSet 3) (gsNil)))) (eTup (aCons (eCall f_law_take (aCons (eVar 0) (aCons (eC (.int 6)) (aNil)))) (aCons (eCall f_law_of (aCons (eVar 0) (aCons (eLst (aCons (eC (.int 3)) (aCons (eC (.int 1000)) (aCons (eBin dPow (eC (.int 10)) (eC (.int 6))) (aNil))))) (aNil)))) (aNil))))
noncomputable def q_law_way_drawn_2 : SF := sSet 4 (eCompN [9] (fRange1 (aCons (eC (.int 2)) aNil)) (gSet 9) (tYes) (eCall f_law_rate (aCons (eBin dSub (eCall fInt (aCons (eCall f_law_take (aCons (eVar 0) (aCons (eBin dAdd (eBin dMul (eC (.int 2)) (eVar 3)) (eC (.int 1))) (aNil)))) (aNil))) (eVar 3)) (aCons (eBin dAdd (eC (.int 1)) (eCall fInt (aCons (eCall f_law_take (aCons (eVar 0) (aCons (eVar 3) (aNil)))) (aNil)))) (aNil)))))
noncomputable def q_law_way_drawn_3a_1 : SF := sSub (eVar 4) (eCall f_law_take (aCons (eVar 0) (aCons (eC (.int 2)) (aNil)))) (eTup (aCons (eC (.int 0)) (aCons (eC (.int 1)) (aNil))))
noncomputable def q_law_way_drawn_3 : SF := sIf (tOf (eBin dEq (eVar 2) (eC (.int 0)))) (q_law_way_drawn_3a_1) (sNil)
noncomputable def q_law_way_drawn_4a_1 : SF := sSet 5 (eIf (tOf (eBin dLe (eVar 1) (eC (.int 400)))) (eVar 1) (eCall f_law_of (aCons (eVar 0) (aCons (eLst (aCons (eC (.int 400)) (aCons (eC (.int 250)) (aCons (eC (.int 125)) (aCons (eBin dAdd (eC (.int 1)) (eCall fInt (aCons (eCall f_law_take (aCons (eVar 0) (aCons (eC (.int 400)) (aNil)))) (aNil)))) (aNil)))))) (aNil)))))
noncomputable def q_law_way_drawn_4a_2 : SF := sSet 6 (eCall f_law_quarters (aCons (eCall f_law_rate (aCons (eCall fInt (aCons (eCall f_law_take (aCons (eVar 0) (aCons (eBin dMul (eC (.int 4)) (eVar 5)) (aNil)))) (aNil))) (aCons (eVar 5) (aNil)))) (aNil)))
noncomputable def q_law_way_drawn_4a_3 : SF := sSet 7 (eCall fMax (aCons (eBin dIx (eBin dIx (eVar 6) (eC (.int 0))) (eC (.int 1))) (aCons (eBin dIx (eBin dIx (eVar 6) (eC (.int 1))) (eC (.int 1))) (aNil))))
noncomputable def q_law_way_drawn_4a_4 : SF := sSet 7 (eIf (tOf (eBin dGt (eVar 7) (eC (.int 1)))) (eVar 7) (eC (.int 1000)))
noncomputable def q_law_way_drawn_4a_5 : SF := sSet 4 (eCompN [10] (wTup (eVar 6)) (gSet 10) (tYes) (eCall f_law_rate (aCons (eBin dMul (eBin dIx (eVar 10) (eC (.int 0))) (eVar 7)) (aCons (eBin dIx (eVar 10) (eC (.int 1))) (aNil)))))
noncomputable def q_law_way_drawn_4a_6 : SF := sSet 8 (eCall f_law_of (aCons (eVar 0) (aCons (eLst (aCons (eC (.int 0)) (aCons (eC (.int 1)) (aCons (eUn dNeg (eC (.int 1))) (aNil))))) (aNil))))
noncomputable def q_law_way_drawn_4a_7 : SF := sSet 4 (eNew (aCons (eBin dIx (eVar 4) (eC (.int 0))) (aCons (eCall f_law_rate (aCons (eBin dAdd (eBin dIx (eBin dIx (eVar 4) (eC (.int 1))) (eC (.int 0))) (eBin dMul (eVar 8) (eBin dIx (eBin dIx (eVar 4) (eC (.int 1))) (eC (.int 1))))) (aCons (eBin dIx (eBin dIx (eVar 4) (eC (.int 1))) (eC (.int 1))) (aNil)))) (aNil))))
noncomputable def q_law_way_drawn_4 : SF := sIf (tOf (eBin dEq (eVar 2) (eC (.int 1)))) (sSeq (q_law_way_drawn_4a_1) (sSeq (q_law_way_drawn_4a_2) (sSeq (q_law_way_drawn_4a_3) (sSeq (q_law_way_drawn_4a_4) (sSeq (q_law_way_drawn_4a_5) (sSeq (q_law_way_drawn_4a_6) (q_law_way_drawn_4a_7))))))) (sNil)
noncomputable def q_law_way_drawn_5 : SF := sRet (eIf (tOf (eBin dNe (eTup (aCons (eBin dIx (eBin dIx (eVar 4) (eC (.int 0))) (eC (.int 0))) (aCons (eBin dIx (eBin dIx (eVar 4) (eC (.int 1))) (eC (.int 0))) (aNil)))) (eTup (aCons (eC (.int 0)) (aCons (eC (.int 0)) (aNil)))))) (eTup (aCons (eBin dIx (eVar 4) (eC (.int 0))) (aCons (eBin dIx (eVar 4) (eC (.int 1))) (aNil)))) (eTup (aCons (eTup (aCons (eUn dNeg (eC (.int 1))) (aCons (eC (.int 1)) (aNil)))) (aCons (eTup (aCons (eC (.int 0)) (aCons (eC (.int 1)) (aNil)))) (aNil)))))
noncomputable def m_law_way_drawn : SF := sSeq (q_law_way_drawn_1) (sSeq (q_law_way_drawn_2) (sSeq (q_law_way_drawn_3) (sSeq (q_law_way_drawn_4) (q_law_way_drawn_5))))
noncomputable def f_law_way_drawn : FN := drop (mkFn 2 11 m_law_way_drawn)
noncomputable def q_law_is_way_right_1 : SF := sAsg (gTupD (gsCons (gSet 3) (gsCons (gSet 4) (gsNil)))) (eCall f_law_spot_near (aCons (eVar 1) (aCons (eVar 2) (aNil))))
noncomputable def q_law_is_way_right_2 : SF := sSet 5 (eCall f_law_quarters (aCons (eCall f_law_rate (aCons (eBin dAdd (eBin dMul (eVar 3) (eVar 2)) (eVar 4)) (aCons (eVar 2) (aNil)))) (aNil)))
noncomputable def q_law_is_way_right_3 : SF := sIf (tOf (eBin dNe (eCall fRepr (aCons (eCall f_turn_near (aCons (eVar 1) (aCons (eVar 2) (aNil)))) (aNil))) (eCall fRepr (aCons (eVar 5) (aNil))))) (sRet (eC (.bl false))) (sNil)
noncomputable def q_law_is_way_right_4a_1 : SF := sPar 8 9 (aCons (eCall f_turn_near (aCons (eVar 1) (aCons (eBin dMul (eC (.int 2)) (eVar 2)) (aNil)))) (aCons (eBin dMod (eCall fInt (aCons (eBin dAdd (eBin dAdd (eBin dMul (eVar 3) (eVar 2)) (eVar 4)) (eC (.int 1))) (aNil))) (eBin dMul (eC (.int 4)) (eVar 2))) (aNil)))
noncomputable def q_law_is_way_right_4a_2 : SF := sSet 10 (eCall f_law_quarters (aCons (eCall f_law_rate (aCons (eVar 9) (aCons (eVar 2) (aNil)))) (aNil)))
noncomputable def q_law_is_way_right_4a_3 : SF := sIf (DL.tOr (DL.tNot (tTru (eCall f_law_is_bool (aCons (eCall f_is_from_to (aCons (eVar 5) (aCons (eVar 8) (aCons (eVar 10) (aNil))))) (aCons (eC (.bl true)) (aNil)))))) (tOf (eBin dEq (eVar 8) (eVar 10)))) (sRet (eC (.bl false))) (sNil)
noncomputable def q_law_is_way_right_4 : SF := sIf (tOf (eBin dLe (eVar 2) (eC (.int 500000)))) (sSeq (q_law_is_way_right_4a_1) (sSeq (q_law_is_way_right_4a_2) (q_law_is_way_right_4a_3))) (sNil)
noncomputable def q_law_is_way_right_5 : SF := sSet 6 (eCall f_law_of (aCons (eVar 0) (aCons (eLst (aCons (eTup (aCons (eC (.int 2)) (aCons (eC (.int 1)) (aNil)))) (aCons (eTup (aCons (eC (.int 1)) (aCons (eC (.int 3)) (aNil)))) (aCons (eTup (aCons (eC (.int 7)) (aCons (eC (.int 5)) (aNil)))) (aNil))))) (aNil))))
noncomputable def q_law_is_way_right_6 : SF := sSet 7 (eCall fTuple (aCons (eComp [11] (wTup (eVar 1)) (gSet 11) (tYes) (eCall f_law_times (aCons (eVar 11) (aCons (eVar 6) (aNil))))) (aNil)))
noncomputable def q_law_is_way_right_7a_1 : SF := sRet (eBin dEq (eCall fRepr (aCons (eCall f_turn_near (aCons (eVar 7) (aCons (eVar 2) (aNil)))) (aNil))) (eCall fRepr (aCons (eVar 5) (aNil))))
noncomputable def q_law_is_way_right_7 : SF := sIf (tTru (eCall fAll (aCons (eComp [11] (wTup (eVar 7)) (gSet 11) (tYes) (eAnd (eBin dLe (eCall fAbs (aCons (eBin dIx (eVar 11) (eC (.int 0))) (aNil))) (eBin dPow (eC (.int 10)) (eC (.int 6)))) (eBin dLe (eBin dIx (eVar 11) (eC (.int 1))) (eBin dPow (eC (.int 10)) (eC (.int 6)))))) (aNil)))) (q_law_is_way_right_7a_1) (sNil)
noncomputable def m_law_is_way_right : SF := sSeq (q_law_is_way_right_1) (sSeq (q_law_is_way_right_2) (sSeq (q_law_is_way_right_3) (sSeq (q_law_is_way_right_4) (sSeq (q_law_is_way_right_5) (sSeq (q_law_is_way_right_6) (sSeq (q_law_is_way_right_7) (sRet (eC (.bl true)))))))))
noncomputable def f_law_is_way_right : FN := mkFn 3 12 m_law_is_way_right
noncomputable def q_law_right_1_1 : SF := sSet 2 (eCall f_law_of (aCons (eVar 0) (aCons (eLst (aCons (eC (.int 1)) (aCons (eC (.int 2)) (aCons (eC (.int 3)) (aCons (eBin dPow (eC (.int 10)) (eC (.int 6))) (aCons (eBin dAdd (eC (.int 1)) (eCall fInt (aCons (eCall f_law_take (aCons (eVar 0) (aCons (eBin dPow (eC (.int 10)) (eC (.int 6))) (aNil)))) (aNil)))) (aCons (eBin dAdd (eC (.int 1)) (eCall fInt (aCons (eCall f_law_take (aCons (eVar 0) (aCons (eC (.int 60)) (aNil)))) (aNil)))) (aNil)))))))) (aNil))))
noncomputable def q_law_right_1_2 : SF := sSet 3 (eCall f_law_way_drawn (aCons (eVar 0) (aCons (eVar 2) (aNil))))
noncomputable def q_law_right_1_3 : SF := sIf (DL.tNot (tTru (eCall f_law_is_way_right (aCons (eVar 0) (aCons (eVar 3) (aCons (eVar 2) (aNil))))))) (sRet (eC (.bl false))) (sNil)
noncomputable def q_law_right_1_4_1 : SF := sSet 6 (eBin dIx (eHeard sub0 (eCall f_turn_near (aCons (eVar 3) (aCons (eVar 4) (aNil))))) (eC (.int 0)))
noncomputable def q_law_right_1_4_2 : SF := sIf (DL.tOr (DL.tNot (tTru (eCall (fIsi sub0) (aCons (eVar 6) (aCons (eC (.cls "BadInt")) (aNil)))))) (tOf (eBin dNe (eCall fRepr (aCons (eValue sub0 (eVar 6)) (aNil))) (eCall fRepr (aCons (eVar 4) (aNil)))))) (sRet (eC (.bl false))) (sNil)
noncomputable def q_law_right_1_4B : SF := sSeq (q_law_right_1_4_1) (q_law_right_1_4_2)
noncomputable def q_law_right_1_4 : SF := sFor (wTup (eTup (aCons (eC (.int 0)) (aCons (eBin dAdd (eBin dPow (eC (.int 10)) (eC (.int 6))) (eC (.int 1))) (aCons (eUn dNeg (eC (.int 1))) (aCons (eC (.bl true)) (aNil))))))) (gSet 4) (q_law_right_1_4B)
noncomputable def q_law_right_1_5_1 : SF := sSet 6 (eBin dIx (eHeard sub0 (eCall f_turn_near (aCons (eVar 5) (aCons (eC (.int 0)) (aNil))))) (eC (.int 0)))
noncomputable def q_law_right_1_5_2 : SF := sIf (DL.tOr (DL.tNot (tTru (eCall (fIsi sub0) (aCons (eVar 6) (aCons (eC (.cls "BadTurn")) (aNil)))))) (tOf (eBin dNe (eCall fRepr (aCons (eValue sub0 (eVar 6)) (aNil))) (eCall fRepr (aCons (eVar 5) (aNil)))))) (sRet (eC (.bl false))) (sNil)
noncomputable def q_law_right_1_5B : SF := sSeq (q_law_right_1_5_1) (q_law_right_1_5_2)
noncomputable def q_law_right_1_5 : SF := sFor (wTup (eTup (aCons (eTup (aCons (eTup (aCons (eC (.int 0)) (aCons (eC (.int 1)) (aNil)))) (aCons (eTup (aCons (eC (.int 0)) (aCons (eC (.int 1)) (aNil)))) (aNil)))) (aCons (eTup (aCons (eTup (aCons (eC (.int 1000001)) (aCons (eC (.int 1)) (aNil)))) (aCons (eTup (aCons (eC (.int 0)) (aCons (eC (.int 1)) (aNil)))) (aNil)))) (aCons (eTup (aCons (eTup (aCons (eC (.int 1)) (aCons (eC (.int 1)) (aNil)))) (aCons (eTup (aCons (eC (.int 1)) (aCons (eC (.int 1000001)) (aNil)))) (aNil)))) (aCons (eTup (aCons (eBin dIx (eVar 3) (eC (.int 0))) (aCons (eTup (aCons (eC (.int 2)) (aCons (eC (.int 4)) (aNil)))) (aNil)))) (aCons (eCall fList (aCons (eVar 3) (aNil))) (aNil)))))))) (gSet 5) (q_law_right_1_5B)
noncomputable def q_law_right_1B : SF := sSeq (q_law_right_1_1) (sSeq (q_law_right_1_2) (sSeq (q_law_right_1_3) (sSeq (q_law_right_1_4) (q_law_right_1_5))))
noncomputable def q_law_right_1 : SF := sFor (fRange1 (aCons (eC (.int 5)) aNil)) (gSet 1) (q_law_right_1B)
noncomputable def m_law_right : SF := sSeq (q_law_right_1) (sRet (eC (.bl true)))
noncomputable def f_law_right : FN := mkFn 1 7 m_law_right
noncomputable def m_law : SF := sRet (eCall fAll (aCons (eComp [1] (wLst (eCall f_law_cells (aCons (eVar 0) (aCons (eC (.int 3)) (aNil))))) (gSet 1) (tYes) (eCall f_law_right (aCons (eCall f_law_pot (aCons (eVar 0) (aCons (eVar 1) (aNil)))) (aNil)))) (aNil)))
noncomputable def f_law : FN := mkFn 1 2 m_law
end K18


set_option linter.all false
set_option autoImplicit false
set_option Elab.async false
set_option maxRecDepth 100000
set_option maxHeartbeats 4000000
/-! the walk of elbowsexactly_k18_whole_turns_near_ways, printed by gen.py -/
namespace K18
open PySem PySem.Spec L2 DL
open PyProof.Rows hiding St b2i
def top (i : Nat) : Stmt := PySem.Challenge.pw_elbowsexactly_k18_whole_turns_near_ways.main.body.getD i (.Pass ⟨0, 0, 0, 0⟩)
/-- what the module's names hold -/
structure Gl0 (P : Program) (K : PySem.W.Frag) (mg : Str → Option Value) : Prop where
  b_abs : mg "abs" = none
  b_all : mg "all" = none
  b_bool : mg "bool" = none
  b_int : mg "int" = none
  b_isinstance : mg "isinstance" = none
  b_len : mg "len" = none
  b_list : mg "list" = none
  b_max : mg "max" = none
  b_min : mg "min" = none
  b_range : mg "range" = none
  b_repr : mg "repr" = none
  b_sum : mg "sum" = none
  b_tuple : mg "tuple" = none
  c_MOST : Cst K mg "MOST" k_MOST
  c_ONE : Cst K mg "ONE" k_ONE
  c_QUARTER : Cst K mg "QUARTER" k_QUARTER
  c_ZERO : Cst K mg "ZERO" k_ZERO
  ex_BadInt : ExcAt P K mg "BadInt"
  ex_BadTurn : ExcAt P K mg "BadTurn"
  a_BadInt : ∃ C, mg "BadInt" = some (.ref C)
  a_BadTurn : ∃ C, mg "BadTurn" = some (.ref C)
  ex : SubAt P K mg sub0
  heard : HeardAt K mg
section
variable {P : Program} {w : World} {K : PySem.W.Frag} {mg : Str → Option Value} {base : Heap} {T : List (Addr × Str)}
abbrev s_is_int : Stmt := top 5
theorem sc_is_int : FnScope ["value", "low", "high"] ["value", "low", "high"] (defScope s_is_int) := ⟨rfl, rfl, rfl, by decide +kernel, rfl, by decide +kernel, by decide +kernel⟩
theorem d_is_int (G : Gl0 P K mg) (D : DefIn K mg "is_int" s_is_int) : Callee P w K mg base T false 1 "is_int" ["value", "low", "high"] f_is_int :=
  callee_of (gd := false) (k := 0) D sc_is_int rfl rfl (fun _ _ _ _ _ _ us hl => match us, hl with | [_, _, _], _ => rfl) fun f cdv A outer s H E hg hr => pxs_one (px_ret (px_and (pb_isinstance G.ex G.b_isinstance (pxa_cons (px_var 0) (pxa_cons (px_ty G.b_int (by decide +kernel)) (pxa_nil)))) (px_and (px_not (pb_isinstance G.ex G.b_isinstance (pxa_cons (px_var 0) (pxa_cons (px_ty G.b_bool (by decide +kernel)) (pxa_nil))))) (px_one (px_chain op_le op_le (ok_iCmp _) (ok_iCmp _) (px_var 1) (px_var 0) (px_var 2))))))
abbrev s_is_whole : Stmt := top 6
theorem sc_is_whole : FnScope ["value"] ["value"] (defScope s_is_whole) := ⟨rfl, rfl, rfl, by decide +kernel, rfl, by decide +kernel, by decide +kernel⟩
theorem d_is_whole (G : Gl0 P K mg) (D : DefIn K mg "is_whole" s_is_whole) : Callee P w K mg base T false 1 "is_whole" ["value"] f_is_whole :=
  callee_of (gd := false) (k := 0) D sc_is_whole rfl rfl (fun _ _ _ _ _ _ us hl => match us, hl with | [_], _ => rfl) fun f cdv A outer s H E hg hr => pxs_one (px_ret (px_and (pb_isinstance G.ex G.b_isinstance (pxa_cons (px_var 0) (pxa_cons (px_ty G.b_int (by decide +kernel)) (pxa_nil)))) (px_one (px_not (pb_isinstance G.ex G.b_isinstance (pxa_cons (px_var 0) (pxa_cons (px_ty G.b_bool (by decide +kernel)) (pxa_nil))))))))
abbrev s_common : Stmt := top 11
theorem sc_common : FnScope ["one", "other"] ["one", "other"] (defScope s_common) := ⟨rfl, rfl, rfl, by decide +kernel, rfl, by decide +kernel, by decide +kernel⟩
theorem d_common (G : Gl0 P K mg) (D : DefIn K mg "common" s_common) : Callee P w K mg base T false 1 "common" ["one", "other"] f_common :=
  callee_of (gd := false) (k := 0) D sc_common rfl rfl (fun _ _ _ _ _ _ us hl => match us, hl with | [_, _], _ => rfl) fun f cdv A outer s H E hg hr => pxs_cons (px_par 0 1 rfl sc_common.nd (by decide) (pxa_cons (pb_abs G.b_abs (pxa_cons (px_var 0) (pxa_nil))) (pxa_cons (pb_abs G.b_abs (pxa_cons (px_var 1) (pxa_nil))) (pxa_nil)))) (pxs_cons (px_while (passes_of rfl) (pxt_ne hr (px_var 1) (px_int)) (pxs_one (px_par 0 1 rfl sc_common.nd (by decide) (pxa_cons (px_var 1) (pxa_cons (px_mod (px_var 0) (px_var 1)) (pxa_nil)))))) (pxs_one (px_ret (px_var 0))))
abbrev s_rate : Stmt := top 12
theorem sc_rate : FnScope ["top", "bottom", "part"] ["top", "bottom"] (defScope s_rate) := ⟨rfl, rfl, rfl, by decide +kernel, rfl, by decide +kernel, by decide +kernel⟩
theorem d_rate (G : Gl0 P K mg) (D : DefIn K mg "rate" s_rate) (c_common : Callee P w K mg base T false 1 "common" ["one", "other"] f_common) : Callee P w K mg base T false 2 "rate" ["top", "bottom"] f_rate :=
  callee_of (gd := false) (k := 1) D sc_rate rfl rfl (fun _ _ _ _ _ _ us hl => match us, hl with | [_, _], _ => rfl) fun f cdv A outer s H E hg hr => pxs_cons (px_set 2 sc_rate.nd (px_fn c_common hr (by decide) (fun z => nomatch z) (pxa_cons (px_var 0) (pxa_cons (px_var 1) (pxa_nil))))) (pxs_cons (px_if (pxt_lt (px_var 1) (px_int)) (pxs_one (px_set 2 sc_rate.nd (px_neg (px_var 2)))) (pxs_nil)) (pxs_one (px_ret (px_tup (pxa_cons (px_div (px_var 0) (px_var 2)) (pxa_cons (px_div (px_var 1) (px_var 2)) (pxa_nil)))))))
abbrev s_is_lowest : Stmt := top 13
theorem sc_is_lowest : FnScope ["value"] ["value"] (defScope s_is_lowest) := ⟨rfl, rfl, rfl, by decide +kernel, rfl, by decide +kernel, by decide +kernel⟩
theorem d_is_lowest (G : Gl0 P K mg) (D : DefIn K mg "is_lowest" s_is_lowest) (c_is_whole : Callee P w K mg base T false 1 "is_whole" ["value"] f_is_whole) (c_common : Callee P w K mg base T false 1 "common" ["one", "other"] f_common) : Callee P w K mg base T false 2 "is_lowest" ["value"] f_is_lowest :=
  callee_of (gd := false) (k := 1) D sc_is_lowest rfl rfl (fun _ _ _ _ _ _ us hl => match us, hl with | [_], _ => rfl) fun f cdv A outer s H E hg hr => pxs_cons (px_if (PXW.t (pxw_or (pxt_not (pxt_truth (pb_isinstance G.ex G.b_isinstance (pxa_cons (px_var 0) (pxa_cons (px_ty G.b_tuple (by decide +kernel)) (pxa_nil)))))) (pxw_or (pxt_ne hr (pb_len G.b_len (pxa_cons (px_var 0) (pxa_nil))) (px_int)) (pxw_or (pxt_not (pxt_truth (px_fn c_is_whole hr (by decide) (fun z => nomatch z) (pxa_cons (px_ix (px_var 0) (px_int)) (pxa_nil))))) (pxw_or1 (pxt_not (pxt_truth (px_fn c_is_whole hr (by decide) (fun z => nomatch z) (pxa_cons (px_ix (px_var 0) (px_int)) (pxa_nil)))))))))) (pxs_one (px_ret (px_bl))) (pxs_nil)) (pxs_one (px_ret (px_and (px_gt (px_ix (px_var 0) (px_int)) (px_int)) (px_one (px_eq hr (px_fn c_common hr (by decide) (fun z => nomatch z) (pxa_cons (px_ix (px_var 0) (px_int)) (pxa_cons (px_ix (px_var 0) (px_int)) (pxa_nil)))) (px_int))))))
abbrev s_is_fraction : Stmt := top 14
theorem sc_is_fraction : FnScope ["value"] ["value"] (defScope s_is_fraction) := ⟨rfl, rfl, rfl, by decide +kernel, rfl, by decide +kernel, by decide +kernel⟩
theorem d_is_fraction (G : Gl0 P K mg) (D : DefIn K mg "is_fraction" s_is_fraction) (c_is_lowest : Callee P w K mg base T false 2 "is_lowest" ["value"] f_is_lowest) : Callee P w K mg base T false 3 "is_fraction" ["value"] f_is_fraction :=
  callee_of (gd := false) (k := 2) D sc_is_fraction rfl rfl (fun _ _ _ _ _ _ us hl => match us, hl with | [_], _ => rfl) fun f cdv A outer s H E hg hr => pxs_one (px_ret (px_and (px_fn c_is_lowest hr (by decide) (fun z => nomatch z) (pxa_cons (px_var 0) (pxa_nil))) (px_and (px_chain op_le op_le (ok_iCmp _) (ok_iCmp _) (px_neg (px_cst G.c_MOST)) (px_ix (px_var 0) (px_int)) (px_cst G.c_MOST)) (px_one (px_le (px_ix (px_var 0) (px_int)) (px_cst G.c_MOST))))))
abbrev s_plus : Stmt := top 15
theorem sc_plus : FnScope ["one", "other"] ["one", "other"] (defScope s_plus) := ⟨rfl, rfl, rfl, by decide +kernel, rfl, by decide +kernel, by decide +kernel⟩
theorem d_plus (G : Gl0 P K mg) (D : DefIn K mg "plus" s_plus) (c_rate : Callee P w K mg base T false 2 "rate" ["top", "bottom"] f_rate) : Callee P w K mg base T false 3 "plus" ["one", "other"] f_plus :=
  callee_of (gd := false) (k := 2) D sc_plus rfl rfl (fun _ _ _ _ _ _ us hl => match us, hl with | [_, _], _ => rfl) fun f cdv A outer s H E hg hr => pxs_one (px_ret (px_fn c_rate hr (by decide) (fun z => nomatch z) (pxa_cons (px_add (px_mul (px_ix (px_var 0) (px_int)) (px_ix (px_var 1) (px_int))) (px_mul (px_ix (px_var 1) (px_int)) (px_ix (px_var 0) (px_int)))) (pxa_cons (px_mul (px_ix (px_var 0) (px_int)) (px_ix (px_var 1) (px_int))) (pxa_nil)))))
abbrev s_less : Stmt := top 16
theorem sc_less : FnScope ["one", "other"] ["one", "other"] (defScope s_less) := ⟨rfl, rfl, rfl, by decide +kernel, rfl, by decide +kernel, by decide +kernel⟩
theorem d_less (G : Gl0 P K mg) (D : DefIn K mg "less" s_less) (c_rate : Callee P w K mg base T false 2 "rate" ["top", "bottom"] f_rate) : Callee P w K mg base T false 3 "less" ["one", "other"] f_less :=
  callee_of (gd := false) (k := 2) D sc_less rfl rfl (fun _ _ _ _ _ _ us hl => match us, hl with | [_, _], _ => rfl) fun f cdv A outer s H E hg hr => pxs_one (px_ret (px_fn c_rate hr (by decide) (fun z => nomatch z) (pxa_cons (px_sub (px_mul (px_ix (px_var 0) (px_int)) (px_ix (px_var 1) (px_int))) (px_mul (px_ix (px_var 1) (px_int)) (px_ix (px_var 0) (px_int)))) (pxa_cons (px_mul (px_ix (px_var 0) (px_int)) (px_ix (px_var 1) (px_int))) (pxa_nil)))))
abbrev s_times : Stmt := top 17
theorem sc_times : FnScope ["one", "other"] ["one", "other"] (defScope s_times) := ⟨rfl, rfl, rfl, by decide +kernel, rfl, by decide +kernel, by decide +kernel⟩
theorem d_times (G : Gl0 P K mg) (D : DefIn K mg "times" s_times) (c_rate : Callee P w K mg base T false 2 "rate" ["top", "bottom"] f_rate) : Callee P w K mg base T false 3 "times" ["one", "other"] f_times :=
  callee_of (gd := false) (k := 2) D sc_times rfl rfl (fun _ _ _ _ _ _ us hl => match us, hl with | [_, _], _ => rfl) fun f cdv A outer s H E hg hr => pxs_one (px_ret (px_fn c_rate hr (by decide) (fun z => nomatch z) (pxa_cons (px_mul (px_ix (px_var 0) (px_int)) (px_ix (px_var 1) (px_int))) (pxa_cons (px_mul (px_ix (px_var 0) (px_int)) (px_ix (px_var 1) (px_int))) (pxa_nil)))))
abbrev s_turned_sign : Stmt := top 18
theorem sc_turned_sign : FnScope ["one"] ["one"] (defScope s_turned_sign) := ⟨rfl, rfl, rfl, by decide +kernel, rfl, by decide +kernel, by decide +kernel⟩
theorem d_turned_sign (G : Gl0 P K mg) (D : DefIn K mg "turned_sign" s_turned_sign) : Callee P w K mg base T false 1 "turned_sign" ["one"] f_turned_sign :=
  callee_of (gd := false) (k := 0) D sc_turned_sign rfl rfl (fun _ _ _ _ _ _ us hl => match us, hl with | [_], _ => rfl) fun f cdv A outer s H E hg hr => pxs_one (px_ret (px_tup (pxa_cons (px_neg (px_ix (px_var 0) (px_int))) (pxa_cons (px_ix (px_var 0) (px_int)) (pxa_nil)))))
abbrev s_squared : Stmt := top 19
theorem sc_squared : FnScope ["one"] ["one"] (defScope s_squared) := ⟨rfl, rfl, rfl, by decide +kernel, rfl, by decide +kernel, by decide +kernel⟩
theorem d_squared (G : Gl0 P K mg) (D : DefIn K mg "squared" s_squared) : Callee P w K mg base T false 1 "squared" ["one"] f_squared :=
  callee_of (gd := false) (k := 0) D sc_squared rfl rfl (fun _ _ _ _ _ _ us hl => match us, hl with | [_], _ => rfl) fun f cdv A outer s H E hg hr => pxs_one (px_ret (px_tup (pxa_cons (px_mul (px_ix (px_var 0) (px_int)) (px_ix (px_var 0) (px_int))) (pxa_cons (px_mul (px_ix (px_var 0) (px_int)) (px_ix (px_var 0) (px_int))) (pxa_nil)))))
abbrev s_plain : Stmt := top 21
theorem sc_plain : FnScope ["one"] ["one"] (defScope s_plain) := ⟨rfl, rfl, rfl, by decide +kernel, rfl, by decide +kernel, by decide +kernel⟩
theorem d_plain (G : Gl0 P K mg) (D : DefIn K mg "plain" s_plain) : Callee P w K mg base T false 1 "plain" ["one"] f_plain :=
  callee_of (gd := false) (k := 0) D sc_plain rfl rfl (fun _ _ _ _ _ _ us hl => match us, hl with | [_], _ => rfl) fun f cdv A outer s H E hg hr => pxs_one (px_ret (px_tup (pxa_cons (px_var 0) (pxa_cons (px_cst G.c_ZERO) (pxa_cons (px_int) (pxa_nil))))))
abbrev s_negative : Stmt := top 22
theorem sc_negative : FnScope ["one"] ["one"] (defScope s_negative) := ⟨rfl, rfl, rfl, by decide +kernel, rfl, by decide +kernel, by decide +kernel⟩
theorem d_negative (G : Gl0 P K mg) (D : DefIn K mg "negative" s_negative) (c_turned_sign : Callee P w K mg base T false 1 "turned_sign" ["one"] f_turned_sign) : Callee P w K mg base T false 2 "negative" ["one"] f_negative :=
  callee_of (gd := false) (k := 1) D sc_negative rfl rfl (fun _ _ _ _ _ _ us hl => match us, hl with | [_], _ => rfl) fun f cdv A outer s H E hg hr => pxs_one (px_ret (px_tup (pxa_cons (px_fn c_turned_sign hr (by decide) (fun z => nomatch z) (pxa_cons (px_ix (px_var 0) (px_int)) (pxa_nil))) (pxa_cons (px_fn c_turned_sign hr (by decide) (fun z => nomatch z) (pxa_cons (px_ix (px_var 0) (px_int)) (pxa_nil))) (pxa_cons (px_ix (px_var 0) (px_int)) (pxa_nil))))))
abbrev s_sign_of_int : Stmt := top 24
theorem sc_sign_of_int : FnScope ["one"] ["one"] (defScope s_sign_of_int) := ⟨rfl, rfl, rfl, by decide +kernel, rfl, by decide +kernel, by decide +kernel⟩
theorem d_sign_of_int (G : Gl0 P K mg) (D : DefIn K mg "sign_of_int" s_sign_of_int) : Callee P w K mg base T false 1 "sign_of_int" ["one"] f_sign_of_int :=
  callee_of (gd := false) (k := 0) D sc_sign_of_int rfl rfl (fun _ _ _ _ _ _ us hl => match us, hl with | [_], _ => rfl) fun f cdv A outer s H E hg hr => pxs_cons (px_if (pxt_eq hr (px_var 0) (px_int)) (pxs_one (px_ret (px_int))) (pxs_nil)) (pxs_one (px_ret (px_ifExp (pxt_gt (px_var 0) (px_int)) (px_int) (px_neg (px_int)))))
abbrev s_sign_under : Stmt := top 25
theorem sc_sign_under : FnScope ["first", "second", "root", "mine", "its"] ["first", "second", "root"] (defScope s_sign_under) := ⟨rfl, rfl, rfl, by decide +kernel, rfl, by decide +kernel, by decide +kernel⟩
theorem d_sign_under (G : Gl0 P K mg) (D : DefIn K mg "sign_under" s_sign_under) (c_sign_of_int : Callee P w K mg base T false 1 "sign_of_int" ["one"] f_sign_of_int) : Callee P w K mg base T false 2 "sign_under" ["first", "second", "root"] f_sign_under :=
  callee_of (gd := false) (k := 1) D sc_sign_under rfl rfl (fun _ _ _ _ _ _ us hl => match us, hl with | [_, _, _], _ => rfl) fun f cdv A outer s H E hg hr => pxs_cons (px_par 3 4 rfl sc_sign_under.nd (by decide) (pxa_cons (px_fn c_sign_of_int hr (by decide) (fun z => nomatch z) (pxa_cons (px_var 0) (pxa_nil))) (pxa_cons (px_ifExp (pxt_gt (px_var 2) (px_int)) (px_fn c_sign_of_int hr (by decide) (fun z => nomatch z) (pxa_cons (px_var 1) (pxa_nil))) (px_int)) (pxa_nil)))) (pxs_cons (px_if (PXW.t (pxw_or (pxt_eq hr (px_var 4) (px_int)) (pxw_or1 (pxt_eq hr (px_var 3) (px_var 4))))) (pxs_one (px_ret (px_var 3))) (pxs_nil)) (pxs_cons (px_if (pxt_eq hr (px_var 3) (px_int)) (pxs_one (px_ret (px_var 4))) (pxs_nil)) (pxs_one (px_ret (px_mul (px_var 3) (px_fn c_sign_of_int hr (by decide) (fun z => nomatch z) (pxa_cons (px_sub (px_mul (px_var 0) (px_var 0)) (px_mul (px_mul (px_var 1) (px_var 1)) (px_var 2))) (pxa_nil))))))))
abbrev s_sign : Stmt := top 23
theorem sc_sign : FnScope ["one"] ["one"] (defScope s_sign) := ⟨rfl, rfl, rfl, by decide +kernel, rfl, by decide +kernel, by decide +kernel⟩
theorem d_sign (G : Gl0 P K mg) (D : DefIn K mg "sign" s_sign) (c_sign_under : Callee P w K mg base T false 2 "sign_under" ["first", "second", "root"] f_sign_under) : Callee P w K mg base T false 3 "sign" ["one"] f_sign :=
  callee_of (gd := false) (k := 2) D sc_sign rfl rfl (fun _ _ _ _ _ _ us hl => match us, hl with | [_], _ => rfl) fun f cdv A outer s H E hg hr => pxs_one (px_ret (px_fn c_sign_under hr (by decide) (fun z => nomatch z) (pxa_cons (px_mul (px_ix (px_ix (px_var 0) (px_int)) (px_int)) (px_ix (px_ix (px_var 0) (px_int)) (px_int))) (pxa_cons (px_mul (px_ix (px_ix (px_var 0) (px_int)) (px_int)) (px_ix (px_ix (px_var 0) (px_int)) (px_int))) (pxa_cons (px_ix (px_var 0) (px_int)) (pxa_nil))))))
abbrev s_sign_of_four : Stmt := top 27
theorem sc_sign_of_four : FnScope ["first", "second", "third", "fourth", "root", "other", "mine", "its", "plain_part"] ["first", "second", "third", "fourth", "root", "other"] (defScope s_sign_of_four) := ⟨rfl, rfl, rfl, by decide +kernel, rfl, by decide +kernel, by decide +kernel⟩
theorem d_sign_of_four (G : Gl0 P K mg) (D : DefIn K mg "sign_of_four" s_sign_of_four) (c_sign_under : Callee P w K mg base T false 2 "sign_under" ["first", "second", "root"] f_sign_under) : Callee P w K mg base T false 3 "sign_of_four" ["first", "second", "third", "fourth", "root", "other"] f_sign_of_four :=
  callee_of (gd := false) (k := 2) D sc_sign_of_four rfl rfl (fun _ _ _ _ _ _ us hl => match us, hl with | [_, _, _, _, _, _], _ => rfl) fun f cdv A outer s H E hg hr => pxs_cons (px_set 6 sc_sign_of_four.nd (px_fn c_sign_under hr (by decide) (fun z => nomatch z) (pxa_cons (px_var 0) (pxa_cons (px_var 1) (pxa_cons (px_var 4) (pxa_nil)))))) (pxs_cons (px_set 7 sc_sign_of_four.nd (px_ifExp (pxt_gt (px_var 5) (px_int)) (px_fn c_sign_under hr (by decide) (fun z => nomatch z) (pxa_cons (px_var 2) (pxa_cons (px_var 3) (pxa_cons (px_var 4) (pxa_nil))))) (px_int))) (pxs_cons (px_if (PXW.t (pxw_or (pxt_eq hr (px_var 7) (px_int)) (pxw_or1 (pxt_eq hr (px_var 6) (px_var 7))))) (pxs_one (px_ret (px_var 6))) (pxs_nil)) (pxs_cons (px_if (pxt_eq hr (px_var 6) (px_int)) (pxs_one (px_ret (px_var 7))) (pxs_nil)) (pxs_cons (px_set 8 sc_sign_of_four.nd (px_sub (px_add (px_mul (px_var 0) (px_var 0)) (px_mul (px_mul (px_var 1) (px_var 1)) (px_var 4))) (px_mul (px_add (px_mul (px_var 2) (px_var 2)) (px_mul (px_mul (px_var 3) (px_var 3)) (px_var 4))) (px_var 5)))) (pxs_one (px_ret (px_mul (px_var 6) (px_fn c_sign_under hr (by decide) (fun z => nomatch z) (pxa_cons (px_var 8) (pxa_cons (px_mul (px_int) (px_sub (px_mul (px_var 0) (px_var 1)) (px_mul (px_mul (px_var 2) (px_var 3)) (px_var 5)))) (pxa_cons (px_var 4) (pxa_nil))))))))))))
abbrev s_ints_of : Stmt := top 28
theorem sc_ints_of : FnScope ["way", "x_top", "x_bottom", "x_root_top", "x_root_bottom", "x_root", "y_top", "y_bottom", "y_root_top", "y_root_bottom", "y_root", "x_below", "y_below", "first", "second", "third", "fourth"] ["way"] (defScope s_ints_of) := ⟨rfl, rfl, rfl, by decide +kernel, rfl, by decide +kernel, by decide +kernel⟩
theorem d_ints_of (G : Gl0 P K mg) (D : DefIn K mg "ints_of" s_ints_of) : Callee P w K mg base T false 1 "ints_of" ["way"] f_ints_of :=
  callee_of (gd := false) (k := 0) D sc_ints_of rfl rfl (fun _ _ _ _ _ _ us hl => match us, hl with | [_], _ => rfl) fun f cdv A outer s H E hg hr => pxs_cons (px_asg (px_ix (px_var 0) (px_int)) (pxg_tup rfl (pxgs_cons (pxg_tup rfl (pxgs_cons (pxg_name 1 sc_ints_of.nd) (pxgs_cons (pxg_name 2 sc_ints_of.nd) (pxgs_nil))) (gsl_cons (gsl_cons (gsl_nil)))) (pxgs_cons (pxg_tup rfl (pxgs_cons (pxg_name 3 sc_ints_of.nd) (pxgs_cons (pxg_name 4 sc_ints_of.nd) (pxgs_nil))) (gsl_cons (gsl_cons (gsl_nil)))) (pxgs_cons (pxg_name 5 sc_ints_of.nd) (pxgs_nil)))) (gsl_cons (gsl_cons (gsl_cons (gsl_nil)))))) (pxs_cons (px_asg (px_ix (px_var 0) (px_int)) (pxg_tup rfl (pxgs_cons (pxg_tup rfl (pxgs_cons (pxg_name 6 sc_ints_of.nd) (pxgs_cons (pxg_name 7 sc_ints_of.nd) (pxgs_nil))) (gsl_cons (gsl_cons (gsl_nil)))) (pxgs_cons (pxg_tup rfl (pxgs_cons (pxg_name 8 sc_ints_of.nd) (pxgs_cons (pxg_name 9 sc_ints_of.nd) (pxgs_nil))) (gsl_cons (gsl_cons (gsl_nil)))) (pxgs_cons (pxg_name 10 sc_ints_of.nd) (pxgs_nil)))) (gsl_cons (gsl_cons (gsl_cons (gsl_nil)))))) (pxs_cons (px_par 11 12 rfl sc_ints_of.nd (by decide) (pxa_cons (px_mul (px_var 2) (px_var 4)) (pxa_cons (px_mul (px_var 7) (px_var 9)) (pxa_nil)))) (pxs_cons (px_par 13 14 rfl sc_ints_of.nd (by decide) (pxa_cons (px_mul (px_mul (px_var 1) (px_var 4)) (px_var 12)) (pxa_cons (px_mul (px_mul (px_var 3) (px_var 2)) (px_var 12)) (pxa_nil)))) (pxs_cons (px_par 15 16 rfl sc_ints_of.nd (by decide) (pxa_cons (px_mul (px_mul (px_var 6) (px_var 9)) (px_var 11)) (pxa_cons (px_mul (px_mul (px_var 8) (px_var 7)) (px_var 11)) (pxa_nil)))) (pxs_one (px_ret (px_tup (pxa_cons (px_var 13) (pxa_cons (px_var 14) (pxa_cons (px_var 15) (pxa_cons (px_var 16) (pxa_cons (pb_max rfl G.b_max (pxa_cons (px_var 5) (pxa_cons (px_var 10) (pxa_nil)))) (pxa_nil)))))))))))))
abbrev s_sign_of_cross : Stmt := top 29
theorem sc_sign_of_cross : FnScope ["one", "other", "x", "x_by", "y", "y_by", "root", "far", "far_by", "up", "up_by", "its_root", "first", "second"] ["one", "other"] (defScope s_sign_of_cross) := ⟨rfl, rfl, rfl, by decide +kernel, rfl, by decide +kernel, by decide +kernel⟩
theorem d_sign_of_cross (G : Gl0 P K mg) (D : DefIn K mg "sign_of_cross" s_sign_of_cross) (c_ints_of : Callee P w K mg base T false 1 "ints_of" ["way"] f_ints_of) (c_sign_of_four : Callee P w K mg base T false 3 "sign_of_four" ["first", "second", "third", "fourth", "root", "other"] f_sign_of_four) : Callee P w K mg base T false 4 "sign_of_cross" ["one", "other"] f_sign_of_cross :=
  callee_of (gd := false) (k := 3) D sc_sign_of_cross rfl rfl (fun _ _ _ _ _ _ us hl => match us, hl with | [_, _], _ => rfl) fun f cdv A outer s H E hg hr => pxs_cons (px_asg (px_fn c_ints_of hr (by decide) (fun z => nomatch z) (pxa_cons (px_var 0) (pxa_nil))) (pxg_tup rfl (pxgs_cons (pxg_name 2 sc_sign_of_cross.nd) (pxgs_cons (pxg_name 3 sc_sign_of_cross.nd) (pxgs_cons (pxg_name 4 sc_sign_of_cross.nd) (pxgs_cons (pxg_name 5 sc_sign_of_cross.nd) (pxgs_cons (pxg_name 6 sc_sign_of_cross.nd) (pxgs_nil)))))) (gsl_cons (gsl_cons (gsl_cons (gsl_cons (gsl_cons (gsl_nil)))))))) (pxs_cons (px_asg (px_fn c_ints_of hr (by decide) (fun z => nomatch z) (pxa_cons (px_var 1) (pxa_nil))) (pxg_tup rfl (pxgs_cons (pxg_name 7 sc_sign_of_cross.nd) (pxgs_cons (pxg_name 8 sc_sign_of_cross.nd) (pxgs_cons (pxg_name 9 sc_sign_of_cross.nd) (pxgs_cons (pxg_name 10 sc_sign_of_cross.nd) (pxgs_cons (pxg_name 11 sc_sign_of_cross.nd) (pxgs_nil)))))) (gsl_cons (gsl_cons (gsl_cons (gsl_cons (gsl_cons (gsl_nil)))))))) (pxs_cons (px_par 12 13 rfl sc_sign_of_cross.nd (by decide) (pxa_cons (px_sub (px_mul (px_var 2) (px_var 9)) (px_mul (px_var 4) (px_var 7))) (pxa_cons (px_sub (px_mul (px_var 3) (px_var 9)) (px_mul (px_var 5) (px_var 7))) (pxa_nil)))) (pxs_one (px_ret (px_fn c_sign_of_four hr (by decide) (fun z => nomatch z) (pxa_cons (px_var 12) (pxa_cons (px_var 13) (pxa_cons (px_sub (px_mul (px_var 2) (px_var 10)) (px_mul (px_var 4) (px_var 8))) (pxa_cons (px_sub (px_mul (px_var 3) (px_var 10)) (px_mul (px_var 5) (px_var 8))) (pxa_cons (px_var 6) (pxa_cons (px_var 11) (pxa_nil))))))))))))
abbrev s_sign_of_dot : Stmt := top 30
theorem sc_sign_of_dot : FnScope ["one", "other"] ["one", "other"] (defScope s_sign_of_dot) := ⟨rfl, rfl, rfl, by decide +kernel, rfl, by decide +kernel, by decide +kernel⟩
theorem d_sign_of_dot (G : Gl0 P K mg) (D : DefIn K mg "sign_of_dot" s_sign_of_dot) (c_negative : Callee P w K mg base T false 2 "negative" ["one"] f_negative) (c_sign_of_cross : Callee P w K mg base T false 4 "sign_of_cross" ["one", "other"] f_sign_of_cross) : Callee P w K mg base T false 5 "sign_of_dot" ["one", "other"] f_sign_of_dot :=
  callee_of (gd := false) (k := 4) D sc_sign_of_dot rfl rfl (fun _ _ _ _ _ _ us hl => match us, hl with | [_, _], _ => rfl) fun f cdv A outer s H E hg hr => pxs_one (px_ret (px_fn c_sign_of_cross hr (by decide) (fun z => nomatch z) (pxa_cons (px_var 0) (pxa_cons (px_tup (pxa_cons (px_fn c_negative hr (by decide) (fun z => nomatch z) (pxa_cons (px_ix (px_var 1) (px_int)) (pxa_nil))) (pxa_cons (px_ix (px_var 1) (px_int)) (pxa_nil)))) (pxa_nil)))))
abbrev s_is_turn : Stmt := top 33
theorem sc_is_turn : FnScope ["value", "one"] ["value"] (defScope s_is_turn) := ⟨rfl, rfl, rfl, by decide +kernel, rfl, by decide +kernel, by decide +kernel⟩
theorem d_is_turn (G : Gl0 P K mg) (D : DefIn K mg "is_turn" s_is_turn) (c_is_lowest : Callee P w K mg base T false 2 "is_lowest" ["value"] f_is_lowest) (c_squared : Callee P w K mg base T false 1 "squared" ["one"] f_squared) (c_plus : Callee P w K mg base T false 3 "plus" ["one", "other"] f_plus) : Callee P w K mg base T false 4 "is_turn" ["value"] f_is_turn :=
  callee_of (gd := false) (k := 3) D sc_is_turn rfl rfl (fun _ _ _ _ _ _ us hl => match us, hl with | [_], _ => rfl) fun f cdv A outer s H E hg hr => pxs_cons (px_if (PXW.t (pxw_or (pxt_not (pxt_truth (pb_isinstance G.ex G.b_isinstance (pxa_cons (px_var 0) (pxa_cons (px_ty G.b_tuple (by decide +kernel)) (pxa_nil)))))) (pxw_or (pxt_ne hr (pb_len G.b_len (pxa_cons (px_var 0) (pxa_nil))) (px_int)) (pxw_or1 (pxt_not (pxt_truth (pb_all rfl G.b_all (pxa_cons (px_comp (own := [("one", 1)]) rfl sc_is_turn.nd (pxi_tup (px_var 0)) (blkOk_by (N := ["value", "one"]) (sc := defScope s_is_turn) (by decide +kernel)) (fun _ _ _ _ _ => pxg_name 1 sc_is_turn.nd) (fun _ _ _ _ _ => pxts_nil) (fun _ _ _ _ _ => px_fn c_is_lowest hr (by decide) (fun z => nomatch z) (pxa_cons (px_var 1) (pxa_nil))) (by decide)) (pxa_nil))))))))) (pxs_one (px_ret (px_bl))) (pxs_nil)) (pxs_one (px_ret (px_eq hr (px_fn c_plus hr (by decide) (fun z => nomatch z) (pxa_cons (px_fn c_squared hr (by decide) (fun z => nomatch z) (pxa_cons (px_ix (px_var 0) (px_int)) (pxa_nil))) (pxa_cons (px_fn c_squared hr (by decide) (fun z => nomatch z) (pxa_cons (px_ix (px_var 0) (px_int)) (pxa_nil))) (pxa_nil)))) (px_cst G.c_ONE))))
abbrev s_look_at_turn : Stmt := top 34
theorem sc_look_at_turn : FnScope ["value"] ["value"] (defScope s_look_at_turn) := ⟨rfl, rfl, rfl, by decide +kernel, rfl, by decide +kernel, by decide +kernel⟩
theorem d_look_at_turn (G : Gl0 P K mg) (D : DefIn K mg "look_at_turn" s_look_at_turn) (c_is_turn : Callee P w K mg base T false 4 "is_turn" ["value"] f_is_turn) : Callee P w K mg base T false 5 "look_at_turn" ["value"] f_look_at_turn :=
  callee_of (gd := false) (k := 4) D sc_look_at_turn rfl rfl (fun _ _ _ _ _ _ us hl => match us, hl with | [_], _ => rfl) fun f cdv A outer s H E hg hr => pxs_one (px_if (pxt_not (pxt_truth (px_fn c_is_turn hr (by decide) (fun z => nomatch z) (pxa_cons (px_var 0) (pxa_nil))))) (pxs_one (px_raise rfl G.ex_BadTurn hr (px_var 0))) (pxs_nil))
abbrev s_told_turn_of : Stmt := top 35
theorem sc_told_turn_of : FnScope ["half", "top", "bottom", "whole"] ["half"] (defScope s_told_turn_of) := ⟨rfl, rfl, rfl, by decide +kernel, rfl, by decide +kernel, by decide +kernel⟩
theorem d_told_turn_of (G : Gl0 P K mg) (D : DefIn K mg "told_turn_of" s_told_turn_of) (c_rate : Callee P w K mg base T false 2 "rate" ["top", "bottom"] f_rate) : Callee P w K mg base T false 3 "told_turn_of" ["half"] f_told_turn_of :=
  callee_of (gd := false) (k := 2) D sc_told_turn_of rfl rfl (fun _ _ _ _ _ _ us hl => match us, hl with | [_], _ => rfl) fun f cdv A outer s H E hg hr => pxs_cons (px_asg (px_var 0) (pxg_tup rfl (pxgs_cons (pxg_name 1 sc_told_turn_of.nd) (pxgs_cons (pxg_name 2 sc_told_turn_of.nd) (pxgs_nil))) (gsl_cons (gsl_cons (gsl_nil))))) (pxs_cons (px_set 3 sc_told_turn_of.nd (px_add (px_mul (px_var 1) (px_var 1)) (px_mul (px_var 2) (px_var 2)))) (pxs_one (px_ret (px_tup (pxa_cons (px_fn c_rate hr (by decide) (fun z => nomatch z) (pxa_cons (px_sub (px_mul (px_var 2) (px_var 2)) (px_mul (px_var 1) (px_var 1))) (pxa_cons (px_var 3) (pxa_nil)))) (pxa_cons (px_fn c_rate hr (by decide) (fun z => nomatch z) (pxa_cons (px_mul (px_mul (px_int) (px_var 1)) (px_var 2)) (pxa_cons (px_var 3) (pxa_nil)))) (pxa_nil)))))))
abbrev s_told_behind : Stmt := top 36
theorem sc_told_behind : FnScope ["one", "other", "first"] ["one", "other"] (defScope s_told_behind) := ⟨rfl, rfl, rfl, by decide +kernel, rfl, by decide +kernel, by decide +kernel⟩
theorem d_told_behind (G : Gl0 P K mg) (D : DefIn K mg "told_behind" s_told_behind) (c_times : Callee P w K mg base T false 3 "times" ["one", "other"] f_times) (c_less : Callee P w K mg base T false 3 "less" ["one", "other"] f_less) (c_plus : Callee P w K mg base T false 3 "plus" ["one", "other"] f_plus) : Callee P w K mg base T false 4 "told_behind" ["one", "other"] f_told_behind :=
  callee_of (gd := false) (k := 3) D sc_told_behind rfl rfl (fun _ _ _ _ _ _ us hl => match us, hl with | [_, _], _ => rfl) fun f cdv A outer s H E hg hr => pxs_cons (px_set 2 sc_told_behind.nd (px_fn c_less hr (by decide) (fun z => nomatch z) (pxa_cons (px_fn c_times hr (by decide) (fun z => nomatch z) (pxa_cons (px_ix (px_var 0) (px_int)) (pxa_cons (px_ix (px_var 1) (px_int)) (pxa_nil)))) (pxa_cons (px_fn c_times hr (by decide) (fun z => nomatch z) (pxa_cons (px_ix (px_var 0) (px_int)) (pxa_cons (px_ix (px_var 1) (px_int)) (pxa_nil)))) (pxa_nil))))) (pxs_one (px_ret (px_tup (pxa_cons (px_var 2) (pxa_cons (px_fn c_plus hr (by decide) (fun z => nomatch z) (pxa_cons (px_fn c_times hr (by decide) (fun z => nomatch z) (pxa_cons (px_ix (px_var 0) (px_int)) (pxa_cons (px_ix (px_var 1) (px_int)) (pxa_nil)))) (pxa_cons (px_fn c_times hr (by decide) (fun z => nomatch z) (pxa_cons (px_ix (px_var 0) (px_int)) (pxa_cons (px_ix (px_var 1) (px_int)) (pxa_nil)))) (pxa_nil)))) (pxa_nil))))))
abbrev s_lifted : Stmt := top 37
theorem sc_lifted : FnScope ["turn"] ["turn"] (defScope s_lifted) := ⟨rfl, rfl, rfl, by decide +kernel, rfl, by decide +kernel, by decide +kernel⟩
theorem d_lifted (G : Gl0 P K mg) (D : DefIn K mg "lifted" s_lifted) (c_plain : Callee P w K mg base T false 1 "plain" ["one"] f_plain) : Callee P w K mg base T false 2 "lifted" ["turn"] f_lifted :=
  callee_of (gd := false) (k := 1) D sc_lifted rfl rfl (fun _ _ _ _ _ _ us hl => match us, hl with | [_], _ => rfl) fun f cdv A outer s H E hg hr => pxs_one (px_ret (px_tup (pxa_cons (px_fn c_plain hr (by decide) (fun z => nomatch z) (pxa_cons (px_ix (px_var 0) (px_int)) (pxa_nil))) (pxa_cons (px_fn c_plain hr (by decide) (fun z => nomatch z) (pxa_cons (px_ix (px_var 0) (px_int)) (pxa_nil))) (pxa_nil)))))
abbrev s_half_plane : Stmt := top 38
theorem sc_half_plane : FnScope ["one", "up"] ["one"] (defScope s_half_plane) := ⟨rfl, rfl, rfl, by decide +kernel, rfl, by decide +kernel, by decide +kernel⟩
theorem d_half_plane (G : Gl0 P K mg) (D : DefIn K mg "half_plane" s_half_plane) (c_sign : Callee P w K mg base T false 3 "sign" ["one"] f_sign) : Callee P w K mg base T false 4 "half_plane" ["one"] f_half_plane :=
  callee_of (gd := false) (k := 3) D sc_half_plane rfl rfl (fun _ _ _ _ _ _ us hl => match us, hl with | [_], _ => rfl) fun f cdv A outer s H E hg hr => pxs_cons (px_set 1 sc_half_plane.nd (px_fn c_sign hr (by decide) (fun z => nomatch z) (pxa_cons (px_ix (px_var 0) (px_int)) (pxa_nil)))) (pxs_one (px_ret (px_ifExp (PXW.t (pxw_or (pxt_gt (px_var 1) (px_int)) (pxw_or1 (PXW.t (pxw_and (pxt_eq hr (px_var 1) (px_int)) (pxw_and1 (pxt_gt (px_fn c_sign hr (by decide) (fun z => nomatch z) (pxa_cons (px_ix (px_var 0) (px_int)) (pxa_nil))) (px_int)))))))) (px_int) (px_int))))
abbrev s_is_ahead : Stmt := top 39
theorem sc_is_ahead : FnScope ["one", "other", "mine", "its"] ["one", "other"] (defScope s_is_ahead) := ⟨rfl, rfl, rfl, by decide +kernel, rfl, by decide +kernel, by decide +kernel⟩
theorem d_is_ahead (G : Gl0 P K mg) (D : DefIn K mg "is_ahead" s_is_ahead) (c_half_plane : Callee P w K mg base T false 4 "half_plane" ["one"] f_half_plane) (c_sign_of_cross : Callee P w K mg base T false 4 "sign_of_cross" ["one", "other"] f_sign_of_cross) : Callee P w K mg base T false 5 "is_ahead" ["one", "other"] f_is_ahead :=
  callee_of (gd := false) (k := 4) D sc_is_ahead rfl rfl (fun _ _ _ _ _ _ us hl => match us, hl with | [_, _], _ => rfl) fun f cdv A outer s H E hg hr => pxs_cons (px_par 2 3 rfl sc_is_ahead.nd (by decide) (pxa_cons (px_fn c_half_plane hr (by decide) (fun z => nomatch z) (pxa_cons (px_var 0) (pxa_nil))) (pxa_cons (px_fn c_half_plane hr (by decide) (fun z => nomatch z) (pxa_cons (px_var 1) (pxa_nil))) (pxa_nil)))) (pxs_one (px_ret (px_ifExp (pxt_ne hr (px_var 2) (px_var 3)) (px_lt (px_var 2) (px_var 3)) (px_gt (px_fn c_sign_of_cross hr (by decide) (fun z => nomatch z) (pxa_cons (px_var 0) (pxa_cons (px_var 1) (pxa_nil)))) (px_int)))))
abbrev s_is_same_way : Stmt := top 40
theorem sc_is_same_way : FnScope ["one", "other"] ["one", "other"] (defScope s_is_same_way) := ⟨rfl, rfl, rfl, by decide +kernel, rfl, by decide +kernel, by decide +kernel⟩
theorem d_is_same_way (G : Gl0 P K mg) (D : DefIn K mg "is_same_way" s_is_same_way) (c_sign_of_cross : Callee P w K mg base T false 4 "sign_of_cross" ["one", "other"] f_sign_of_cross) (c_sign_of_dot : Callee P w K mg base T false 5 "sign_of_dot" ["one", "other"] f_sign_of_dot) : Callee P w K mg base T false 6 "is_same_way" ["one", "other"] f_is_same_way :=
  callee_of (gd := false) (k := 5) D sc_is_same_way rfl rfl (fun _ _ _ _ _ _ us hl => match us, hl with | [_, _], _ => rfl) fun f cdv A outer s H E hg hr => pxs_one (px_ret (px_and (px_eq hr (px_fn c_sign_of_cross hr (by decide) (fun z => nomatch z) (pxa_cons (px_var 0) (pxa_cons (px_var 1) (pxa_nil)))) (px_int)) (px_one (px_gt (px_fn c_sign_of_dot hr (by decide) (fun z => nomatch z) (pxa_cons (px_var 0) (pxa_cons (px_var 1) (pxa_nil)))) (px_int)))))
abbrev s_is_between : Stmt := top 41
theorem sc_is_between : FnScope ["low", "one", "high"] ["low", "one", "high"] (defScope s_is_between) := ⟨rfl, rfl, rfl, by decide +kernel, rfl, by decide +kernel, by decide +kernel⟩
theorem d_is_between (G : Gl0 P K mg) (D : DefIn K mg "is_between" s_is_between) (c_is_same_way : Callee P w K mg base T false 6 "is_same_way" ["one", "other"] f_is_same_way) (c_is_ahead : Callee P w K mg base T false 5 "is_ahead" ["one", "other"] f_is_ahead) : Callee P w K mg base T false 7 "is_between" ["low", "one", "high"] f_is_between :=
  callee_of (gd := false) (k := 6) D sc_is_between rfl rfl (fun _ _ _ _ _ _ us hl => match us, hl with | [_, _, _], _ => rfl) fun f cdv A outer s H E hg hr => pxs_cons (px_if (PXW.t (pxw_or (pxt_truth (px_fn c_is_same_way hr (by decide) (fun z => nomatch z) (pxa_cons (px_var 0) (pxa_cons (px_var 1) (pxa_nil))))) (pxw_or1 (pxt_truth (px_fn c_is_same_way hr (by decide) (fun z => nomatch z) (pxa_cons (px_var 2) (pxa_cons (px_var 1) (pxa_nil)))))))) (pxs_one (px_ret (px_bl))) (pxs_nil)) (pxs_cons (px_if (pxt_truth (px_fn c_is_same_way hr (by decide) (fun z => nomatch z) (pxa_cons (px_var 0) (pxa_cons (px_var 2) (pxa_nil))))) (pxs_one (px_ret (px_bl))) (pxs_nil)) (pxs_one (px_ret (px_eq hr (px_addB (px_addB (px_fn c_is_ahead hr (by decide) (fun z => nomatch z) (pxa_cons (px_var 0) (pxa_cons (px_var 1) (pxa_nil)))) (px_fn c_is_ahead hr (by decide) (fun z => nomatch z) (pxa_cons (px_var 1) (pxa_cons (px_var 2) (pxa_nil))))) (px_fn c_is_ahead hr (by decide) (fun z => nomatch z) (pxa_cons (px_var 2) (pxa_cons (px_var 0) (pxa_nil))))) (px_int)))))
abbrev s_told_from_to : Stmt := top 43
theorem sc_told_from_to : FnScope ["low", "one", "high"] ["low", "one", "high"] (defScope s_told_from_to) := ⟨rfl, rfl, rfl, by decide +kernel, rfl, by decide +kernel, by decide +kernel⟩
theorem d_told_from_to (G : Gl0 P K mg) (D : DefIn K mg "told_from_to" s_told_from_to) (c_is_same_way : Callee P w K mg base T false 6 "is_same_way" ["one", "other"] f_is_same_way) (c_is_between : Callee P w K mg base T false 7 "is_between" ["low", "one", "high"] f_is_between) : Callee P w K mg base T false 8 "told_from_to" ["low", "one", "high"] f_told_from_to :=
  callee_of (gd := false) (k := 7) D sc_told_from_to rfl rfl (fun _ _ _ _ _ _ us hl => match us, hl with | [_, _, _], _ => rfl) fun f cdv A outer s H E hg hr => pxs_cons (px_if (pxt_truth (px_fn c_is_same_way hr (by decide) (fun z => nomatch z) (pxa_cons (px_var 0) (pxa_cons (px_var 2) (pxa_nil))))) (pxs_one (px_ret (px_fn c_is_same_way hr (by decide) (fun z => nomatch z) (pxa_cons (px_var 0) (pxa_cons (px_var 1) (pxa_nil)))))) (pxs_nil)) (pxs_one (px_ret (px_or (px_fn c_is_same_way hr (by decide) (fun z => nomatch z) (pxa_cons (px_var 0) (pxa_cons (px_var 1) (pxa_nil)))) (px_or (px_fn c_is_same_way hr (by decide) (fun z => nomatch z) (pxa_cons (px_var 2) (pxa_cons (px_var 1) (pxa_nil)))) (px_one (px_fn c_is_between hr (by decide) (fun z => nomatch z) (pxa_cons (px_var 0) (pxa_cons (px_var 1) (pxa_cons (px_var 2) (pxa_nil))))))))))
abbrev s_is_from_to : Stmt := top 42
theorem sc_is_from_to : FnScope ["low", "turn", "high"] ["low", "turn", "high"] (defScope s_is_from_to) := ⟨rfl, rfl, rfl, by decide +kernel, rfl, by decide +kernel, by decide +kernel⟩
theorem d_is_from_to (G : Gl0 P K mg) (D : DefIn K mg "is_from_to" s_is_from_to) (c_look_at_turn : Callee P w K mg base T false 5 "look_at_turn" ["value"] f_look_at_turn) (c_lifted : Callee P w K mg base T false 2 "lifted" ["turn"] f_lifted) (c_told_from_to : Callee P w K mg base T false 8 "told_from_to" ["low", "one", "high"] f_told_from_to) : Callee P w K mg base T false 9 "is_from_to" ["low", "turn", "high"] f_is_from_to :=
  callee_of (gd := false) (k := 8) D sc_is_from_to rfl rfl (fun _ _ _ _ _ _ us hl => match us, hl with | [_, _, _], _ => rfl) fun f cdv A outer s H E hg hr => pxs_cons (px_expr (px_fn c_look_at_turn hr (by decide) (fun z => nomatch z) (pxa_cons (px_var 0) (pxa_nil)))) (pxs_cons (px_expr (px_fn c_look_at_turn hr (by decide) (fun z => nomatch z) (pxa_cons (px_var 1) (pxa_nil)))) (pxs_cons (px_expr (px_fn c_look_at_turn hr (by decide) (fun z => nomatch z) (pxa_cons (px_var 2) (pxa_nil)))) (pxs_one (px_ret (px_fn c_told_from_to hr (by decide) (fun z => nomatch z) (pxa_cons (px_fn c_lifted hr (by decide) (fun z => nomatch z) (pxa_cons (px_var 0) (pxa_nil))) (pxa_cons (px_fn c_lifted hr (by decide) (fun z => nomatch z) (pxa_cons (px_var 1) (pxa_nil))) (pxa_cons (px_fn c_lifted hr (by decide) (fun z => nomatch z) (pxa_cons (px_var 2) (pxa_nil))) (pxa_nil)))))))))
abbrev s_told_quarters : Stmt := top 44
theorem sc_told_quarters : FnScope ["part", "whole", "found", "lap"] ["part"] (defScope s_told_quarters) := ⟨rfl, rfl, rfl, by decide +kernel, rfl, by decide +kernel, by decide +kernel⟩
theorem d_told_quarters (G : Gl0 P K mg) (D : DefIn K mg "told_quarters" s_told_quarters) (c_less : Callee P w K mg base T false 3 "less" ["one", "other"] f_less) (c_told_turn_of : Callee P w K mg base T false 3 "told_turn_of" ["half"] f_told_turn_of) (c_told_behind : Callee P w K mg base T false 4 "told_behind" ["one", "other"] f_told_behind) : Callee P w K mg base T false 5 "told_quarters" ["part"] f_told_quarters :=
  callee_of (gd := false) (k := 4) D sc_told_quarters rfl rfl (fun _ _ _ _ _ _ us hl => match us, hl with | [_], _ => rfl) fun f cdv A outer s H E hg hr => pxs_cons (px_set 1 sc_told_quarters.nd (px_div (px_ix (px_var 0) (px_int)) (px_ix (px_var 0) (px_int)))) (pxs_cons (px_set 2 sc_told_quarters.nd (px_fn c_told_turn_of hr (by decide) (fun z => nomatch z) (pxa_cons (px_fn c_less hr (by decide) (fun z => nomatch z) (pxa_cons (px_var 0) (pxa_cons (px_tup (pxa_cons (px_var 1) (pxa_cons (px_int) (pxa_nil)))) (pxa_nil)))) (pxa_nil)))) (pxs_cons (px_for (passes_of rfl) rfl (pxi_range1 rfl G.b_range (pxa_cons (px_var 1) pxa_nil)) (pxg_name 3 sc_told_quarters.nd) (pxs_one (px_set 2 sc_told_quarters.nd (px_fn c_told_behind hr (by decide) (fun z => nomatch z) (pxa_cons (px_var 2) (pxa_cons (px_cst G.c_QUARTER) (pxa_nil))))))) (pxs_one (px_ret (px_var 2)))))
abbrev s_place_at : Stmt := top 45
theorem sc_place_at : FnScope ["one", "fine", "low", "high", "middle"] ["one", "fine"] (defScope s_place_at) := ⟨rfl, rfl, rfl, by decide +kernel, rfl, by decide +kernel, by decide +kernel⟩
theorem d_place_at (G : Gl0 P K mg) (D : DefIn K mg "place_at" s_place_at) (c_rate : Callee P w K mg base T false 2 "rate" ["top", "bottom"] f_rate) (c_told_quarters : Callee P w K mg base T false 5 "told_quarters" ["part"] f_told_quarters) (c_lifted : Callee P w K mg base T false 2 "lifted" ["turn"] f_lifted) (c_is_ahead : Callee P w K mg base T false 5 "is_ahead" ["one", "other"] f_is_ahead) : Callee P w K mg base T false 6 "place_at" ["one", "fine"] f_place_at :=
  callee_of (gd := false) (k := 5) D sc_place_at rfl rfl (fun _ _ _ _ _ _ us hl => match us, hl with | [_, _], _ => rfl) fun f cdv A outer s H E hg hr => pxs_cons (px_par 2 3 rfl sc_place_at.nd (by decide) (pxa_cons (px_int) (pxa_cons (px_mul (px_int) (px_var 1)) (pxa_nil)))) (pxs_cons (px_while (passes_of rfl) (pxt_gt (px_sub (px_var 3) (px_var 2)) (px_int)) (pxs_cons (px_set 4 sc_place_at.nd (px_div (px_add (px_var 2) (px_var 3)) (px_int))) (pxs_one (px_if (pxt_truth (px_fn c_is_ahead hr (by decide) (fun z => nomatch z) (pxa_cons (px_var 0) (pxa_cons (px_fn c_lifted hr (by decide) (fun z => nomatch z) (pxa_cons (px_fn c_told_quarters hr (by decide) (fun z => nomatch z) (pxa_cons (px_fn c_rate hr (by decide) (fun z => nomatch z) (pxa_cons (px_var 4) (pxa_cons (px_var 1) (pxa_nil)))) (pxa_nil))) (pxa_nil))) (pxa_nil))))) (pxs_one (px_set 3 sc_place_at.nd (px_var 4))) (pxs_one (px_set 2 sc_place_at.nd (px_var 4))))))) (pxs_one (px_ret (px_var 2))))
abbrev s_turn_near : Stmt := top 46
theorem sc_turn_near : FnScope ["way", "fine", "one"] ["way", "fine"] (defScope s_turn_near) := ⟨rfl, rfl, rfl, by decide +kernel, rfl, by decide +kernel, by decide +kernel⟩
theorem d_turn_near (G : Gl0 P K mg) (D : DefIn K mg "turn_near" s_turn_near) (c_is_fraction : Callee P w K mg base T false 3 "is_fraction" ["value"] f_is_fraction) (c_is_int : Callee P w K mg base T false 1 "is_int" ["value", "low", "high"] f_is_int) (c_lifted : Callee P w K mg base T false 2 "lifted" ["turn"] f_lifted) (c_place_at : Callee P w K mg base T false 6 "place_at" ["one", "fine"] f_place_at) (c_rate : Callee P w K mg base T false 2 "rate" ["top", "bottom"] f_rate) (c_told_quarters : Callee P w K mg base T false 5 "told_quarters" ["part"] f_told_quarters) : Callee P w K mg base T false 7 "turn_near" ["way", "fine"] f_turn_near :=
  callee_of (gd := false) (k := 6) D sc_turn_near rfl rfl (fun _ _ _ _ _ _ us hl => match us, hl with | [_, _], _ => rfl) fun f cdv A outer s H E hg hr => pxs_cons (px_if (PXW.t (pxw_or (pxt_not (pxt_truth (pb_isinstance G.ex G.b_isinstance (pxa_cons (px_var 0) (pxa_cons (px_ty G.b_tuple (by decide +kernel)) (pxa_nil)))))) (pxw_or (pxt_ne hr (pb_len G.b_len (pxa_cons (px_var 0) (pxa_nil))) (px_int)) (pxw_or (pxt_not (pxt_truth (pb_all rfl G.b_all (pxa_cons (px_comp (own := [("one", 2)]) rfl sc_turn_near.nd (pxi_tup (px_var 0)) (blkOk_by (N := ["way", "fine", "one"]) (sc := defScope s_turn_near) (by decide +kernel)) (fun _ _ _ _ _ => pxg_name 2 sc_turn_near.nd) (fun _ _ _ _ _ => pxts_nil) (fun _ _ _ _ _ => px_fn c_is_fraction hr (by decide) (fun z => nomatch z) (pxa_cons (px_var 2) (pxa_nil))) (by decide)) (pxa_nil))))) (pxw_or1 (pxt_eq hr (px_var 0) (px_tup (pxa_cons (px_cst G.c_ZERO) (pxa_cons (px_cst G.c_ZERO) (pxa_nil)))))))))) (pxs_one (px_raise rfl G.ex_BadTurn hr (px_var 0))) (pxs_nil)) (pxs_cons (px_if (pxt_not (pxt_truth (px_fn c_is_int hr (by decide) (fun z => nomatch z) (pxa_cons (px_var 1) (pxa_cons (px_int) (pxa_cons (px_pow (px_int) (px_int)) (pxa_nil))))))) (pxs_one (px_raise rfl G.ex_BadInt hr (px_var 1))) (pxs_nil)) (pxs_one (px_ret (px_fn c_told_quarters hr (by decide) (fun z => nomatch z) (pxa_cons (px_fn c_rate hr (by decide) (fun z => nomatch z) (pxa_cons (px_fn c_place_at hr (by decide) (fun z => nomatch z) (pxa_cons (px_fn c_lifted hr (by decide) (fun z => nomatch z) (pxa_cons (px_var 0) (pxa_nil))) (pxa_cons (px_var 1) (pxa_nil)))) (pxa_cons (px_var 1) (pxa_nil)))) (pxa_nil))))))
abbrev s_law_pot : Stmt := top 48
theorem sc_law_pot : FnScope ["script", "place", "cell", "own", "small"] ["script", "place"] (defScope s_law_pot) := ⟨rfl, rfl, rfl, by decide +kernel, rfl, by decide +kernel, by decide +kernel⟩
theorem d_law_pot (G : Gl0 P K mg) (D : DefIn K mg "_law_pot" s_law_pot) : Callee P w K mg base T false 1 "_law_pot" ["script", "place"] f_law_pot :=
  callee_of (gd := false) (k := 0) D sc_law_pot rfl rfl (fun _ _ _ _ _ _ us hl => match us, hl with | [_, _], _ => rfl) fun f cdv A outer s H E hg hr => pxs_cons (px_set 2 sc_law_pot.nd (px_ifExp (pxt_lt (px_var 1) (pb_len G.b_len (pxa_cons (px_var 0) (pxa_nil)))) (px_ix (px_var 0) (px_var 1)) (px_add (px_add (px_mod (pb_int G.b_int (pxa_cons (pb_sum rfl G.b_sum (pxa_cons (px_cut (px_var 0) (pxo_none) (pxo_some (px_int))) (pxa_nil))) (pxa_nil))) (px_int)) (px_mul (px_int) (px_var 1))) (px_int)))) (pxs_cons (px_set 3 sc_law_pot.nd (px_mul (px_mod (pb_int G.b_int (pxa_cons (pb_abs G.b_abs (pxa_cons (px_var 2) (pxa_nil))) (pxa_nil))) (px_pow (px_pow (px_int) (px_int)) (px_int))) (pb_int G.b_int (pxa_cons (px_ge (pb_abs G.b_abs (pxa_cons (px_var 2) (pxa_nil))) (px_pow (px_int) (px_int))) (pxa_nil))))) (pxs_cons (px_set 4 sc_law_pot.nd (px_mod (pb_int G.b_int (pxa_cons (px_var 2) (pxa_nil))) (px_int))) (pxs_one (px_ret (px_new (pxa_cons (px_var 3) (pxa_cons (px_mod (pb_int G.b_int (pxa_cons (px_add (px_add (px_mul (px_var 4) (px_int)) (px_mul (px_mul (px_int) (px_var 1)) (px_var 1))) (px_int)) (pxa_nil))) (px_int)) (pxa_cons (px_int) (pxa_nil)))))))))
abbrev s_law_take : Stmt := top 49
theorem sc_law_take : FnScope ["pot", "upto", "prime", "blend", "digit"] ["pot", "upto"] (defScope s_law_take) := ⟨rfl, rfl, rfl, by decide +kernel, rfl, by decide +kernel, by decide +kernel⟩
theorem d_law_take (G : Gl0 P K mg) (D : DefIn K mg "_law_take" s_law_take) : Callee P w K mg base T false 1 "_law_take" ["pot", "upto"] f_law_take :=
  callee_of (gd := false) (k := 0) D sc_law_take rfl rfl (fun _ _ _ _ _ _ us hl => match us, hl with | [_, _], _ => rfl) fun f cdv A outer s H E hg hr => pxs_cons (px_if (pxt_gt (px_ix (px_var 0) (px_int)) (px_int)) (pxs_cons (px_set 4 sc_law_take.nd (px_mod (pb_int G.b_int (pxa_cons (px_ix (px_var 0) (px_int)) (pxa_nil))) (px_var 1))) (pxs_cons (px_sub_set (px_div (px_ix (px_var 0) (px_int)) (px_var 1)) (px_var 0) (px_int)) (pxs_one (px_ret (px_var 4))))) (pxs_nil)) (pxs_cons (px_sub_set (px_add (px_ix (px_var 0) (px_int)) (px_int)) (px_var 0) (px_int)) (pxs_cons (px_set 2 sc_law_take.nd (px_ix (px_lst (pxa_cons (px_int) (pxa_cons (px_int) (pxa_cons (px_int) (pxa_cons (px_int) (pxa_cons (px_int) (pxa_nil))))))) (px_mod (pb_int G.b_int (pxa_cons (px_ix (px_var 0) (px_int)) (pxa_nil))) (px_int)))) (pxs_cons (px_set 3 sc_law_take.nd (px_mod (pb_int G.b_int (pxa_cons (px_pow (pb_int G.b_int (pxa_cons (px_add (px_add (px_ix (px_var 0) (px_int)) (px_mul (px_mul (px_int) (px_ix (px_var 0) (px_int))) (px_ix (px_var 0) (px_int)))) (px_int)) (pxa_nil))) (px_int)) (pxa_nil))) (px_var 2))) (pxs_cons (px_set 3 sc_law_take.nd (px_mod (pb_int G.b_int (pxa_cons (px_mul (px_var 3) (px_add (px_mod (pb_int G.b_int (pxa_cons (px_var 3) (pxa_nil))) (px_int)) (px_mul (px_int) (px_ix (px_var 0) (px_int))))) (pxa_nil))) (px_int))) (pxs_one (px_ret (px_mod (pb_int G.b_int (pxa_cons (px_div (px_var 3) (px_int)) (pxa_nil))) (px_var 1))))))))
abbrev s_law_of : Stmt := top 50
theorem sc_law_of : FnScope ["pot", "some"] ["pot", "some"] (defScope s_law_of) := ⟨rfl, rfl, rfl, by decide +kernel, rfl, by decide +kernel, by decide +kernel⟩
theorem d_law_of (G : Gl0 P K mg) (D : DefIn K mg "_law_of" s_law_of) (c_law_take : Callee P w K mg base T false 1 "_law_take" ["pot", "upto"] f_law_take) : Callee P w K mg base T false 2 "_law_of" ["pot", "some"] f_law_of :=
  callee_of (gd := false) (k := 1) D sc_law_of rfl rfl (fun _ _ _ _ _ _ us hl => match us, hl with | [_, _], _ => rfl) fun f cdv A outer s H E hg hr => pxs_one (px_ret (px_ix (px_var 1) (px_fn c_law_take hr (by decide) (fun z => nomatch z) (pxa_cons (px_var 0) (pxa_cons (pb_len G.b_len (pxa_cons (px_var 1) (pxa_nil))) (pxa_nil))))))
abbrev s_law_cells : Stmt := top 51
theorem sc_law_cells : FnScope ["script", "most"] ["script", "most"] (defScope s_law_cells) := ⟨rfl, rfl, rfl, by decide +kernel, rfl, by decide +kernel, by decide +kernel⟩
theorem d_law_cells (G : Gl0 P K mg) (D : DefIn K mg "_law_cells" s_law_cells) : Callee P w K mg base T false 1 "_law_cells" ["script", "most"] f_law_cells :=
  callee_of (gd := false) (k := 0) D sc_law_cells rfl rfl (fun _ _ _ _ _ _ us hl => match us, hl with | [_, _], _ => rfl) fun f cdv A outer s H E hg hr => pxs_one (px_ret (px_listRg rfl G.b_list (pxr_1 G.b_range (pb_max rfl G.b_max (pxa_cons (px_int) (pxa_cons (pb_min rfl G.b_min (pxa_cons (px_var 1) (pxa_cons (pb_len G.b_len (pxa_cons (px_var 0) (pxa_nil))) (pxa_nil)))) (pxa_nil)))))))
abbrev s_law_is_bool : Stmt := top 53
theorem sc_law_is_bool : FnScope ["answer", "due"] ["answer", "due"] (defScope s_law_is_bool) := ⟨rfl, rfl, rfl, by decide +kernel, rfl, by decide +kernel, by decide +kernel⟩
theorem d_law_is_bool (G : Gl0 P K mg) (D : DefIn K mg "_law_is_bool" s_law_is_bool) : Callee P w K mg base T false 1 "_law_is_bool" ["answer", "due"] f_law_is_bool :=
  callee_of (gd := false) (k := 0) D sc_law_is_bool rfl rfl (fun _ _ _ _ _ _ us hl => match us, hl with | [_, _], _ => rfl) fun f cdv A outer s H E hg hr => pxs_one (px_ret (px_and (pb_isinstance G.ex G.b_isinstance (pxa_cons (px_var 0) (pxa_cons (px_ty G.b_bool (by decide +kernel)) (pxa_nil)))) (px_one (px_eq hr (px_var 0) (px_var 1)))))
abbrev s_law_gcd : Stmt := top 54
theorem sc_law_gcd : FnScope ["one", "other"] ["one", "other"] (defScope s_law_gcd) := ⟨rfl, rfl, rfl, by decide +kernel, rfl, by decide +kernel, by decide +kernel⟩
theorem d_law_gcd (G : Gl0 P K mg) (D : DefIn K mg "_law_gcd" s_law_gcd) : Callee P w K mg base T false 1 "_law_gcd" ["one", "other"] f_law_gcd :=
  callee_of (gd := false) (k := 0) D sc_law_gcd rfl rfl (fun _ _ _ _ _ _ us hl => match us, hl with | [_, _], _ => rfl) fun f cdv A outer s H E hg hr => pxs_cons (px_par 0 1 rfl sc_law_gcd.nd (by decide) (pxa_cons (pb_abs G.b_abs (pxa_cons (px_var 0) (pxa_nil))) (pxa_cons (pb_abs G.b_abs (pxa_cons (px_var 1) (pxa_nil))) (pxa_nil)))) (pxs_cons (px_while (passes_of rfl) (pxt_ne hr (px_var 1) (px_int)) (pxs_one (px_par 0 1 rfl sc_law_gcd.nd (by decide) (pxa_cons (px_var 1) (pxa_cons (px_mod (px_var 0) (px_var 1)) (pxa_nil)))))) (pxs_one (px_ret (px_var 0))))
abbrev s_law_rate : Stmt := top 55
theorem sc_law_rate : FnScope ["top", "bottom", "part"] ["top", "bottom"] (defScope s_law_rate) := ⟨rfl, rfl, rfl, by decide +kernel, rfl, by decide +kernel, by decide +kernel⟩
theorem d_law_rate (G : Gl0 P K mg) (D : DefIn K mg "_law_rate" s_law_rate) (c_law_gcd : Callee P w K mg base T false 1 "_law_gcd" ["one", "other"] f_law_gcd) : Callee P w K mg base T false 2 "_law_rate" ["top", "bottom"] f_law_rate :=
  callee_of (gd := false) (k := 1) D sc_law_rate rfl rfl (fun _ _ _ _ _ _ us hl => match us, hl with | [_, _], _ => rfl) fun f cdv A outer s H E hg hr => pxs_cons (px_set 2 sc_law_rate.nd (px_mul (px_fn c_law_gcd hr (by decide) (fun z => nomatch z) (pxa_cons (px_var 0) (pxa_cons (px_var 1) (pxa_nil)))) (px_ifExp (pxt_gt (px_var 1) (px_int)) (px_int) (px_neg (px_int))))) (pxs_one (px_ret (px_tup (pxa_cons (px_div (px_var 0) (px_var 2)) (pxa_cons (px_div (px_var 1) (px_var 2)) (pxa_nil))))))
abbrev s_law_less : Stmt := top 56
theorem sc_law_less : FnScope ["one", "other"] ["one", "other"] (defScope s_law_less) := ⟨rfl, rfl, rfl, by decide +kernel, rfl, by decide +kernel, by decide +kernel⟩
theorem d_law_less (G : Gl0 P K mg) (D : DefIn K mg "_law_less" s_law_less) (c_law_rate : Callee P w K mg base T false 2 "_law_rate" ["top", "bottom"] f_law_rate) : Callee P w K mg base T false 3 "_law_less" ["one", "other"] f_law_less :=
  callee_of (gd := false) (k := 2) D sc_law_less rfl rfl (fun _ _ _ _ _ _ us hl => match us, hl with | [_, _], _ => rfl) fun f cdv A outer s H E hg hr => pxs_one (px_ret (px_fn c_law_rate hr (by decide) (fun z => nomatch z) (pxa_cons (px_sub (px_mul (px_ix (px_var 0) (px_int)) (px_ix (px_var 1) (px_int))) (px_mul (px_ix (px_var 1) (px_int)) (px_ix (px_var 0) (px_int)))) (pxa_cons (px_mul (px_ix (px_var 0) (px_int)) (px_ix (px_var 1) (px_int))) (pxa_nil)))))
abbrev s_law_times : Stmt := top 57
theorem sc_law_times : FnScope ["one", "other"] ["one", "other"] (defScope s_law_times) := ⟨rfl, rfl, rfl, by decide +kernel, rfl, by decide +kernel, by decide +kernel⟩
theorem d_law_times (G : Gl0 P K mg) (D : DefIn K mg "_law_times" s_law_times) (c_law_rate : Callee P w K mg base T false 2 "_law_rate" ["top", "bottom"] f_law_rate) : Callee P w K mg base T false 3 "_law_times" ["one", "other"] f_law_times :=
  callee_of (gd := false) (k := 2) D sc_law_times rfl rfl (fun _ _ _ _ _ _ us hl => match us, hl with | [_, _], _ => rfl) fun f cdv A outer s H E hg hr => pxs_one (px_ret (px_fn c_law_rate hr (by decide) (fun z => nomatch z) (pxa_cons (px_mul (px_ix (px_var 0) (px_int)) (px_ix (px_var 1) (px_int))) (pxa_cons (px_mul (px_ix (px_var 0) (px_int)) (px_ix (px_var 1) (px_int))) (pxa_nil)))))
abbrev s_law_turn_of : Stmt := top 58
theorem sc_law_turn_of : FnScope ["half", "top", "bottom"] ["half"] (defScope s_law_turn_of) := ⟨rfl, rfl, rfl, by decide +kernel, rfl, by decide +kernel, by decide +kernel⟩
theorem d_law_turn_of (G : Gl0 P K mg) (D : DefIn K mg "_law_turn_of" s_law_turn_of) (c_law_rate : Callee P w K mg base T false 2 "_law_rate" ["top", "bottom"] f_law_rate) : Callee P w K mg base T false 3 "_law_turn_of" ["half"] f_law_turn_of :=
  callee_of (gd := false) (k := 2) D sc_law_turn_of rfl rfl (fun _ _ _ _ _ _ us hl => match us, hl with | [_], _ => rfl) fun f cdv A outer s H E hg hr => pxs_cons (px_asg (px_var 0) (pxg_tup rfl (pxgs_cons (pxg_name 1 sc_law_turn_of.nd) (pxgs_cons (pxg_name 2 sc_law_turn_of.nd) (pxgs_nil))) (gsl_cons (gsl_cons (gsl_nil))))) (pxs_one (px_ret (px_tup (pxa_cons (px_fn c_law_rate hr (by decide) (fun z => nomatch z) (pxa_cons (px_sub (px_mul (px_var 2) (px_var 2)) (px_mul (px_var 1) (px_var 1))) (pxa_cons (px_add (px_mul (px_var 1) (px_var 1)) (px_mul (px_var 2) (px_var 2))) (pxa_nil)))) (pxa_cons (px_fn c_law_rate hr (by decide) (fun z => nomatch z) (pxa_cons (px_mul (px_mul (px_int) (px_var 1)) (px_var 2)) (pxa_cons (px_add (px_mul (px_var 1) (px_var 1)) (px_mul (px_var 2) (px_var 2))) (pxa_nil)))) (pxa_nil))))))
abbrev s_law_quarters : Stmt := top 59
theorem sc_law_quarters : FnScope ["part", "whole", "found", "lap"] ["part"] (defScope s_law_quarters) := ⟨rfl, rfl, rfl, by decide +kernel, rfl, by decide +kernel, by decide +kernel⟩
theorem d_law_quarters (G : Gl0 P K mg) (D : DefIn K mg "_law_quarters" s_law_quarters) (c_law_less : Callee P w K mg base T false 3 "_law_less" ["one", "other"] f_law_less) (c_law_turn_of : Callee P w K mg base T false 3 "_law_turn_of" ["half"] f_law_turn_of) : Callee P w K mg base T false 4 "_law_quarters" ["part"] f_law_quarters :=
  callee_of (gd := false) (k := 3) D sc_law_quarters rfl rfl (fun _ _ _ _ _ _ us hl => match us, hl with | [_], _ => rfl) fun f cdv A outer s H E hg hr => pxs_cons (px_set 1 sc_law_quarters.nd (px_div (px_ix (px_var 0) (px_int)) (px_ix (px_var 0) (px_int)))) (pxs_cons (px_set 2 sc_law_quarters.nd (px_fn c_law_turn_of hr (by decide) (fun z => nomatch z) (pxa_cons (px_fn c_law_less hr (by decide) (fun z => nomatch z) (pxa_cons (px_var 0) (pxa_cons (px_tup (pxa_cons (px_var 1) (pxa_cons (px_int) (pxa_nil)))) (pxa_nil)))) (pxa_nil)))) (pxs_cons (px_for (passes_of rfl) rfl (pxi_range1 rfl G.b_range (pxa_cons (px_var 1) pxa_nil)) (pxg_name 3 sc_law_quarters.nd) (pxs_one (px_set 2 sc_law_quarters.nd (px_tup (pxa_cons (px_fn c_law_less hr (by decide) (fun z => nomatch z) (pxa_cons (px_tup (pxa_cons (px_int) (pxa_cons (px_int) (pxa_nil)))) (pxa_cons (px_ix (px_var 2) (px_int)) (pxa_nil)))) (pxa_cons (px_ix (px_var 2) (px_int)) (pxa_nil))))))) (pxs_one (px_ret (px_var 2)))))
abbrev s_law_spot_near : Stmt := top 60
theorem sc_law_spot_near : FnScope ["way", "fine", "x", "y", "quarter", "lap", "low", "high", "middle", "left"] ["way", "fine"] (defScope s_law_spot_near) := ⟨rfl, rfl, rfl, by decide +kernel, rfl, by decide +kernel, by decide +kernel⟩
theorem d_law_spot_near (G : Gl0 P K mg) (D : DefIn K mg "_law_spot_near" s_law_spot_near) : Callee P w K mg base T false 1 "_law_spot_near" ["way", "fine"] f_law_spot_near :=
  callee_of (gd := false) (k := 0) D sc_law_spot_near rfl rfl (fun _ _ _ _ _ _ us hl => match us, hl with | [_, _], _ => rfl) fun f cdv A outer s H E hg hr => pxs_cons (px_par 2 3 rfl sc_law_spot_near.nd (by decide) (pxa_cons (px_mul (px_ix (px_ix (px_var 0) (px_int)) (px_int)) (px_ix (px_ix (px_var 0) (px_int)) (px_int))) (pxa_cons (px_mul (px_ix (px_ix (px_var 0) (px_int)) (px_int)) (px_ix (px_ix (px_var 0) (px_int)) (px_int))) (pxa_nil)))) (pxs_cons (px_set 4 sc_law_spot_near.nd (px_int)) (pxs_cons (px_for (passes_of rfl) rfl (pxi_range1 rfl G.b_range (pxa_cons (px_int) pxa_nil)) (pxg_name 5 sc_law_spot_near.nd) (pxs_one (px_if (PXW.t (pxw_or (pxt_le (px_var 2) (px_int)) (pxw_or1 (pxt_lt (px_var 3) (px_int))))) (pxs_one (px_par3 2 3 4 rfl sc_law_spot_near.nd (by decide) (by decide) (by decide) (pxa_cons (px_var 3) (pxa_cons (px_neg (px_var 2)) (pxa_cons (px_add (px_var 4) (px_int)) (pxa_nil)))))) (pxs_nil)))) (pxs_cons (px_par 6 7 rfl sc_law_spot_near.nd (by decide) (pxa_cons (px_int) (pxa_cons (px_var 1) (pxa_nil)))) (pxs_cons (px_while (passes_of rfl) (pxt_gt (px_sub (px_var 7) (px_var 6)) (px_int)) (pxs_cons (px_set 8 sc_law_spot_near.nd (px_div (px_add (px_var 6) (px_var 7)) (px_int))) (pxs_cons (px_set 9 sc_law_spot_near.nd (px_sub (px_mul (px_var 1) (px_var 3)) (px_mul (px_var 8) (px_var 2)))) (pxs_one (px_if (PXW.t (pxw_and (pxt_ge (px_var 9) (px_int)) (pxw_and1 (pxt_le (px_mul (px_mul (px_var 8) (px_var 8)) (px_add (px_mul (px_var 2) (px_var 2)) (px_mul (px_var 3) (px_var 3)))) (px_mul (px_var 9) (px_var 9)))))) (pxs_one (px_set 6 sc_law_spot_near.nd (px_var 8))) (pxs_one (px_set 7 sc_law_spot_near.nd (px_var 8)))))))) (pxs_one (px_ret (px_tup (pxa_cons (px_var 4) (pxa_cons (px_var 6) (pxa_nil))))))))))
abbrev s_law_way_drawn : Stmt := top 61
theorem sc_law_way_drawn : FnScope ["pot", "fine", "way", "most", "parts", "small", "turn", "long", "by", "at", "one"] ["pot", "fine"] (defScope s_law_way_drawn) := ⟨rfl, rfl, rfl, by decide +kernel, rfl, by decide +kernel, by decide +kernel⟩
theorem d_law_way_drawn (G : Gl0 P K mg) (D : DefIn K mg "_law_way_drawn" s_law_way_drawn) (c_law_of : Callee P w K mg base T false 2 "_law_of" ["pot", "some"] f_law_of) (c_law_take : Callee P w K mg base T false 1 "_law_take" ["pot", "upto"] f_law_take) (c_law_rate : Callee P w K mg base T false 2 "_law_rate" ["top", "bottom"] f_law_rate) (c_law_quarters : Callee P w K mg base T false 4 "_law_quarters" ["part"] f_law_quarters) : Callee P w K mg base T false 5 "_law_way_drawn" ["pot", "fine"] f_law_way_drawn :=
  (callee_of (gd := false) (k := 4) D sc_law_way_drawn rfl rfl (fun _ _ _ _ _ _ us hl => match us, hl with | [_, _], _ => rfl) fun f cdv A outer s H E hg hr => pxs_cons (px_asg (px_tup (pxa_cons (px_fn c_law_take hr (by decide) (fun z => nomatch z) (pxa_cons (px_var 0) (pxa_cons (px_int) (pxa_nil)))) (pxa_cons (px_fn c_law_of hr (by decide) (fun z => nomatch z) (pxa_cons (px_var 0) (pxa_cons (px_lst (pxa_cons (px_int) (pxa_cons (px_int) (pxa_cons (px_pow (px_int) (px_int)) (pxa_nil))))) (pxa_nil)))) (pxa_nil)))) (pxg_tup rfl (pxgs_cons (pxg_name 2 sc_law_way_drawn.nd) (pxgs_cons (pxg_name 3 sc_law_way_drawn.nd) (pxgs_nil))) (gsl_cons (gsl_cons (gsl_nil))))) (pxs_cons (px_setCompN 4 (own := [("at", 9)]) rfl sc_law_way_drawn.nd (pxi_range1 rfl G.b_range (pxa_cons (px_int) pxa_nil)) (blkOk_by (N := ["pot", "fine", "way", "most", "parts", "small", "turn", "long", "by", "at", "one"]) (sc := defScope s_law_way_drawn) (by decide +kernel)) (fun _ _ _ _ _ => pxg_name 9 sc_law_way_drawn.nd) (fun _ _ _ _ _ => pxts_nil) (fun _ _ _ _ _ => px_fn c_law_rate hr (by decide) (fun z => nomatch z) (pxa_cons (px_sub (pb_int G.b_int (pxa_cons (px_fn c_law_take hr (by decide) (fun z => nomatch z) (pxa_cons (px_var 0) (pxa_cons (px_add (px_mul (px_int) (px_var 3)) (px_int)) (pxa_nil)))) (pxa_nil))) (px_var 3)) (pxa_cons (px_add (px_int) (pb_int G.b_int (pxa_cons (px_fn c_law_take hr (by decide) (fun z => nomatch z) (pxa_cons (px_var 0) (pxa_cons (px_var 3) (pxa_nil)))) (pxa_nil)))) (pxa_nil)))) (by decide) (sw_true rfl rfl rfl (by decide +kernel))) (pxs_cons (px_if (pxt_eq hr (px_var 2) (px_int)) (pxs_one (px_sub_set (px_tup (pxa_cons (px_int) (pxa_cons (px_int) (pxa_nil)))) (px_var 4) (px_fn c_law_take hr (by decide) (fun z => nomatch z) (pxa_cons (px_var 0) (pxa_cons (px_int) (pxa_nil)))))) (pxs_nil)) (pxs_cons (px_if (pxt_eq hr (px_var 2) (px_int)) (pxs_cons (px_set 5 sc_law_way_drawn.nd (px_ifExp (pxt_le (px_var 1) (px_int)) (px_var 1) (px_fn c_law_of hr (by decide) (fun z => nomatch z) (pxa_cons (px_var 0) (pxa_cons (px_lst (pxa_cons (px_int) (pxa_cons (px_int) (pxa_cons (px_int) (pxa_cons (px_add (px_int) (pb_int G.b_int (pxa_cons (px_fn c_law_take hr (by decide) (fun z => nomatch z) (pxa_cons (px_var 0) (pxa_cons (px_int) (pxa_nil)))) (pxa_nil)))) (pxa_nil)))))) (pxa_nil)))))) (pxs_cons (px_set 6 sc_law_way_drawn.nd (px_fn c_law_quarters hr (by decide) (fun z => nomatch z) (pxa_cons (px_fn c_law_rate hr (by decide) (fun z => nomatch z) (pxa_cons (pb_int G.b_int (pxa_cons (px_fn c_law_take hr (by decide) (fun z => nomatch z) (pxa_cons (px_var 0) (pxa_cons (px_mul (px_int) (px_var 5)) (pxa_nil)))) (pxa_nil))) (pxa_cons (px_var 5) (pxa_nil)))) (pxa_nil)))) (pxs_cons (px_set 7 sc_law_way_drawn.nd (pb_max rfl G.b_max (pxa_cons (px_ix (px_ix (px_var 6) (px_int)) (px_int)) (pxa_cons (px_ix (px_ix (px_var 6) (px_int)) (px_int)) (pxa_nil))))) (pxs_cons (px_set 7 sc_law_way_drawn.nd (px_ifExp (pxt_gt (px_var 7) (px_int)) (px_var 7) (px_int))) (pxs_cons (px_setCompN 4 (own := [("one", 10)]) rfl sc_law_way_drawn.nd (pxi_tup (px_var 6)) (blkOk_by (N := ["pot", "fine", "way", "most", "parts", "small", "turn", "long", "by", "at", "one"]) (sc := defScope s_law_way_drawn) (by decide +kernel)) (fun _ _ _ _ _ => pxg_name 10 sc_law_way_drawn.nd) (fun _ _ _ _ _ => pxts_nil) (fun _ _ _ _ _ => px_fn c_law_rate hr (by decide) (fun z => nomatch z) (pxa_cons (px_mul (px_ix (px_var 10) (px_int)) (px_var 7)) (pxa_cons (px_ix (px_var 10) (px_int)) (pxa_nil)))) (by decide) (sw_true rfl rfl rfl (by decide +kernel))) (pxs_cons (px_set 8 sc_law_way_drawn.nd (px_fn c_law_of hr (by decide) (fun z => nomatch z) (pxa_cons (px_var 0) (pxa_cons (px_lst (pxa_cons (px_int) (pxa_cons (px_int) (pxa_cons (px_neg (px_int)) (pxa_nil))))) (pxa_nil))))) (pxs_one (px_set 4 sc_law_way_drawn.nd (px_new (pxa_cons (px_ix (px_var 4) (px_int)) (pxa_cons (px_fn c_law_rate hr (by decide) (fun z => nomatch z) (pxa_cons (px_add (px_ix (px_ix (px_var 4) (px_int)) (px_int)) (px_mul (px_var 8) (px_ix (px_ix (px_var 4) (px_int)) (px_int)))) (pxa_cons (px_ix (px_ix (px_var 4) (px_int)) (px_int)) (pxa_nil)))) (pxa_nil)))))))))))) (pxs_nil)) (pxs_one (px_ret (px_ifExp (pxt_ne hr (px_tup (pxa_cons (px_ix (px_ix (px_var 4) (px_int)) (px_int)) (pxa_cons (px_ix (px_ix (px_var 4) (px_int)) (px_int)) (pxa_nil)))) (px_tup (pxa_cons (px_int) (pxa_cons (px_int) (pxa_nil))))) (px_tup (pxa_cons (px_ix (px_var 4) (px_int)) (pxa_cons (px_ix (px_var 4) (px_int)) (pxa_nil)))) (px_tup (pxa_cons (px_tup (pxa_cons (px_neg (px_int)) (pxa_cons (px_int) (pxa_nil)))) (pxa_cons (px_tup (pxa_cons (px_int) (pxa_cons (px_int) (pxa_nil)))) (pxa_nil))))))))))).drop
abbrev s_law_is_way_right : Stmt := top 62
theorem sc_law_is_way_right : FnScope ["pot", "way", "fine", "quarter", "spot", "due", "part", "longer", "finer", "after", "beyond", "one"] ["pot", "way", "fine"] (defScope s_law_is_way_right) := ⟨rfl, rfl, rfl, by decide +kernel, rfl, by decide +kernel, by decide +kernel⟩
theorem d_law_is_way_right (G : Gl0 P K mg) (D : DefIn K mg "_law_is_way_right" s_law_is_way_right) (c_law_spot_near : Callee P w K mg base T false 1 "_law_spot_near" ["way", "fine"] f_law_spot_near) (c_law_rate : Callee P w K mg base T false 2 "_law_rate" ["top", "bottom"] f_law_rate) (c_law_quarters : Callee P w K mg base T false 4 "_law_quarters" ["part"] f_law_quarters) (c_turn_near : Callee P w K mg base T false 7 "turn_near" ["way", "fine"] f_turn_near) (c_is_from_to : Callee P w K mg base T false 9 "is_from_to" ["low", "turn", "high"] f_is_from_to) (c_law_is_bool : Callee P w K mg base T false 1 "_law_is_bool" ["answer", "due"] f_law_is_bool) (c_law_of : Callee P w K mg base T false 2 "_law_of" ["pot", "some"] f_law_of) (c_law_times : Callee P w K mg base T false 3 "_law_times" ["one", "other"] f_law_times) : Callee P w K mg base T true 10 "_law_is_way_right" ["pot", "way", "fine"] f_law_is_way_right :=
  callee_of (gd := true) (k := 9) D sc_law_is_way_right rfl rfl (fun _ _ _ _ _ _ us hl => match us, hl with | [_, _, _], _ => rfl) fun f cdv A outer s H E hg hr => pxs_cons (px_asg (px_fn c_law_spot_near hr (by decide) (fun z => nomatch z) (pxa_cons (px_var 1) (pxa_cons (px_var 2) (pxa_nil)))) (pxg_tup rfl (pxgs_cons (pxg_name 3 sc_law_is_way_right.nd) (pxgs_cons (pxg_name 4 sc_law_is_way_right.nd) (pxgs_nil))) (gsl_cons (gsl_cons (gsl_nil))))) (pxs_cons (px_set 5 sc_law_is_way_right.nd (px_fn c_law_quarters hr (by decide) (fun z => nomatch z) (pxa_cons (px_fn c_law_rate hr (by decide) (fun z => nomatch z) (pxa_cons (px_add (px_mul (px_var 3) (px_var 2)) (px_var 4)) (pxa_cons (px_var 2) (pxa_nil)))) (pxa_nil)))) (pxs_cons (px_if (pxt_ne hr (pb_repr hr (hg rfl) G.b_repr (pxa_cons (px_fn c_turn_near hr (by decide) (fun z => nomatch z) (pxa_cons (px_var 1) (pxa_cons (px_var 2) (pxa_nil)))) (pxa_nil))) (pb_repr hr (hg rfl) G.b_repr (pxa_cons (px_var 5) (pxa_nil)))) (pxs_one (px_ret (px_bl))) (pxs_nil)) (pxs_cons (px_if (pxt_le (px_var 2) (px_int)) (pxs_cons (px_par 8 9 rfl sc_law_is_way_right.nd (by decide) (pxa_cons (px_fn c_turn_near hr (by decide) (fun z => nomatch z) (pxa_cons (px_var 1) (pxa_cons (px_mul (px_int) (px_var 2)) (pxa_nil)))) (pxa_cons (px_mod (pb_int G.b_int (pxa_cons (px_add (px_add (px_mul (px_var 3) (px_var 2)) (px_var 4)) (px_int)) (pxa_nil))) (px_mul (px_int) (px_var 2))) (pxa_nil)))) (pxs_cons (px_set 10 sc_law_is_way_right.nd (px_fn c_law_quarters hr (by decide) (fun z => nomatch z) (pxa_cons (px_fn c_law_rate hr (by decide) (fun z => nomatch z) (pxa_cons (px_var 9) (pxa_cons (px_var 2) (pxa_nil)))) (pxa_nil)))) (pxs_one (px_if (PXW.t (pxw_or (pxt_not (pxt_truth (px_fn c_law_is_bool hr (by decide) (fun z => nomatch z) (pxa_cons (px_fn c_is_from_to hr (by decide) (fun z => nomatch z) (pxa_cons (px_var 5) (pxa_cons (px_var 8) (pxa_cons (px_var 10) (pxa_nil))))) (pxa_cons (px_bl) (pxa_nil)))))) (pxw_or1 (pxt_eq hr (px_var 8) (px_var 10))))) (pxs_one (px_ret (px_bl))) (pxs_nil))))) (pxs_nil)) (pxs_cons (px_set 6 sc_law_is_way_right.nd (px_fn c_law_of hr (by decide) (fun z => nomatch z) (pxa_cons (px_var 0) (pxa_cons (px_lst (pxa_cons (px_tup (pxa_cons (px_int) (pxa_cons (px_int) (pxa_nil)))) (pxa_cons (px_tup (pxa_cons (px_int) (pxa_cons (px_int) (pxa_nil)))) (pxa_cons (px_tup (pxa_cons (px_int) (pxa_cons (px_int) (pxa_nil)))) (pxa_nil))))) (pxa_nil))))) (pxs_cons (px_set 7 sc_law_is_way_right.nd (pb_tuple G.b_tuple (pxa_cons (px_comp (own := [("one", 11)]) rfl sc_law_is_way_right.nd (pxi_tup (px_var 1)) (blkOk_by (N := ["pot", "way", "fine", "quarter", "spot", "due", "part", "longer", "finer", "after", "beyond", "one"]) (sc := defScope s_law_is_way_right) (by decide +kernel)) (fun _ _ _ _ _ => pxg_name 11 sc_law_is_way_right.nd) (fun _ _ _ _ _ => pxts_nil) (fun _ _ _ _ _ => px_fn c_law_times hr (by decide) (fun z => nomatch z) (pxa_cons (px_var 11) (pxa_cons (px_var 6) (pxa_nil)))) (by decide)) (pxa_nil)))) (pxs_cons (px_if (pxt_truth (pb_all rfl G.b_all (pxa_cons (px_comp (own := [("one", 11)]) rfl sc_law_is_way_right.nd (pxi_tup (px_var 7)) (blkOk_by (N := ["pot", "way", "fine", "quarter", "spot", "due", "part", "longer", "finer", "after", "beyond", "one"]) (sc := defScope s_law_is_way_right) (by decide +kernel)) (fun _ _ _ _ _ => pxg_name 11 sc_law_is_way_right.nd) (fun _ _ _ _ _ => pxts_nil) (fun _ _ _ _ _ => px_and (px_le (pb_abs G.b_abs (pxa_cons (px_ix (px_var 11) (px_int)) (pxa_nil))) (px_pow (px_int) (px_int))) (px_one (px_le (px_ix (px_var 11) (px_int)) (px_pow (px_int) (px_int))))) (by decide)) (pxa_nil)))) (pxs_one (px_ret (px_eq hr (pb_repr hr (hg rfl) G.b_repr (pxa_cons (px_fn c_turn_near hr (by decide) (fun z => nomatch z) (pxa_cons (px_var 7) (pxa_cons (px_var 2) (pxa_nil)))) (pxa_nil))) (pb_repr hr (hg rfl) G.b_repr (pxa_cons (px_var 5) (pxa_nil)))))) (pxs_nil)) (pxs_one (px_ret (px_bl)))))))))
abbrev s_law_right : Stmt := top 63
theorem sc_law_right : FnScope ["pot", "lap", "fine", "way", "odd", "bad", "caught"] ["pot"] (defScope s_law_right) := ⟨rfl, rfl, rfl, by decide +kernel, rfl, by decide +kernel, by decide +kernel⟩
theorem d_law_right (G : Gl0 P K mg) (D : DefInL K mg base T "_law_right" s_law_right) (c_law_take : Callee P w K mg base T false 1 "_law_take" ["pot", "upto"] f_law_take) (c_law_of : Callee P w K mg base T false 2 "_law_of" ["pot", "some"] f_law_of) (c_law_way_drawn : Callee P w K mg base T false 5 "_law_way_drawn" ["pot", "fine"] f_law_way_drawn) (c_law_is_way_right : Callee P w K mg base T true 10 "_law_is_way_right" ["pot", "way", "fine"] f_law_is_way_right) (c_turn_near : Callee P w K mg base T false 7 "turn_near" ["way", "fine"] f_turn_near) : Callee P w K mg base T true 13 "_law_right" ["pot"] f_law_right :=
  callee_ofL (gd := true) (k := 12) D sc_law_right rfl rfl (fun _ _ _ _ _ _ us hl => match us, hl with | [_], _ => rfl) fun f cdv A outer s H E hl hg hr => pxs_cons (px_for (passes_of rfl) rfl (pxi_range1 rfl G.b_range (pxa_cons (px_int) pxa_nil)) (pxg_name 1 sc_law_right.nd) (pxs_cons (px_set 2 sc_law_right.nd (px_fn c_law_of hr (by decide) (fun z => nomatch z) (pxa_cons (px_var 0) (pxa_cons (px_lst (pxa_cons (px_int) (pxa_cons (px_int) (pxa_cons (px_int) (pxa_cons (px_pow (px_int) (px_int)) (pxa_cons (px_add (px_int) (pb_int G.b_int (pxa_cons (px_fn c_law_take hr (by decide) (fun z => nomatch z) (pxa_cons (px_var 0) (pxa_cons (px_pow (px_int) (px_int)) (pxa_nil)))) (pxa_nil)))) (pxa_cons (px_add (px_int) (pb_int G.b_int (pxa_cons (px_fn c_law_take hr (by decide) (fun z => nomatch z) (pxa_cons (px_var 0) (pxa_cons (px_int) (pxa_nil)))) (pxa_nil)))) (pxa_nil)))))))) (pxa_nil))))) (pxs_cons (px_set 3 sc_law_right.nd (px_fn c_law_way_drawn hr (by decide) (fun z => nomatch z) (pxa_cons (px_var 0) (pxa_cons (px_var 2) (pxa_nil))))) (pxs_cons (px_if (pxt_not (pxt_truth (px_fn c_law_is_way_right hr (by decide) hg (pxa_cons (px_var 0) (pxa_cons (px_var 3) (pxa_cons (px_var 2) (pxa_nil))))))) (pxs_one (px_ret (px_bl))) (pxs_nil)) (pxs_cons (px_for (passes_of rfl) rfl (pxi_tup (px_tup (pxa_cons (px_int) (pxa_cons (px_add (px_pow (px_int) (px_int)) (px_int)) (pxa_cons (px_neg (px_int)) (pxa_cons (px_bl) (pxa_nil))))))) (pxg_name 4 sc_law_right.nd) (pxs_cons (px_set 6 sc_law_right.nd (px_ix (px_heard (k := 10) G.ex G.heard hl (hr.mono (by decide)) (show LamX.lamSB (defScope s_law_right) _ = true by decide +kernel) (fun _ _ _ _ _ _ _ hr => px_fn c_turn_near hr (by decide) (fun z => nomatch z) (pxa_cons (px_var 3) (pxa_cons (px_var 4) (pxa_nil))))) (px_int))) (pxs_one (px_if (PXW.t (pxw_or (pxt_not (pxt_truth (pb_isinstance G.ex G.b_isinstance (pxa_cons (px_var 6) (pxa_cons (px_cls G.a_BadInt) (pxa_nil)))))) (pxw_or1 (pxt_ne hr (pb_repr hr (hg rfl) G.b_repr (pxa_cons (px_value G.ex (px_var 6)) (pxa_nil))) (pb_repr hr (hg rfl) G.b_repr (pxa_cons (px_var 4) (pxa_nil))))))) (pxs_one (px_ret (px_bl))) (pxs_nil))))) (pxs_one (px_for (passes_of rfl) rfl (pxi_tup (px_tup (pxa_cons (px_tup (pxa_cons (px_tup (pxa_cons (px_int) (pxa_cons (px_int) (pxa_nil)))) (pxa_cons (px_tup (pxa_cons (px_int) (pxa_cons (px_int) (pxa_nil)))) (pxa_nil)))) (pxa_cons (px_tup (pxa_cons (px_tup (pxa_cons (px_int) (pxa_cons (px_int) (pxa_nil)))) (pxa_cons (px_tup (pxa_cons (px_int) (pxa_cons (px_int) (pxa_nil)))) (pxa_nil)))) (pxa_cons (px_tup (pxa_cons (px_tup (pxa_cons (px_int) (pxa_cons (px_int) (pxa_nil)))) (pxa_cons (px_tup (pxa_cons (px_int) (pxa_cons (px_int) (pxa_nil)))) (pxa_nil)))) (pxa_cons (px_tup (pxa_cons (px_ix (px_var 3) (px_int)) (pxa_cons (px_tup (pxa_cons (px_int) (pxa_cons (px_int) (pxa_nil)))) (pxa_nil)))) (pxa_cons (pb_list G.b_list (pxa_cons (px_var 3) (pxa_nil))) (pxa_nil)))))))) (pxg_name 5 sc_law_right.nd) (pxs_cons (px_set 6 sc_law_right.nd (px_ix (px_heard (k := 10) G.ex G.heard hl (hr.mono (by decide)) (show LamX.lamSB (defScope s_law_right) _ = true by decide +kernel) (fun _ _ _ _ _ _ _ hr => px_fn c_turn_near hr (by decide) (fun z => nomatch z) (pxa_cons (px_var 5) (pxa_cons (px_int) (pxa_nil))))) (px_int))) (pxs_one (px_if (PXW.t (pxw_or (pxt_not (pxt_truth (pb_isinstance G.ex G.b_isinstance (pxa_cons (px_var 6) (pxa_cons (px_cls G.a_BadTurn) (pxa_nil)))))) (pxw_or1 (pxt_ne hr (pb_repr hr (hg rfl) G.b_repr (pxa_cons (px_value G.ex (px_var 6)) (pxa_nil))) (pb_repr hr (hg rfl) G.b_repr (pxa_cons (px_var 5) (pxa_nil))))))) (pxs_one (px_ret (px_bl))) (pxs_nil))))))))))) (pxs_one (px_ret (px_bl)))
abbrev s_law : Stmt := top 64
theorem sc_law : FnScope ["script", "place"] ["script"] (defScope s_law) := ⟨rfl, rfl, rfl, by decide +kernel, rfl, by decide +kernel, by decide +kernel⟩
theorem d_law (G : Gl0 P K mg) (D : DefIn K mg "law" s_law) (c_law_cells : Callee P w K mg base T false 1 "_law_cells" ["script", "most"] f_law_cells) (c_law_pot : Callee P w K mg base T false 1 "_law_pot" ["script", "place"] f_law_pot) (c_law_right : Callee P w K mg base T true 13 "_law_right" ["pot"] f_law_right) : Callee P w K mg base T true 14 "law" ["script"] f_law :=
  callee_of (gd := true) (k := 13) D sc_law rfl rfl (fun _ _ _ _ _ _ us hl => match us, hl with | [_], _ => rfl) fun f cdv A outer s H E hg hr => pxs_one (px_ret (pb_all rfl G.b_all (pxa_cons (px_comp (own := [("place", 1)]) rfl sc_law.nd (pxi_lst (px_fn c_law_cells hr (by decide) (fun z => nomatch z) (pxa_cons (px_var 0) (pxa_cons (px_int) (pxa_nil))))) (blkOk_by (N := ["script", "place"]) (sc := defScope s_law) (by decide +kernel)) (fun _ _ _ _ _ => pxg_name 1 sc_law.nd) (fun _ _ _ _ _ => pxts_nil) (fun _ _ _ _ _ => px_fn c_law_right hr (by decide) hg (pxa_cons (px_fn c_law_pot hr (by decide) (fun z => nomatch z) (pxa_cons (px_var 0) (pxa_cons (px_var 1) (pxa_nil)))) (pxa_nil))) (by decide)) (pxa_nil))))
end
end K18


set_option linter.all false
set_option autoImplicit false
set_option Elab.async false
set_option maxRecDepth 100000
set_option maxHeartbeats 2000000
/-! DLp: the mirror's combinators at work; the greatest common divisor, fractions in lowest terms. -/
namespace DL
open PySem
section
variable (ρ : Env) (S : Sto) (a b c : EF) (t u : TF) (s s' : SF)
@[simp] theorem ap_var (i : Nat) : eVar i ρ S = match ρ[i]? with | some (some d) => .ok d S | _ => .bad := rfl
@[simp] theorem ap_C (d : D) : eC d ρ S = .ok d S := rfl
@[simp] theorem ap_bin (g : D → D → Sto → R D) : eBin g a b ρ S = (a ρ S).bind fun x S => (b ρ S).bind fun y S => g x y S := rfl
@[simp] theorem ap_un (g : D → Sto → R D) : eUn g a ρ S = (a ρ S).bind fun x S => g x S := rfl
@[simp] theorem ap_and : eAnd a b ρ S = (a ρ S).bind fun x S => match x with | .bl true => b ρ S | .bl false => .ok (.bl false) S | _ => .bad := rfl
@[simp] theorem ap_or : eOr a b ρ S = (a ρ S).bind fun x S => match x with | .bl true => .ok (.bl true) S | .bl false => b ρ S | _ => .bad := rfl
@[simp] theorem ap_not : eNot a ρ S = (a ρ S).bind fun x S => match x with | .bl c => .ok (.bl (!c)) S | _ => .bad := rfl
@[simp] theorem ap_if : eIf t a b ρ S = (t ρ S).bind fun c S => match c with | true => a ρ S | false => b ρ S := rfl
@[simp] theorem ap_chain (g h : D → D → Sto → R D) : eChain g h a b c ρ S = (a ρ S).bind fun x S => (b ρ S).bind fun y S => (g x y S).bind fun k S => match k with | .bl true => (c ρ S).bind fun z S => h y z S | .bl false => .ok (.bl false) S | _ => .bad := rfl
@[simp] theorem ap_tOf : tOf a ρ S = (a ρ S).bind fun x S => match x with | .bl c => .ok c S | _ => .bad := rfl
@[simp] theorem ap_tAnd : DL.tAnd t u ρ S = (t ρ S).bind fun c S => match c with | true => u ρ S | false => .ok false S := rfl
@[simp] theorem ap_tOr : DL.tOr t u ρ S = (t ρ S).bind fun c S => match c with | true => .ok true S | false => u ρ S := rfl
@[simp] theorem ap_tNot : DL.tNot t ρ S = (t ρ S).bind fun c S => .ok (!c) S := rfl
@[simp] theorem ap_tTru : tTru a ρ S = (a ρ S).bind fun x S => match truD S x with | some c => .ok c S | none => .bad := rfl
@[simp] theorem ap_nil : aNil ρ S = .ok [] S := rfl
@[simp] theorem ap_cons (r : AF) : aCons a r ρ S = (a ρ S).bind fun x S => (r ρ S).bind fun xs S => .ok (x :: xs) S := rfl
@[simp] theorem ap_tup (r : AF) : eTup r ρ S = (r ρ S).bind fun xs S => if xs.length ≤ 16777216 then .ok (.tup xs) S else .bad := rfl
@[simp] theorem ap_lst (r : AF) : eLst r ρ S = (r ρ S).bind fun xs S => if xs.length ≤ 16777216 then .ok (.lst xs) S else .bad := rfl
@[simp] theorem ap_new (r : AF) : eNew r ρ S = (r ρ S).bind fun xs S => if xs.length ≤ 16777216 then .ok (.loc S.length) (S ++ [xs]) else .bad := rfl
@[simp] theorem ap_call (f : FN) (r : AF) : eCall f r ρ S = (r ρ S).bind fun xs S => f xs S := rfl
@[simp] theorem ap_sNil : sNil ρ S = .nx ρ S := rfl
@[simp] theorem ap_sSeq : sSeq s s' ρ S = (s ρ S).then fun ρ S => s' ρ S := rfl
@[simp] theorem ap_sRet : sRet a ρ S = (a ρ S).st ρ fun d S => .rt d S := rfl
@[simp] theorem ap_sRetN : sRetN ρ S = .rt .non S := rfl
@[simp] theorem ap_sBreak : sBreak ρ S = .bk ρ S := rfl
@[simp] theorem ap_sExpr : sExpr a ρ S = (a ρ S).st ρ fun _ S => .nx ρ S := rfl
@[simp] theorem ap_sIf : sIf t s s' ρ S = (t ρ S).st ρ fun c S => match c with | true => s ρ S | false => s' ρ S := rfl
@[simp] theorem ap_sAsg (g : TgF) : sAsg g a ρ S = (a ρ S).st ρ fun d S => match g d ρ with | some ρ => .nx ρ S | none => .bad := rfl
@[simp] theorem ap_sSet (i : Nat) : sSet i a ρ S = (a ρ S).st ρ fun d S => .nx (ρ.set i (some d)) S := rfl
@[simp] theorem ap_sPar (i j : Nat) (r : AF) : sPar i j r ρ S = (r ρ S).st ρ fun ds S => match ds with | [x, y] => .nx ((ρ.set i (some x)).set j (some y)) S | _ => .bad := rfl
@[simp] theorem ap_sPar3 (i j k : Nat) (r : AF) : sPar3 i j k r ρ S = (r ρ S).st ρ fun ds S => match ds with | [x, y, z] => .nx (((ρ.set i (some x)).set j (some y)).set k (some z)) S | _ => .bad := rfl
@[simp] theorem ap_sSub : sSub a b c ρ S = (c ρ S).st ρ fun v S => (a ρ S).st ρ fun o S => (b ρ S).st ρ fun i S => match setD o i v S with | some S => .nx ρ S | none => .bad := rfl
@[simp] theorem ap_sRaise (x : Str) : sRaise x a ρ S = (a ρ S).st ρ fun v S => .exc x v ρ S := rfl
@[simp] theorem ap_sFor (it : AF) (g : TgF) : sFor it g s ρ S = (it ρ S).st ρ fun ds S => forL g s ds ρ S := rfl
@[simp] theorem ap_tYes : tYes ρ S = .ok true S := rfl
@[simp] theorem ap_comp (vs : List Nat) (it : AF) (g : TgF) : eComp vs it g t a ρ S = (it ρ S).bind fun ds S => if ds.length ≤ 16777216 then (compL vs g t a ρ ds S).bind fun ys S => .ok (.lst ys) S else .bad := rfl
@[simp] theorem ap_wTup : wTup a ρ S = (a ρ S).bind fun x S => match x with | .tup xs => .ok xs S | _ => .bad := rfl
@[simp] theorem ap_wLst : wLst a ρ S = (a ρ S).bind fun x S => match x with | .lst xs => .ok xs S | _ => .bad := rfl
@[simp] theorem ap_listRg (r : AF) : eListRg r ρ S = (r ρ S).bind fun ds S => if ds.length ≤ 16777216 then .ok (.lst ds) S else .bad := rfl
@[simp] theorem ap_none : oNone ρ S = .ok none S := rfl
@[simp] theorem ap_some : oSome a ρ S = (a ρ S).bind fun x S => match x with | .int i => .ok (some i) S | _ => .bad := rfl
end
theorem rng_ok {j : Int} {r : AF} {ρ : Env} {S S' : Sto} (h : r ρ S = .ok [.int j] S') (h1 : 0 ≤ j) (h2 : j ≤ 1000000) : fRange1 r ρ S = .ok (rngL 0 j.toNat) S' := by
  have e : (2 : Int) ^ 62 = 4611686018427387904 := by decide +kernel
  unfold fRange1
  rw [h]
  show (if -(2 ^ 62) ≤ j ∧ j < 2 ^ 62 then R.ok (rngL 0 j.toNat) S' else R.bad) = _
  rw [if_pos (by rw [e]; omega)]
@[simp] theorem g_set (i : Nat) (d : D) (ρ : Env) : gSet i d ρ = some (ρ.set i (some d)) := rfl
@[simp] theorem g_nil (ρ : Env) : gsNil [] ρ = some ρ := rfl
@[simp] theorem g_cons (g : TgF) (r : TgsF) (d : D) (ds : List D) (ρ : Env) : gsCons g r (d :: ds) ρ = (g d ρ).bind fun ρ => r ds ρ := rfl
@[simp] theorem g_tup (r : TgsF) (ds : List D) (ρ : Env) : gTupD r (.tup ds) ρ = r ds ρ := rfl
@[simp] theorem d_add (i j : Int) (S : Sto) : dAdd (.int i) (.int j) S = .ok (.int (i + j)) S := rfl
@[simp] theorem d_sub (i j : Int) (S : Sto) : dSub (.int i) (.int j) S = .ok (.int (i - j)) S := rfl
@[simp] theorem d_neg (i : Int) (S : Sto) : dNeg (.int i) S = .ok (.int (-i)) S := rfl
@[simp] theorem d_lt (i j : Int) (S : Sto) : dLt (.int i) (.int j) S = .ok (.bl (decide (i < j))) S := rfl
@[simp] theorem d_le (i j : Int) (S : Sto) : dLe (.int i) (.int j) S = .ok (.bl (decide (i ≤ j))) S := rfl
@[simp] theorem d_gt (i j : Int) (S : Sto) : dGt (.int i) (.int j) S = .ok (.bl (decide (j < i))) S := rfl
@[simp] theorem d_ge (i j : Int) (S : Sto) : dGe (.int i) (.int j) S = .ok (.bl (decide (j ≤ i))) S := rfl
theorem d_mul {i j : Int} (h : mulOk i j = true) (S : Sto) : dMul (.int i) (.int j) S = .ok (.int (i * j)) S := by
  show (if mulOk i j then _ else _) = _
  rw [if_pos h]
theorem d_div {i j : Int} (h : divOk j = true) (S : Sto) : dDiv (.int i) (.int j) S = .ok (.int (i.fdiv j)) S := by
  show (if divOk j then _ else _) = _
  rw [if_pos h]
theorem d_mod {i j : Int} (h : j ≠ 0) (S : Sto) : dMod (.int i) (.int j) S = .ok (.int (i.fmod j)) S := by
  show (if j ≠ 0 then _ else _) = _
  rw [if_pos h]
@[simp] theorem f_abs (i : Int) (S : Sto) : fAbs [.int i] S = .ok (.int i.natAbs) S := by
  show R.ok (D.int (if i < 0 then -i else i)) S = _
  congr 2; split <;> omega
@[simp] theorem f_int (i : Int) (S : Sto) : fInt [.int i] S = .ok (.int i) S := rfl
@[simp] theorem f_intB (b : Bool) (S : Sto) : fInt [.bl b] S = .ok (.int (b2i b)) S := rfl
theorem at_0 {α : Type} (x : α) (xs : List α) : L2.atI (x :: xs) 0 = some x := by
  unfold L2.atI L2.ixN
  rw [if_pos (Int.le_refl 0), if_pos (by simp)]; rfl
theorem at_1 {α : Type} (x y : α) (xs : List α) : L2.atI (x :: y :: xs) 1 = some y := by
  unfold L2.atI L2.ixN
  rw [if_pos (by decide), if_pos (by simp; omega)]; rfl
theorem at_2 {α : Type} (x y z : α) (xs : List α) : L2.atI (x :: y :: z :: xs) 2 = some z := by
  unfold L2.atI L2.ixN
  rw [if_pos (by decide), if_pos (by simp; omega)]; rfl
@[simp] theorem ix_t0 (x : D) (xs : List D) (S : Sto) : dIx (.tup (x :: xs)) (.int 0) S = .ok x S := by
  show (match L2.atI (x :: xs) 0 with | some d => R.ok d S | none => R.bad) = _
  rw [at_0]
@[simp] theorem ix_t1 (x y : D) (S : Sto) : dIx (.tup [x, y]) (.int 1) S = .ok y S := by
  show (match L2.atI [x, y] 1 with | some d => R.ok d S | none => R.bad) = _
  rw [at_1]
@[simp] theorem len_t (xs : List D) (S : Sto) : fLen [.tup xs] S = .ok (.int xs.length) S := rfl
@[simp] theorem len_l (xs : List D) (S : Sto) : fLen [.lst xs] S = .ok (.int xs.length) S := rfl
/-! ### equality of data -/
theorem eqI (i j : Int) : eqD (.int i) (.int j) = some (decide (i = j)) := by
  unfold eqD
  simp [D.pd, SeqAt.shaped, PyData.eqv, PyData.canLay0, PyData.depth]
  rfl
/-- a fraction, a pair of fractions -/
def F (x : Int × Int) : D := .tup [.int x.1, .int x.2]
def F2 (x y : Int × Int) : D := .tup [F x, F y]
theorem eqF (x y : Int × Int) : eqD (F x) (F y) = some (decide (x = y)) := by
  obtain ⟨a, b⟩ := x; obtain ⟨c, d⟩ := y
  unfold eqD F
  simp [D.pd, D.pdL, SeqAt.shaped, PyData.eqv, PyData.canLay0, PyData.canLayAll0, PyData.depth, PyData.depthAll, PyData.eqvAll]
  try grind
theorem eqF2 (x y u v : Int × Int) : eqD (F2 x y) (F2 u v) = some (decide (x = u ∧ y = v)) := by
  obtain ⟨a, b⟩ := x; obtain ⟨c, d⟩ := y
  unfold eqD F2 F
  simp [D.pd, D.pdL, SeqAt.shaped, PyData.eqv, PyData.canLay0, PyData.canLayAll0, PyData.depth, PyData.depthAll, PyData.eqvAll]
  try grind
/-! ### sizes -/
theorem log_of {i : Int} {n : Nat} (h : i.natAbs < 2 ^ n) (hn : 0 < n) : i.natAbs.log2 < n := by
  by_cases z : i.natAbs = 0
  · rw [z]; simpa using hn
  · exact (Nat.log2_lt z).mpr h
theorem mulOk_of {i j : Int} (h1 : i.natAbs < 2 ^ 400000) (h2 : j.natAbs < 2 ^ 400000) : mulOk i j = true := by
  have a := log_of h1 (by omega)
  have b := log_of h2 (by omega)
  unfold mulOk
  exact decide_eq_true (by omega)
theorem divOk_of {j : Int} (h0 : j ≠ 0) (h : j.natAbs < 2 ^ 9000) : divOk j = true := by
  have a := log_of h (by omega)
  unfold divOk
  exact decide_eq_true ⟨h0, a⟩
end DL


set_option linter.all false
set_option autoImplicit false
set_option Elab.async false
set_option maxRecDepth 100000
set_option maxHeartbeats 2000000
/-! DLq: fractions in lowest terms, whole numbers only. -/
namespace DL
/-- t / b in lowest terms -/
def red (t b : Int) : Int × Int := (t.fdiv (if b < 0 then -(Int.gcd t b : Int) else (Int.gcd t b : Int)), b.fdiv (if b < 0 then -(Int.gcd t b : Int) else (Int.gcd t b : Int)))
structure Low (x : Int × Int) : Prop where
  pos : 0 < x.2
  one : Int.gcd x.1 x.2 = 1
theorem red_spec (t b : Int) (h : b ≠ 0) : ∃ g : Int, g ≠ 0 ∧ t = g * (red t b).1 ∧ b = g * (red t b).2 ∧ Low (red t b) := by
  have hg : 0 < Int.gcd t b := Int.gcd_pos_of_ne_zero_right t h
  obtain ⟨t', ht⟩ := Int.gcd_dvd_left (a := t) (b := b)
  obtain ⟨b', hb⟩ := Int.gcd_dvd_right (a := t) (b := b)
  have hg0 : (Int.gcd t b : Int) ≠ 0 := by omega
  have one : Int.gcd t' b' = 1 := by
    have e : Int.gcd ((Int.gcd t b : Int) * t') ((Int.gcd t b : Int) * b') = Int.gcd t b := by rw [← ht, ← hb]
    rw [Int.gcd_mul_left] at e
    have : Int.gcd t b * Int.gcd t' b' = Int.gcd t b * 1 := by simpa using e
    exact Nat.eq_of_mul_eq_mul_left hg this
  by_cases hn : b < 0
  · have e1 : t.fdiv (-(Int.gcd t b : Int)) = -t' := by
      have : t = (-(Int.gcd t b : Int)) * (-t') := by rw [Int.neg_mul_neg]; exact ht
      conv => lhs; arg 1; rw [this]
      exact Int.mul_fdiv_cancel_left _ (by omega)
    have e2 : b.fdiv (-(Int.gcd t b : Int)) = -b' := by
      have : b = (-(Int.gcd t b : Int)) * (-b') := by rw [Int.neg_mul_neg]; exact hb
      conv => lhs; arg 1; rw [this]
      exact Int.mul_fdiv_cancel_left _ (by omega)
    have er : red t b = (-t', -b') := by unfold red; rw [if_pos hn, e1, e2]
    have hb' : b' < 0 := by
      by_cases z : b' < 0
      · exact z
      · have : 0 ≤ (Int.gcd t b : Int) * b' := Int.mul_nonneg (by omega) (by omega)
        omega
    refine ⟨-(Int.gcd t b : Int), by omega, ?_, ?_, ⟨?_, ?_⟩⟩
    · rw [er]; show t = -(Int.gcd t b : Int) * -t'; rw [Int.neg_mul_neg]; exact ht
    · rw [er]; show b = -(Int.gcd t b : Int) * -b'; rw [Int.neg_mul_neg]; exact hb
    · rw [er]; show 0 < -b'; omega
    · rw [er]; show Int.gcd (-t') (-b') = 1; rw [Int.neg_gcd, Int.gcd_neg]; exact one
  · have e1 : t.fdiv (Int.gcd t b : Int) = t' := by conv => lhs; arg 1; rw [ht]
                                                    exact Int.mul_fdiv_cancel_left _ hg0
    have e2 : b.fdiv (Int.gcd t b : Int) = b' := by conv => lhs; arg 1; rw [hb]
                                                    exact Int.mul_fdiv_cancel_left _ hg0
    have er : red t b = (t', b') := by unfold red; rw [if_neg hn, e1, e2]
    have hb' : 0 < b' := by
      by_cases z : 0 < b'
      · exact z
      · have : (Int.gcd t b : Int) * b' ≤ 0 := Int.mul_nonpos_of_nonneg_of_nonpos (by omega) (by omega)
        omega
    exact ⟨Int.gcd t b, hg0, by rw [er]; exact ht, by rw [er]; exact hb, by rw [er]; exact hb', by rw [er]; exact one⟩
theorem low_uniq {x y : Int × Int} (hx : Low x) (hy : Low y) (h : x.1 * y.2 = y.1 * x.2) : x = y := by
  have key : ∀ {x y : Int × Int}, Low x → Low y → x.1 * y.2 = y.1 * x.2 → x.2.natAbs ∣ y.2.natAbs := fun {x y} hx hy h => by
    have d : x.2.natAbs ∣ x.1.natAbs * y.2.natAbs := by
      rw [← Int.natAbs_mul, h, Int.natAbs_mul]
      exact Nat.dvd_mul_left _ _
    have c : Nat.Coprime x.2.natAbs x.1.natAbs := by
      have := hx.one
      unfold Int.gcd at this
      rw [Nat.coprime_comm]; exact this
    exact c.dvd_of_dvd_mul_left d
  have e : x.2 = y.2 := by
    have := Nat.dvd_antisymm (key hx hy h) (key hy hx h.symm)
    have := hx.pos; have := hy.pos
    omega
  have e1 : x.1 = y.1 := by
    rw [e] at h
    exact Int.eq_of_mul_eq_mul_right (by have := hy.pos; omega) h
  exact Prod.ext e1 e
theorem red_cross (t b : Int) (h : b ≠ 0) : (red t b).1 * b = t * (red t b).2 := by
  obtain ⟨g, g0, e1, e2, _⟩ := red_spec t b h
  generalize red t b = x at *
  rw [e1, e2]; grind
theorem red_low (t b : Int) (h : b ≠ 0) : Low (red t b) := (red_spec t b h).choose_spec.2.2.2
theorem red_eq {t b u d : Int} (hb : b ≠ 0) (hd : d ≠ 0) (h : t * d = u * b) : red t b = red u d := by
  refine low_uniq (red_low t b hb) (red_low u d hd) ?_
  obtain ⟨g, g0, e1, e2, _⟩ := red_spec t b hb
  obtain ⟨k, k0, e3, e4, _⟩ := red_spec u d hd
  generalize red t b = x at *
  generalize red u d = y at *
  have : (g * k) * (x.1 * y.2) = (g * k) * (y.1 * x.2) := by rw [e1, e2, e3, e4] at h; grind
  exact Int.eq_of_mul_eq_mul_left (Int.mul_ne_zero g0 k0) this
theorem red_of_low {x : Int × Int} (h : Low x) : red x.1 x.2 = x := by
  have n : x.2 ≠ 0 := by have := h.pos; omega
  exact low_uniq (red_low _ _ n) h (red_cross _ _ n)
theorem red_ne {t b u d : Int} (hb : b ≠ 0) (hd : d ≠ 0) (h : red t b = red u d) : t * d = u * b := by
  have c1 := red_cross t b hb
  have c2 := red_cross u d hd
  obtain ⟨g, g0, e1, e2, lo⟩ := red_spec t b hb
  obtain ⟨k, k0, e3, e4, _⟩ := red_spec u d hd
  rw [← h] at e3 e4
  generalize red t b = x at *
  rw [e1, e4, e3, e2]; grind
/-- the bottom is not greater, the top neither -/
theorem red_le (t b : Int) (h : b ≠ 0) : (red t b).1.natAbs ≤ t.natAbs ∧ (red t b).2.natAbs ≤ b.natAbs := by
  obtain ⟨g, g0, e1, e2, _⟩ := red_spec t b h
  generalize red t b = x at *
  have hg : 1 ≤ g.natAbs := by omega
  constructor
  · rw [e1, Int.natAbs_mul]; exact Nat.le_mul_of_pos_left _ hg
  · rw [e2, Int.natAbs_mul]; exact Nat.le_mul_of_pos_left _ hg
theorem red_gcd (t b : Int) (h : b ≠ 0) : Int.gcd t b ≤ b.natAbs := Nat.le_of_dvd (by omega) (Int.gcd_dvd_natAbs_right t b)
end DL


set_option linter.all false
set_option autoImplicit false
set_option Elab.async false
set_option maxRecDepth 100000
set_option maxHeartbeats 2000000
/-! DLr: repr. -/
namespace DL
open PySem
theorem okS (s : String) : PyData.strOk (Str.ofString s) = true := by
  rw [Str.ofString_eq_toList]
  unfold PyData.strOk
  simp only [List.all_toArray, List.all_eq_true, List.mem_map, decide_eq_true_eq, forall_exists_index, and_imp, forall_apply_eq_imp_iff₂]
  intro c _
  have := c.valid
  unfold Char.toNat
  rcases this with h | ⟨_, h⟩
  · exact Nat.lt_trans h (by decide)
  · exact h
theorem okApp {a b : Str} (ha : PyData.strOk a = true) (hb : PyData.strOk b = true) : PyData.strOk (a ++ b) = true := by
  unfold PyData.strOk at *
  have e : (a ++ b).cps = a.cps ++ b.cps := rfl
  rw [e, Array.all_append, ha, hb]; rfl
theorem okJoin : ∀ ts : List Str, (∀ t ∈ ts, PyData.strOk t = true) → PyData.strOk (Str.join ", " ts) = true
  | [], _ => by decide +kernel
  | [x], h => h x (by simp)
  | x :: y :: r, h => by
    show PyData.strOk (x ++ Str.ofString ", " ++ Str.join ", " (y :: r)) = true
    exact okApp (okApp (h x (by simp)) (okS _)) (okJoin (y :: r) fun t ht => h t (List.mem_cons_of_mem _ ht))
theorem okFrom : ∀ (ts : List Str) (k : Nat) (acc : Str), PyData.strOk acc = true → (∀ t ∈ ts, PyData.strOk t = true) → PyData.strOk (textFrom k acc ts) = true
  | [], _, _, ha, _ => ha
  | t :: r, k, acc, ha, h => by
    show PyData.strOk (textFrom (k + 1) (acc ++ Str.ofString (if k > 0 then ", " else "") ++ t) r) = true
    refine okFrom r (k + 1) _ (okApp (okApp ha (okS _)) (h t (by simp))) fun u hu => h u (List.mem_cons_of_mem _ hu)
mutual
/-- whole numbers (short), truth values, None, tuples of these -/
def plainP : PyData → Bool
  | .none => true
  | .bool _ => true
  | .int i => decide (i.natAbs < 2 ^ 1900)
  | .tuple xs => plainPs xs
  | .list xs => plainPs xs
  | _ => false
def plainPs : List PyData → Bool
  | [] => true
  | x :: xs => plainP x && plainPs xs
end
mutual
theorem ok_shown : ∀ d : PyData, plainP d = true → PyData.strOk d.shown = true
  | .none, _ => okS _
  | .bool b, _ => by cases b <;> exact okS _
  | .int i, _ => okS _
  | .tuple xs, h => by
    have hx : plainPs xs = true := by simpa [plainP] using h
    have e : (PyData.tuple xs).shown = tupleText (PyData.shownAll xs) := by simp only [PyData.shown]
    rw [e]
    refine okApp (okApp (okS _) (okJoin _ (ok_shownAll xs hx))) (okS _)
  | .str _, h => by simp [plainP] at h
  | .list xs, h => by
    have hx : plainPs xs = true := by simpa [plainP] using h
    have e : (PyData.list xs).shown = listText (PyData.shownAll xs) := by simp only [PyData.shown]
    rw [e]
    exact okApp (okFrom _ 0 _ (okS _) (ok_shownAll xs hx)) (okS _)
  | .dict _, h => by simp [plainP] at h
theorem ok_shownAll : ∀ ds : List PyData, plainPs ds = true → ∀ t ∈ PyData.shownAll ds, PyData.strOk t = true
  | [], _, t, h => by simp [PyData.shownAll] at h
  | x :: xs, hp, t, h => by
    simp only [plainPs, Bool.and_eq_true] at hp
    simp only [PyData.shownAll, List.mem_cons] at h
    rcases h with rfl | h
    · exact ok_shown x hp.1
    · exact ok_shownAll xs hp.2 t h
end
mutual
theorem plain_short : ∀ d : PyData, plainP d = true → d.leavesShort 600 = true ∧ d.showable = true ∧ d.canLay0 = true
  | .none, _ => by simp [PyData.leavesShort, PyData.showable, PyData.canLay0]
  | .bool b, _ => by simp [PyData.leavesShort, PyData.showable, PyData.canLay0]
  | .int i, h => by
    have h : i.natAbs < 2 ^ 1900 := by simpa [plainP] using h
    have h10 : (2 : Nat) ^ 1900 ≤ 10 ^ 580 := by decide +kernel
    refine ⟨?_, ?_, by simp [PyData.canLay0]⟩
    · simp only [PyData.leavesShort, decide_eq_true_eq]
      have e := int_text_length_le10 (k := 580) (a := i) (by decide) (Nat.lt_of_lt_of_le h h10)
      show (Str.ofString (toString i)).length ≤ 600
      have el : (Str.ofString (toString i)).length = (toString i).length := by first | exact ofString_length _ | exact Str.ofString_length _ | exact StrLaws.ofString_length _
      rw [el]
      exact Nat.le_trans e (by decide)
    · have := log_of (i := i) h (by decide)
      simp only [PyData.showable, decide_eq_true_eq]; omega
  | .tuple xs, h => by
    have hx : plainPs xs = true := by simpa [plainP] using h
    obtain ⟨a, b, c⟩ := plains_short xs hx
    simp [PyData.leavesShort, PyData.showable, PyData.canLay0, a, b, c]
  | .str _, h => by simp [plainP] at h
  | .list xs, h => by
    have hx : plainPs xs = true := by simpa [plainP] using h
    obtain ⟨a, b, c⟩ := plains_short xs hx
    simp [PyData.leavesShort, PyData.showable, PyData.canLay0, a, b, c]
  | .dict _, h => by simp [plainP] at h
theorem plains_short : ∀ ds : List PyData, plainPs ds = true → PyData.leavesShortAll 600 ds = true ∧ PyData.showableAll ds = true ∧ PyData.canLayAll0 ds = true
  | [], _ => by simp [PyData.leavesShortAll, PyData.showableAll, PyData.canLayAll0]
  | x :: xs, hp => by
    simp only [plainPs, Bool.and_eq_true] at hp
    obtain ⟨a, b, c⟩ := plain_short x hp.1
    obtain ⟨a', b', c'⟩ := plains_short xs hp.2
    simp [PyData.leavesShortAll, PyData.showableAll, PyData.canLayAll0, a, b, c, a', b', c']
end
/-- repr gives the text t -/
theorem repr_eq {x : D} {p : PyData} (h : x.pd = some p) (hp : plainP p = true) (hb : p.bulk ≤ 1000) (hd : p.depth ≤ 60) (S : Sto) : fRepr [x] S = .ok (.str p.shown) S := by
  obtain ⟨a, b, c⟩ := plain_short p hp
  have l := PyData.shown_le_bulk 600 (by decide) p a
  have l2 : p.shown.length ≤ 16777216 := by omega
  unfold fRepr
  simp [h, b, c, l2, hd]
theorem eqS {x y : Str} (hx : PyData.strOk x = true) (hy : PyData.strOk y = true) : eqD (.str x) (.str y) = some (x == y) := by
  unfold eqD
  simp [D.pd, SeqAt.shaped, PyData.canLay0, hx, hy, PyData.depth, PyData.eqv]
theorem ne_self {x : Str} (hx : PyData.strOk x = true) (S : Sto) : dNe (.str x) (.str x) S = .ok (.bl false) S := by
  unfold dNe
  rw [eqS hx hx]; simp
end DL


set_option linter.all false
set_option autoImplicit false
set_option Elab.async false
set_option maxRecDepth 100000
set_option maxHeartbeats 2000000
/-! DLt: what every plain law uses and no def of a program stands in: sizes, fractions, repr of them, stores of drawn numbers. -/
namespace DL
open PySem
theorem lt9 {n : Nat} (h : n < 2 ^ 9000) : n < 2 ^ 400000 := Nat.lt_of_lt_of_le h (Nat.pow_le_pow_right (by decide) (by omega))
/-- both parts below 2 ^ n -/
structure Sz (n : Nat) (x : Int × Int) : Prop where
  a : x.1.natAbs < 2 ^ n
  b : x.2.natAbs < 2 ^ n
theorem Sz.mono {n m : Nat} {x : Int × Int} (h : Sz n x) (hm : n ≤ m) : Sz m x := ⟨Nat.lt_of_lt_of_le h.a (Nat.pow_le_pow_right (by decide) hm), Nat.lt_of_lt_of_le h.b (Nat.pow_le_pow_right (by decide) hm)⟩
theorem mul_lt {i j : Int} {n m : Nat} (h1 : i.natAbs < 2 ^ n) (h2 : j.natAbs < 2 ^ m) : (i * j).natAbs < 2 ^ (n + m) := by
  rw [Int.natAbs_mul, Nat.pow_add]
  exact Nat.mul_lt_mul'' h1 h2
theorem up_lt {i : Int} {n m : Nat} (h : i.natAbs < 2 ^ n) (hm : n ≤ m) : i.natAbs < 2 ^ m := Nat.lt_of_lt_of_le h (Nat.pow_le_pow_right (by decide) hm)
theorem mul_ok {i j : Int} {n m : Nat} (h1 : i.natAbs < 2 ^ n) (h2 : j.natAbs < 2 ^ m) (hn : n ≤ 400000 := by omega) (hm : m ≤ 400000 := by omega) : mulOk i j = true := mulOk_of (up_lt h1 hn) (up_lt h2 hm)
theorem small_ok {i j : Int} (h1 : i.natAbs < 2 ^ 200) (h2 : j.natAbs < 2 ^ 200) : mulOk i j = true := mul_ok h1 h2
theorem lt_of40 {i : Int} {n : Nat} (h : i.natAbs ≤ 1099511627776) (hn : 41 ≤ n) : i.natAbs < 2 ^ n :=
  Nat.lt_of_lt_of_le (show i.natAbs < 2 ^ 41 by omega) (Nat.pow_le_pow_right (by decide) hn)
/-- parts of at most 2 ^ 40 -/
theorem m40 {i j : Int} (h1 : i.natAbs ≤ 1099511627776) (h2 : j.natAbs ≤ 1099511627776) : mulOk i j = true := mul_ok (n := 41) (m := 41) (lt_of40 h1 (by decide)) (lt_of40 h2 (by decide))
theorem d40 {j : Int} (h0 : j ≠ 0) (h : j.natAbs ≤ 1099511627776) : divOk j = true := divOk_of h0 (lt_of40 h (by decide))
theorem sz_w {w : Int} (h : w.natAbs ≤ 1099511627776) {n : Nat} (hn : 41 ≤ n := by decide) : Sz n (w, 1) := ⟨lt_of40 h hn, lt_of40 (by simp) hn⟩
theorem sz_q {q : Int} (h : q.natAbs ≤ 1099511627776) {n : Nat} (hn : 41 ≤ n := by decide) : Sz n (1, q) := ⟨lt_of40 (by simp) hn, lt_of40 h hn⟩
theorem sz_of {x : Int × Int} (h1 : x.1.natAbs ≤ 1099511627776) (h2 : x.2.natAbs ≤ 1099511627776) {n : Nat} (hn : 41 ≤ n := by decide) : Sz n x := ⟨lt_of40 h1 hn, lt_of40 h2 hn⟩
theorem sqn (a : Int) : 0 ≤ a * a := by
  rcases Int.le_total 0 a with h | h
  · exact Int.mul_nonneg h h
  · exact Int.mul_nonneg_of_nonpos_of_nonpos h h
theorem low_ne {x : Int × Int} (h : Low x) : x.2 ≠ 0 := by have := h.pos; omega
theorem red_sz {a b : Int} {n : Nat} (hb : b ≠ 0) (ha : a.natAbs ≤ b.natAbs) (h : b.natAbs < 2 ^ n) : Sz n (red a b) :=
  ⟨Nat.lt_of_le_of_lt (Nat.le_trans (red_le a b hb).1 ha) h, Nat.lt_of_le_of_lt (red_le a b hb).2 h⟩
theorem red_neg {a n : Int} (hn : n ≠ 0) : red (-a) n = (-(red a n).1, (red a n).2) := by
  refine low_uniq (red_low _ _ hn) ⟨(red_low a n hn).pos, ?_⟩ ?_
  · show Int.gcd (-(red a n).1) (red a n).2 = 1
    rw [Int.neg_gcd]; exact (red_low a n hn).one
  · have c1 := red_cross a n hn
    have c2 := red_cross (-a) n hn
    have : n * ((red (-a) n).1 * (red a n).2) = n * (-(red a n).1 * (red (-a) n).2) := by grind
    exact Int.eq_of_mul_eq_mul_left hn this
theorem red_one {n : Int} (hn : n ≠ 0) : red n n = (1, 1) := by
  refine low_uniq (red_low _ _ hn) ⟨by decide, by decide⟩ ?_
  have := red_cross n n hn
  have e : n * ((red n n).1) = n * (red n n).2 := by grind
  have := Int.eq_of_mul_eq_mul_left hn e
  show (red n n).1 * 1 = 1 * (red n n).2
  omega
theorem red_zero {n : Int} (hn : n ≠ 0) : red 0 n = (0, 1) := by
  have e : red 0 n = red 0 1 := red_eq hn (by decide) (by grind)
  rw [e]; decide
/-- a fraction that is told by one in lowest terms -/
theorem red_is {t b : Int} {x : Int × Int} (hb : b ≠ 0) (hx : Low x) (h : t * x.2 = x.1 * b) : red t b = x := by
  rw [← red_of_low hx]; exact red_eq hb (low_ne hx) h
theorem low_neg {x : Int × Int} (h : Low x) : Low (-x.1, x.2) := ⟨h.pos, by show Int.gcd (-x.1) x.2 = 1; rw [Int.neg_gcd]; exact h.one⟩
theorem low_whole (n : Int) : Low (n, 1) := ⟨Int.one_pos, Int.gcd_one⟩
/-- one of a combination of both -/
theorem low_comb {a b u v : Int} (hb : 0 < b) (h : a * u + b * v = 1) : Low (a, b) := by
  refine ⟨hb, ?_⟩
  have h1 : ((Int.gcd a b : Nat) : Int) ∣ a := Int.gcd_dvd_left _ _
  have h2 : ((Int.gcd a b : Nat) : Int) ∣ b := Int.gcd_dvd_right _ _
  have h3 : ((Int.gcd a b : Nat) : Int) ∣ 1 := by
    rw [← h]; exact Int.dvd_add (Int.dvd_trans h1 (Int.dvd_mul_right _ _)) (Int.dvd_trans h2 (Int.dvd_mul_right _ _))
  have h4 : Int.gcd a b ∣ 1 := by exact_mod_cast h3
  exact Nat.dvd_one.mp h4
/-- a whole number less or more changes nothing -/
theorem low_sub {x : Int × Int} (h : Low x) (w : Int) : Low (x.1 - w * x.2, x.2) := by
  refine ⟨h.pos, ?_⟩
  have := h.one
  show Int.gcd (x.1 - w * x.2) x.2 = 1
  have e : x.1 - w * x.2 = x.1 + -w * x.2 := by grind
  rw [e]; simpa using this
theorem low_flip {x : Int × Int} (h : Low x) (hx : 0 < x.1) : Low (x.2, x.1) := ⟨hx, by show Int.gcd x.2 x.1 = 1; rw [Int.gcd_comm]; exact h.one⟩
/-! ### repr -/
theorem pdF (x : Int × Int) : (F x).pd = some (.tuple [.int x.1, .int x.2]) := by simp [F, D.pd, D.pdL]
theorem rpF {x : Int × Int} (h : Sz 1900 x) (S : Sto) : fRepr [F x] S = .ok (.str (PyData.shown (.tuple [.int x.1, .int x.2]))) S :=
  repr_eq (pdF x) (by simp [plainP, plainPs, h.a, h.b]) (by simp [PyData.bulk, PyData.bulkAll]) (by simp [PyData.depth, PyData.depthAll]) S
theorem okF {x : Int × Int} (h : Sz 1900 x) : PyData.strOk (PyData.shown (.tuple [.int x.1, .int x.2])) = true := ok_shown _ (by simp [plainP, plainPs, h.a, h.b])
theorem rpN (S : Sto) : fRepr [.non] S = .ok (.str (PyData.shown .none)) S := repr_eq (x := .non) rfl rfl (by decide) (by decide) S
theorem okN : PyData.strOk (PyData.shown .none) = true := ok_shown _ rfl
theorem rpI {i : Int} (h : i.natAbs < 2 ^ 1900) (S : Sto) : fRepr [.int i] S = .ok (.str (PyData.shown (.int i))) S := repr_eq (x := .int i) rfl (by simp [plainP, h]) (by simp [PyData.bulk]) (by simp [PyData.depth]) S
theorem okI {i : Int} (h : i.natAbs < 2 ^ 1900) : PyData.strOk (PyData.shown (.int i)) = true := ok_shown _ (by simp [plainP, h])
theorem rpB (b : Bool) (S : Sto) : fRepr [.bl b] S = .ok (.str (PyData.shown (.bool b))) S := repr_eq (x := .bl b) rfl rfl (by simp [PyData.bulk]) (by simp [PyData.depth]) S
theorem okB (b : Bool) : PyData.strOk (PyData.shown (.bool b)) = true := ok_shown _ rfl
theorem evF (a b c d : Int) : PyData.eqv (.tuple [.int a, .int b]) (.tuple [.int c, .int d]) = (decide (a = c) && decide (b = d)) := by
  have h1 : PyData.eqv (.int a) (.int c) = decide (a = c) := by unfold PyData.eqv; rfl
  have h2 : PyData.eqv (.int b) (.int d) = decide (b = d) := by unfold PyData.eqv; rfl
  have h3 : PyData.eqv (.tuple [.int a, .int b]) (.tuple [.int c, .int d]) = (PyData.eqv (.int a) (.int c) && (PyData.eqv (.int b) (.int d) && true)) := by
    simp only [PyData.eqv, PyData.eqvAll]
  rw [h3, h1, h2, Bool.and_true]
theorem dEqF (x y : Int × Int) (S : Sto) : dEq (F x) (F y) S = .ok (.bl (decide (x = y))) S := by unfold dEq; rw [eqF]
theorem dNeF (x y : Int × Int) (S : Sto) : dNe (F x) (F y) S = .ok (.bl (!decide (x = y))) S := by unfold dNe; rw [eqF]
theorem dEqI (i j : Int) (S : Sto) : dEq (.int i) (.int j) S = .ok (.bl (decide (i = j))) S := by unfold dEq; rw [eqI]
theorem dNeI (i j : Int) (S : Sto) : dNe (.int i) (.int j) S = .ok (.bl (!decide (i = j))) S := by unfold dNe; rw [eqI]
theorem eqBl (a b : Bool) : eqD (.bl a) (.bl b) = some (a == b) := by
  cases a <;> cases b <;> rfl
theorem dEqBl (a b : Bool) (S : Sto) : dEq (.bl a) (.bl b) S = .ok (.bl (a == b)) S := by unfold dEq; rw [eqBl]
@[simp] theorem ixF0 (x : Int × Int) (S : Sto) : dIx (F x) (.int 0) S = .ok (.int x.1) S := by unfold F; simp
@[simp] theorem ixF1 (x : Int × Int) (S : Sto) : dIx (F x) (.int 1) S = .ok (.int x.2) S := by unfold F; simp
theorem ix3_0 (x y z : D) (S : Sto) : dIx (.tup [x, y, z]) (.int 0) S = .ok x S := ix_t0 _ _ S
theorem ix3_1 (x y z : D) (S : Sto) : dIx (.tup [x, y, z]) (.int 1) S = .ok y S := by
  show (match L2.atI [x, y, z] 1 with | some d => R.ok d S | none => R.bad) = _
  rw [at_1]
theorem ix3_2 (x y z : D) (S : Sto) : dIx (.tup [x, y, z]) (.int 2) S = .ok z S := by
  show (match L2.atI [x, y, z] 2 with | some d => R.ok d S | none => R.bad) = _
  rw [at_2]
theorem mkF (a b : Int) : D.tup [.int a, .int b] = F (a, b) := rfl
theorem lenF (x : Int × Int) (S : Sto) : fLen [F x] S = .ok (.int 2) S := rfl
/-! ### kinds -/
theorem ki_ii : L2.kitB "int" "int" = some true := by decide +kernel
theorem ki_ib : L2.kitB "int" "bool" = some false := by decide +kernel
theorem ki_bi : L2.kitB "bool" "int" = some true := by decide +kernel
theorem ki_bb : L2.kitB "bool" "bool" = some true := by decide +kernel
theorem ki_ni : L2.kitB "NoneType" "int" = some false := by decide +kernel
theorem ki_ti : L2.kitB "tuple" "int" = some false := by decide +kernel
theorem ki_tt : L2.kitB "tuple" "tuple" = some true := by decide +kernel
theorem ki_lt : L2.kitB "list" "tuple" = some false := by decide +kernel
theorem isIntI (sb : Str → Str → Option Bool) (i : Int) (S : Sto) : fIsi sb [.int i, .ty "int"] S = .ok (.bl true) S := by simp [fIsi, tyD, ki_ii]
theorem isBoolI (sb : Str → Str → Option Bool) (i : Int) (S : Sto) : fIsi sb [.int i, .ty "bool"] S = .ok (.bl false) S := by simp [fIsi, tyD, ki_ib]
theorem isIntB (sb : Str → Str → Option Bool) (i : Bool) (S : Sto) : fIsi sb [.bl i, .ty "int"] S = .ok (.bl true) S := by simp [fIsi, tyD, ki_bi]
theorem isBoolB (sb : Str → Str → Option Bool) (i : Bool) (S : Sto) : fIsi sb [.bl i, .ty "bool"] S = .ok (.bl true) S := by simp [fIsi, tyD, ki_bb]
theorem isIntN (sb : Str → Str → Option Bool) (S : Sto) : fIsi sb [.non, .ty "int"] S = .ok (.bl false) S := by simp [fIsi, tyD, ki_ni]
theorem isIntT (sb : Str → Str → Option Bool) (xs : List D) (S : Sto) : fIsi sb [.tup xs, .ty "int"] S = .ok (.bl false) S := by simp [fIsi, tyD, ki_ti]
theorem isTupT (sb : Str → Str → Option Bool) (xs : List D) (S : Sto) : fIsi sb [.tup xs, .ty "tuple"] S = .ok (.bl true) S := by simp [fIsi, tyD, ki_tt]
theorem isTupL (sb : Str → Str → Option Bool) (xs : List D) (S : Sto) : fIsi sb [.lst xs, .ty "tuple"] S = .ok (.bl false) S := by simp [fIsi, tyD, ki_lt]
theorem isTupF (sb : Str → Str → Option Bool) (x : Int × Int) (S : Sto) : fIsi sb [F x, .ty "tuple"] S = .ok (.bl true) S := isTupT sb _ S
/-! ### numbers drawn -/
theorem ixL0 {S : Sto} {n : Nat} {x y z : D} (h : S[n]? = some [x, y, z]) : dIx (.loc n) (.int 0) S = .ok x S := by
  unfold dIx; simp only [h]; rw [at_0]
theorem ixL1 {S : Sto} {n : Nat} {x y z : D} (h : S[n]? = some [x, y, z]) : dIx (.loc n) (.int 1) S = .ok y S := by
  unfold dIx; simp only [h]; rw [at_1]
theorem ixL2 {S : Sto} {n : Nat} {x y z : D} (h : S[n]? = some [x, y, z]) : dIx (.loc n) (.int 2) S = .ok z S := by
  unfold dIx; simp only [h]; rw [at_2]
theorem st0 {S : Sto} {n : Nat} {x y z v : D} (h : S[n]? = some [x, y, z]) : setD (.loc n) (.int 0) v S = some (S.set n [v, y, z]) := by
  unfold setD; simp only [h]
  have : L2.ixN [x, y, z].length 0 = some 0 := rfl
  rw [this]; rfl
theorem st2 {S : Sto} {n : Nat} {x y z v : D} (h : S[n]? = some [x, y, z]) : setD (.loc n) (.int 2) v S = some (S.set n [x, y, v]) := by
  unfold setD; simp only [h]
  have : L2.ixN [x, y, z].length 2 = some 2 := rfl
  rw [this]; rfl
theorem got {S : Sto} {n : Nat} {l l' : List D} (h : S[n]? = some l) : (S.set n l')[n]? = some l' := List.getElem?_set_self (List.getElem?_eq_some_iff.mp h).1
theorem d_pow {i j : Int} (h : 0 ≤ j ∧ (Builtin.Int.intBits i : Int) * j ≤ 2 ^ 27) (S : Sto) : dPow (.int i) (.int j) S = .ok (.int (i ^ j.toNat)) S := by
  show (if 0 ≤ j ∧ (Builtin.Int.intBits i : Int) * j ≤ 2 ^ 27 then _ else _) = _
  rw [if_pos h]
theorem bits_le {x : Int} {k : Nat} (h : x.natAbs < 2 ^ k) (hk : 0 < k) : Builtin.Int.intBits x ≤ k := by
  have := log_of h hk
  unfold Builtin.Int.intBits
  split <;> omega
theorem fm {a u : Int} (hu : 0 < u) : 0 ≤ a.fmod u ∧ a.fmod u < u := ⟨Int.fmod_nonneg_of_pos _ hu, Int.fmod_lt_of_pos _ hu⟩
theorem p10_6 (S : Sto) : dPow (.int 10) (.int 6) S = .ok (.int 1000000) S := by rw [d_pow (by decide +kernel)]; rfl
theorem p10_3 (S : Sto) : dPow (.int 10) (.int 3) S = .ok (.int 1000) S := by rw [d_pow (by decide +kernel)]; rfl
theorem prime_ix (j : Int) (h0 : 0 ≤ j) (h5 : j < 5) : ∃ p : Int, 0 < p ∧ p < 2 ^ 31 ∧ ∀ S, dIx (.lst [.int 2147483647, .int 2147483629, .int 2147483587, .int 2147483579, .int 2147483563]) (.int j) S = .ok (.int p) S := by
  have : j = 0 ∨ j = 1 ∨ j = 2 ∨ j = 3 ∨ j = 4 := by omega
  rcases this with rfl | rfl | rfl | rfl | rfl
  · exact ⟨2147483647, by decide, by decide, fun _ => rfl⟩
  · exact ⟨2147483629, by decide, by decide, fun _ => rfl⟩
  · exact ⟨2147483587, by decide, by decide, fun _ => rfl⟩
  · exact ⟨2147483579, by decide, by decide, fun _ => rfl⟩
  · exact ⟨2147483563, by decide, by decide, fun _ => rfl⟩
theorem at_ints (ns : List Int) (p : Nat) (h : p < ns.length) : L2.atI (ns.map D.int) (p : Int) = some (.int ns[p]) := by
  unfold L2.atI L2.ixN
  rw [if_pos (by omega), if_pos (by rw [List.length_map]; omega)]
  simp [h]
theorem ints_of (l : List Int) : intsOf (l.map D.int) = some l := by
  induction l with
  | nil => rfl
  | cons a l ih => simp [intsOf, ih]
/-- no list of the store stands within a list of the store -/
def Flat (S : Sto) : Prop := ∀ l ∈ S, D.lowL 0 l = true
mutual
theorem low_mono {n m : Nat} (h : n ≤ m) : ∀ d : D, D.low n d = true → D.low m d = true
  | .loc k, q => by simp only [D.low, decide_eq_true_eq] at q ⊢; omega
  | .tup xs, q => by simp only [D.low] at q ⊢; exact lowL_mono h xs q
  | .lst xs, q => by simp only [D.low] at q ⊢; exact lowL_mono h xs q
  | .exo _ v, q => by simp only [D.low] at q ⊢; exact low_mono h v q
  | .non, _ => by simp [D.low]
  | .bl _, _ => by simp [D.low]
  | .int _, _ => by simp [D.low]
  | .str _, _ => by simp [D.low]
  | .ty _, _ => by simp [D.low]
  | .cls _, _ => by simp [D.low]
  | .fn _, _ => by simp [D.low]
theorem lowL_mono {n m : Nat} (h : n ≤ m) : ∀ ds : List D, D.lowL n ds = true → D.lowL m ds = true
  | [], _ => by simp [D.lowL]
  | x :: xs, q => by
    simp only [D.lowL, Bool.and_eq_true] at q ⊢
    exact ⟨low_mono h x q.1, lowL_mono h xs q.2⟩
end
theorem Flat.all {S : Sto} (h : Flat S) (n : Nat) : S.all (D.lowL n) = true := by
  rw [List.all_eq_true]
  exact fun l hl => lowL_mono (Nat.zero_le n) l (h l hl)
theorem Flat.set {S : Sto} (h : Flat S) (n : Nat) {l : List D} (hl : D.lowL 0 l = true) : Flat (S.set n l) := by
  intro m hm
  rcases List.mem_or_eq_of_mem_set hm with q | q
  · exact h m q
  · rw [q]; exact hl
theorem Flat.app {S : Sto} (h : Flat S) {l : List D} (hl : D.lowL 0 l = true) : Flat (S ++ [l]) := by
  intro m hm
  rcases List.mem_append.mp hm with q | q
  · exact h m q
  · rw [List.mem_singleton.mp q]; exact hl
/-- a def whose own lists are forgotten: it left the store as it was, and hands back no list of its own -/
theorem drop_ok {f : FN} {ds : List D} {d : D} {S S' : Sto} (h : f ds S = .ok d S') (hd : D.low 0 d = true) (hS : S'.take S.length = S) (hF : Flat S) : drop f ds S = .ok d S := by
  unfold drop
  rw [h]
  simp only [hS]
  rw [if_pos]
  rw [Bool.and_eq_true]
  exact ⟨low_mono (Nat.zero_le _) d hd, hF.all _⟩
theorem heard_exc {sub : Str → Str → Option Bool} {e : EF} {ρ : DL.Env} {S S' : Sto} {c : Str} {v : D} (h : e ρ S = .exc c v S') (hs : sub c "ArmError" = some true) : eHeard sub e ρ S = .ok (.tup [.exo c v, .non]) S' := by
  unfold eHeard; rw [h]; simp only [hs, if_true]
theorem isi_exo {sub : Str → Str → Option Bool} {c c' : Str} {b : Bool} (hs : sub c c' = some b) (v : D) (S : Sto) : fIsi sub [.exo c v, .cls c'] S = .ok (.bl b) S := by
  unfold fIsi; simp only [hs]
theorem value_exo {sub : Str → Str → Option Bool} {e : EF} {ρ : DL.Env} {S S' : Sto} {c : Str} {v : D} (h : e ρ S = .ok (.exo c v) S') (hs : sub c c = some true) : eValue sub e ρ S = .ok v S' := by
  unfold eValue; rw [ap_un, h]; simp only [bind_ok, hs, if_true]
/-- the pot in the store, drawn from k times at most -/
def PotAt (S : Sto) (n : Nat) (k : Int) : Prop := (∃ a b c : Int, S[n]? = some [.int a, .int b, .int c] ∧ 0 ≤ a ∧ 0 ≤ b ∧ b < 2 ^ 62 ∧ 0 ≤ c ∧ c ≤ k) ∧ Flat S
theorem PotAt.mono {S : Sto} {n : Nat} {k l : Int} (h : PotAt S n k) (hl : k ≤ l) : PotAt S n l := by
  obtain ⟨⟨a, b, c, h1, h2, h3, h4, h5, h6⟩, hF⟩ := h
  exact ⟨⟨a, b, c, h1, h2, h3, h4, h5, by omega⟩, hF⟩
theorem PotAt.lt {S : Sto} {n : Nat} {k : Int} (h : PotAt S n k) : n < S.length := by
  obtain ⟨⟨a, b, c, e, _⟩, _⟩ := h
  exact (List.getElem?_eq_some_iff.mp e).1
theorem PotAt.app {S : Sto} {n : Nat} {k : Int} (h : PotAt S n k) {l : List D} (hl : D.lowL 0 l = true) : PotAt (S ++ [l]) n k := by
  have hn := h.lt
  obtain ⟨⟨a, b, c, e, r⟩, hF⟩ := h
  exact ⟨⟨a, b, c, by rw [List.getElem?_append_left hn]; exact e, r⟩, hF.app hl⟩
theorem PotAt.set {S : Sto} {n m : Nat} {k : Int} (h : PotAt S n k) (hm : m ≠ n) {l : List D} (hl : D.lowL 0 l = true) : PotAt (S.set m l) n k := by
  obtain ⟨⟨a, b, c, e, r⟩, hF⟩ := h
  exact ⟨⟨a, b, c, by rw [List.getElem?_set_ne hm]; exact e, r⟩, hF.set m hl⟩
theorem PotAt.take {S : Sto} {n m : Nat} {k : Int} (h : PotAt S n k) (hm : n < m) : PotAt (S.take m) n k := by
  obtain ⟨⟨a, b, c, e, r⟩, hF⟩ := h
  exact ⟨⟨a, b, c, by rw [List.getElem?_take, if_pos hm]; exact e, r⟩, fun l hl => hF l (List.mem_of_mem_take hl)⟩
theorem drop_pot {f : FN} {ds : List D} {d : D} {S S' : Sto} {n : Nat} {k : Int} (h : f ds S = .ok d S') (hd : D.low 0 d = true) (P : PotAt S' n k) (hn : n < S.length) : drop f ds S = .ok d (S'.take S.length) ∧ PotAt (S'.take S.length) n k := by
  have Q := P.take hn
  refine ⟨?_, Q⟩
  unfold drop
  rw [h]
  simp only
  rw [if_pos]
  rw [Bool.and_eq_true]
  exact ⟨low_mono (Nat.zero_le _) d hd, Q.2.all _⟩
@[simp] theorem lowF (n : Nat) (x : Int × Int) : D.low n (F x) = true := by simp [F, D.low, D.lowL]
theorem rngL_mem : ∀ (n : Nat) (lo : Int) (d : D), d ∈ rngL lo n → ∃ i : Int, d = .int i ∧ lo ≤ i ∧ i < lo + n
  | 0, _, _, h => by simp [rngL] at h
  | n + 1, lo, d, h => by
    simp only [rngL, List.mem_cons] at h
    rcases h with rfl | h
    · exact ⟨lo, rfl, by omega, by omega⟩
    · obtain ⟨i, e, h1, h2⟩ := rngL_mem n (lo + 1) d h
      exact ⟨i, e, by omega, by omega⟩
@[simp] theorem rngL_len : ∀ (n : Nat) (lo : Int), (rngL lo n).length = n
  | 0, _ => rfl
  | n + 1, lo => by simp [rngL, rngL_len n]
end DL


set_option linter.all false
set_option autoImplicit false
set_option Elab.async false
set_option maxRecDepth 100000
set_option maxHeartbeats 2000000
/-! DLang: vectors of whole numbers in sequence around the circle; the turns at multiples. -/
namespace DL
open PySem
abbrev Vc := Int × Int
def cross (v w : Vc) : Int := v.1 * w.2 - v.2 * w.1
def dotp (v w : Vc) : Int := v.1 * w.1 + v.2 * w.2
/-- 0 from x on up to its back, 1 beyond -/
def hp (v : Vc) : Int := if 0 < v.2 ∨ (v.2 = 0 ∧ 0 < v.1) then 0 else 1
def ahead (v w : Vc) : Prop := hp v < hp w ∨ (hp v = hp w ∧ 0 < cross v w)
def sameW (v w : Vc) : Prop := cross v w = 0 ∧ 0 < dotp v w
instance (v w : Vc) : Decidable (ahead v w) := inferInstanceAs (Decidable (_ ∨ _))
instance (v w : Vc) : Decidable (sameW v w) := inferInstanceAs (Decidable (_ ∧ _))
/-- a quarter on -/
def rotV (v : Vc) : Vc := (-v.2, v.1)
def rotN (v : Vc) : Nat → Vc
  | 0 => v
  | n + 1 => rotV (rotN v n)
/-- the same way, both positive multiples of one -/
def Ray (v w : Vc) : Prop := ∃ k l : Int, 0 < k ∧ 0 < l ∧ k * v.1 = l * w.1 ∧ k * v.2 = l * w.2
theorem Ray.refl (v : Vc) : Ray v v := ⟨1, 1, by decide, by decide, rfl, rfl⟩
theorem Ray.symm {v w : Vc} (h : Ray v w) : Ray w v := by
  obtain ⟨k, l, a, b, c, d⟩ := h
  exact ⟨l, k, b, a, c.symm, d.symm⟩
theorem Ray.trans {u v w : Vc} (h : Ray u v) (h2 : Ray v w) : Ray u w := by
  obtain ⟨k, l, a, b, c, d⟩ := h
  obtain ⟨m, n, e, f, g, i⟩ := h2
  refine ⟨m * k, l * n, Int.mul_pos e a, Int.mul_pos b f, ?_, ?_⟩
  · rw [Int.mul_assoc, c, Int.mul_left_comm, g, ← Int.mul_assoc]
  · rw [Int.mul_assoc, d, Int.mul_left_comm, i, ← Int.mul_assoc]
theorem Ray.rot {v w : Vc} (h : Ray v w) : Ray (rotV v) (rotV w) := by
  obtain ⟨k, l, a, b, c, d⟩ := h
  exact ⟨k, l, a, b, by unfold rotV; simp only [Int.mul_neg]; omega, c⟩
theorem Ray.rotN {v w : Vc} (h : Ray v w) : ∀ n, Ray (rotN v n) (rotN w n)
  | 0 => h
  | n + 1 => (Ray.rotN h n).rot
theorem pos_mul {k a : Int} (hk : 0 < k) : 0 < k * a ↔ 0 < a := by
  constructor
  · intro h
    by_cases c : 0 < a
    · exact c
    · have := Int.mul_nonpos_of_nonneg_of_nonpos (show 0 ≤ k by omega) (show a ≤ 0 by omega); omega
  · exact Int.mul_pos hk
theorem zero_mul {k a : Int} (hk : 0 < k) : k * a = 0 ↔ a = 0 := by
  rw [Int.mul_eq_zero]; omega
theorem Ray.sgn {v w : Vc} (h : Ray v w) : (0 < v.1 ↔ 0 < w.1) ∧ (v.1 = 0 ↔ w.1 = 0) ∧ (0 < v.2 ↔ 0 < w.2) ∧ (v.2 = 0 ↔ w.2 = 0) := by
  obtain ⟨k, l, a, b, c, d⟩ := h
  refine ⟨?_, ?_, ?_, ?_⟩
  · rw [← pos_mul a, c, pos_mul b]
  · rw [← zero_mul a, c, zero_mul b]
  · rw [← pos_mul a, d, pos_mul b]
  · rw [← zero_mul a, d, zero_mul b]
theorem Ray.hp {v w : Vc} (h : Ray v w) : hp v = hp w := by
  obtain ⟨a, b, c, d⟩ := h.sgn
  have e : (0 < v.2 ∨ (v.2 = 0 ∧ 0 < v.1)) ↔ (0 < w.2 ∨ (w.2 = 0 ∧ 0 < w.1)) := by rw [a, c, d]
  unfold DL.hp
  simp only [e]
theorem Ray.cross {v v' w w' : Vc} (h : Ray v v') (k : Ray w w') : (0 < cross v w ↔ 0 < cross v' w') ∧ (cross v w = 0 ↔ cross v' w' = 0) ∧ (0 < dotp v w ↔ 0 < dotp v' w') := by
  obtain ⟨p, q, a, b, c, d⟩ := h
  obtain ⟨r, s, e, f, g, i⟩ := k
  have pr := Int.mul_pos a e
  have qs := Int.mul_pos b f
  have h1 : (p * r) * DL.cross v w = (q * s) * DL.cross v' w' := by
    unfold DL.cross
    have x1 : (p * r) * (v.1 * w.2 - v.2 * w.1) = (p * v.1) * (r * w.2) - (p * v.2) * (r * w.1) := by grind
    have x2 : (q * s) * (v'.1 * w'.2 - v'.2 * w'.1) = (q * v'.1) * (s * w'.2) - (q * v'.2) * (s * w'.1) := by grind
    rw [x1, x2, c, d, g, i]
  have h2 : (p * r) * dotp v w = (q * s) * dotp v' w' := by
    unfold dotp
    have x1 : (p * r) * (v.1 * w.1 + v.2 * w.2) = (p * v.1) * (r * w.1) + (p * v.2) * (r * w.2) := by grind
    have x2 : (q * s) * (v'.1 * w'.1 + v'.2 * w'.2) = (q * v'.1) * (s * w'.1) + (q * v'.2) * (s * w'.2) := by grind
    rw [x1, x2, c, d, g, i]
  refine ⟨?_, ?_, ?_⟩
  · rw [← pos_mul pr, h1, pos_mul qs]
  · rw [← zero_mul pr, h1, zero_mul qs]
  · rw [← pos_mul pr, h2, pos_mul qs]
theorem Ray.ahead {v v' w w' : Vc} (h : Ray v v') (k : Ray w w') : ahead v w ↔ ahead v' w' := by
  unfold DL.ahead
  rw [h.hp, k.hp, (h.cross k).1]
theorem Ray.same {v v' w w' : Vc} (h : Ray v v') (k : Ray w w') : sameW v w ↔ sameW v' w' := by
  unfold sameW
  rw [(h.cross k).2.1, (h.cross k).2.2]
/-- a vector of the first quarter, turned on by q quarters -/
structure Quad (q : Nat) (v x : Vc) : Prop where
  e : v = rotN x q
  h : q < 4
  a : 0 < x.1
  b : 0 ≤ x.2
theorem cross_rot (v w : Vc) : cross (rotV v) (rotV w) = cross v w := by unfold cross rotV; grind
theorem cross_rotN (v w : Vc) : ∀ n, cross (rotN v n) (rotN w n) = cross v w
  | 0 => rfl
  | n + 1 => by show cross (rotV (rotN v n)) (rotV (rotN w n)) = _; rw [cross_rot]; exact cross_rotN v w n
theorem dot_rot (v w : Vc) : dotp (rotV v) (rotV w) = dotp v w := by unfold dotp rotV; grind
theorem dot_rotN (v w : Vc) : ∀ n, dotp (rotN v n) (rotN w n) = dotp v w
  | 0 => rfl
  | n + 1 => by show dotp (rotV (rotN v n)) (rotV (rotN w n)) = _; rw [dot_rot]; exact dot_rotN v w n
theorem Quad.hp {q : Nat} {v x : Vc} (h : Quad q v x) : hp v = if q < 2 then 0 else 1 := by
  obtain ⟨rfl, hq, a, b⟩ := h
  have : q = 0 ∨ q = 1 ∨ q = 2 ∨ q = 3 := by omega
  rcases this with rfl | rfl | rfl | rfl
  · show DL.hp _ = 0; unfold DL.hp; simp only [rotN]; exact if_pos (by omega)
  · show DL.hp _ = 0; unfold DL.hp; simp only [rotN, rotV]; exact if_pos (by omega)
  · show DL.hp _ = 1; unfold DL.hp; simp only [rotN, rotV]; exact if_neg (by omega)
  · show DL.hp _ = 1; unfold DL.hp; simp only [rotN, rotV]; exact if_neg (by omega)
theorem pp {a b c d : Int} (ha : 0 < a) (hb : 0 ≤ b) (hc : 0 < c) (hd : 0 ≤ d) : 0 < a * c + b * d := by
  have := Int.mul_pos ha hc
  have := Int.mul_nonneg hb hd
  omega
/-- which comes first: by quarters, then by the cross product -/
theorem Quad.ahead {q r : Nat} {v w x y : Vc} (h : Quad q v x) (k : Quad r w y) : ahead v w ↔ q < r ∨ (q = r ∧ 0 < DL.cross x y) := by
  have h1 := h.hp
  have h2 := k.hp
  obtain ⟨rfl, hq, a, b⟩ := h
  obtain ⟨rfl, hr, c, d⟩ := k
  have z := pp a b c d
  have key : q ≠ r → (q < 2 ↔ r < 2) → (0 < DL.cross (rotN x q) (rotN y r) ↔ q < r) := by
    intro n e
    have : (q = 0 ∧ r = 1) ∨ (q = 1 ∧ r = 0) ∨ (q = 2 ∧ r = 3) ∨ (q = 3 ∧ r = 2) := by omega
    rcases this with ⟨rfl, rfl⟩ | ⟨rfl, rfl⟩ | ⟨rfl, rfl⟩ | ⟨rfl, rfl⟩
    · simp only [rotN, rotV, DL.cross]; constructor
      · intro _; omega
      · intro _; grind
    · simp only [rotN, rotV, DL.cross]; constructor
      · intro _; grind
      · intro _; omega
    · simp only [rotN, rotV, DL.cross]; constructor
      · intro _; omega
      · intro _; grind
    · simp only [rotN, rotV, DL.cross]; constructor
      · intro _; grind
      · intro _; omega
  unfold DL.ahead
  rw [h1, h2]
  by_cases e : q = r
  · subst e
    rw [cross_rotN]; omega
  · have key := key e
    by_cases s : q < 2 ↔ r < 2
    · have key := key s
      by_cases t : q < 2
      · have : r < 2 := s.mp t
        simp only [t, this, if_true, if_false]
        constructor
        · rintro (z | ⟨_, z⟩)
          · omega
          · exact .inl (key.mp z)
        · rintro (z | ⟨z, _⟩)
          · exact .inr ⟨trivial, key.mpr z⟩
          · exact absurd z e
      · have : ¬ r < 2 := fun z => t (s.mpr z)
        simp only [t, this, if_true, if_false]
        constructor
        · rintro (z | ⟨_, z⟩)
          · omega
          · exact .inl (key.mp z)
        · rintro (z | ⟨z, _⟩)
          · exact .inr ⟨trivial, key.mpr z⟩
          · exact absurd z e
    · by_cases t : q < 2
      · have : ¬ r < 2 := fun z => s ⟨fun _ => z, fun _ => t⟩
        simp only [t, this, if_true, if_false]; omega
      · have : r < 2 := by
          by_cases u : r < 2
          · exact u
          · exact absurd ⟨fun z => absurd z t, fun z => absurd z u⟩ s
        simp only [t, this, if_true, if_false]; omega
theorem same_hp {v w : Vc} (h : sameW v w) : Ray v w := by
  obtain ⟨c, d⟩ := h
  unfold cross at c
  unfold dotp at d
  have hv : 0 < v.1 * v.1 + v.2 * v.2 := by
    by_cases z : v.1 = 0 ∧ v.2 = 0
    · rw [z.1, z.2] at d; simp at d
    · have a := sqn v.1
      have b := sqn v.2
      by_cases y : v.1 = 0
      · have : v.2 * v.2 ≠ 0 := fun q => by rcases Int.mul_eq_zero.mp q with q | q <;> exact z ⟨y, q⟩
        omega
      · have : v.1 * v.1 ≠ 0 := fun q => by rcases Int.mul_eq_zero.mp q with q | q <;> exact y q
        omega
  refine ⟨v.1 * w.1 + v.2 * w.2, v.1 * v.1 + v.2 * v.2, d, hv, ?_, ?_⟩
  · grind
  · grind
theorem Quad.same {q r : Nat} {v w x y : Vc} (h : Quad q v x) (k : Quad r w y) : sameW v w ↔ q = r ∧ DL.cross x y = 0 := by
  constructor
  · intro s
    have R := same_hp s
    have n1 : ¬ DL.ahead v w := fun z => by
      rcases z with z | z
      · rw [R.hp] at z; omega
      · rw [s.1] at z; omega
    have n2 : ¬ DL.ahead w v := fun z => by
      have e : DL.cross w v = - DL.cross v w := by unfold DL.cross; grind
      rcases z with z | z
      · rw [R.hp] at z; omega
      · rw [e, s.1] at z; omega
    rw [h.ahead k] at n1
    rw [k.ahead h] at n2
    have e : DL.cross y x = - DL.cross x y := by unfold DL.cross; grind
    omega
  · rintro ⟨rfl, e⟩
    obtain ⟨rfl, hq, a, b⟩ := h
    obtain ⟨rfl, hr, c, d⟩ := k
    refine ⟨by rw [cross_rotN]; exact e, by rw [dot_rotN]; exact pp a b c d⟩
/-- every vector but none lies in a quarter -/
theorem quad_of (v : Vc) (h : v ≠ (0, 0)) : ∃ q x, Quad q v x := by
  have hn : ¬ (v.1 = 0 ∧ v.2 = 0) := fun z => h (Prod.ext z.1 z.2)
  have : (0 < v.1 ∧ 0 ≤ v.2) ∨ (v.1 ≤ 0 ∧ 0 < v.2) ∨ (v.1 < 0 ∧ v.2 ≤ 0) ∨ (0 ≤ v.1 ∧ v.2 < 0) := by omega
  rcases this with z | z | z | z
  · exact ⟨0, v, rfl, by decide, z.1, z.2⟩
  · exact ⟨1, (v.2, -v.1), by simp [rotN, rotV], by decide, z.2, by simp only; omega⟩
  · exact ⟨2, (-v.1, -v.2), by simp [rotN, rotV], by decide, by simp only; omega, by simp only; omega⟩
  · exact ⟨3, (-v.2, v.1), by simp [rotN, rotV], by decide, by simp only; omega, z.1⟩
/-! ### the turns at multiples: m over f -/
/-- of the first quarter, as a vector -/
def arcV (r f : Int) : Vc := (f * f - r * r, 2 * r * f)
def turnV (m f : Int) : Vc := rotN (arcV (m.fmod f) f) (m.fdiv f).toNat
theorem sq_lt {r f : Int} (h0 : 0 ≤ r) (h : r < f) : r * r < f * f := by
  have a : r * r ≤ r * f := Int.mul_le_mul_of_nonneg_left (by omega) h0
  have b : r * f < f * f := Int.mul_lt_mul_of_pos_right h (by omega)
  omega
theorem turn_quad {m f : Int} (hf : 0 < f) (h0 : 0 ≤ m) (h : m < 4 * f) : Quad (m.fdiv f).toNat (turnV m f) (arcV (m.fmod f) f) := by
  have a := fm (a := m) hf
  have e := Int.fmod_add_mul_fdiv m f
  have d0 : 0 ≤ m.fdiv f := Int.fdiv_nonneg h0 (by omega)
  have d4 : m.fdiv f < 4 := by
    by_cases c : m.fdiv f < 4
    · exact c
    · have : f * 4 ≤ f * m.fdiv f := Int.mul_le_mul_of_nonneg_left (by omega) (by omega)
      omega
  have := sq_lt a.1 a.2
  refine ⟨rfl, by omega, by unfold arcV; simp only; omega, ?_⟩
  unfold arcV; simp only
  exact Int.mul_nonneg (by omega) (by omega)
theorem arc_cross {r s f : Int} (hf : 0 < f) (hr : 0 ≤ r) (hs : 0 ≤ s) : (0 < cross (arcV r f) (arcV s f) ↔ r < s) ∧ (cross (arcV r f) (arcV s f) = 0 ↔ r = s) := by
  have e : cross (arcV r f) (arcV s f) = (2 * f) * ((s - r) * (f * f + r * s)) := by unfold cross arcV; grind
  have ff := Int.mul_pos hf hf
  have rs := Int.mul_nonneg hr hs
  have p : 0 < f * f + r * s := by omega
  have f2 : 0 < 2 * f := by omega
  rw [e, pos_mul f2, zero_mul f2, Int.mul_comm (s - r), pos_mul p, zero_mul p]
  omega
theorem split_lt {m n f : Int} (hf : 0 < f) : m < n ↔ m.fdiv f < n.fdiv f ∨ (m.fdiv f = n.fdiv f ∧ m.fmod f < n.fmod f) := by
  have a := fm (a := m) hf
  have b := fm (a := n) hf
  have e := Int.fmod_add_mul_fdiv m f
  have g := Int.fmod_add_mul_fdiv n f
  generalize m.fdiv f = q at *
  generalize n.fdiv f = r at *
  rcases Int.lt_trichotomy q r with c | c | c
  · have : f * (q + 1) ≤ f * r := Int.mul_le_mul_of_nonneg_left (by omega) (by omega)
    have : f * (q + 1) = f * q + f := by grind
    omega
  · subst c; omega
  · have : f * (r + 1) ≤ f * q := Int.mul_le_mul_of_nonneg_left (by omega) (by omega)
    have : f * (r + 1) = f * r + f := by grind
    omega
theorem turn_ahead {m n f : Int} (hf : 0 < f) (m0 : 0 ≤ m) (m4 : m < 4 * f) (n0 : 0 ≤ n) (n4 : n < 4 * f) : ahead (turnV m f) (turnV n f) ↔ m < n := by
  rw [(turn_quad hf m0 m4).ahead (turn_quad hf n0 n4), (arc_cross hf (fm hf).1 (fm hf).1).1, split_lt hf (m := m) (n := n)]
  have := Int.fdiv_nonneg m0 (show 0 ≤ f by omega)
  have := Int.fdiv_nonneg n0 (show 0 ≤ f by omega)
  omega
theorem turn_same {m n f : Int} (hf : 0 < f) (m0 : 0 ≤ m) (m4 : m < 4 * f) (n0 : 0 ≤ n) (n4 : n < 4 * f) : sameW (turnV m f) (turnV n f) ↔ m = n := by
  rw [(turn_quad hf m0 m4).same (turn_quad hf n0 n4), (arc_cross hf (fm hf).1 (fm hf).1).2]
  have := Int.fdiv_nonneg m0 (show 0 ≤ f by omega)
  have := Int.fdiv_nonneg n0 (show 0 ≤ f by omega)
  have e := Int.fmod_add_mul_fdiv m f
  have g := Int.fmod_add_mul_fdiv n f
  constructor
  · rintro ⟨a, b⟩
    have : m.fdiv f = n.fdiv f := by omega
    rw [← e, ← g, this, b]
  · rintro rfl; exact ⟨rfl, rfl⟩
/-- the last multiple not beyond a vector: quarter, then how far on -/
def le_arc (x : Vc) (r f : Int) : Prop := 2 * r * f * x.1 ≤ (f * f - r * r) * x.2
theorem not_ahead_arc {q : Nat} {v x : Vc} (h : Quad q v x) {m f : Int} (hf : 0 < f) (m0 : 0 ≤ m) (m4 : m < 4 * f) : ¬ ahead v (turnV m f) ↔ m.fdiv f < q ∨ (m.fdiv f = q ∧ le_arc x (m.fmod f) f) := by
  rw [h.ahead (turn_quad hf m0 m4)]
  have := Int.fdiv_nonneg m0 (show 0 ≤ f by omega)
  have e : cross x (arcV (m.fmod f) f) = 2 * m.fmod f * f * x.1 - (f * f - m.fmod f * m.fmod f) * x.2 := by unfold cross arcV; grind
  rw [e]
  unfold le_arc
  omega
theorem le_arc_mono {x : Vc} (a : 0 < x.1) (b : 0 ≤ x.2) {r s f : Int} (hf : 0 < f) (h0 : 0 ≤ r) (h : r ≤ s) (k : le_arc x s f) : le_arc x r f := by
  unfold le_arc at *
  have h1 : 2 * r * f * x.1 ≤ 2 * s * f * x.1 := by
    have : 0 ≤ (2 * f * x.1) * (s - r) := Int.mul_nonneg (Int.mul_nonneg (by omega) (by omega)) (by omega)
    grind
  have h2 : (f * f - s * s) * x.2 ≤ (f * f - r * r) * x.2 := by
    have : 0 ≤ (s - r) * (s + r) * x.2 := Int.mul_nonneg (Int.mul_nonneg (by omega) (by omega)) b
    grind
  omega
/-- told by squares alone -/
theorem le_arc_sq {x : Vc} (a : 0 < x.1) (b : 0 ≤ x.2) {n f : Int} (hf : 0 < f) (h0 : 0 ≤ n) (h : n < f) : le_arc x n f ↔ 0 ≤ f * x.2 - n * x.1 ∧ n * n * (x.1 * x.1 + x.2 * x.2) ≤ (f * x.2 - n * x.1) * (f * x.2 - n * x.1) := by
  unfold le_arc
  have e : (f * x.2 - n * x.1) * (f * x.2 - n * x.1) - n * n * (x.1 * x.1 + x.2 * x.2) = x.2 * ((f * f - n * n) * x.2 - 2 * n * f * x.1) := by grind
  by_cases y0 : x.2 = 0
  · rw [y0] at e ⊢
    have nf : 0 ≤ n * f := Int.mul_nonneg h0 (by omega)
    have nx : 0 ≤ n * x.1 := Int.mul_nonneg h0 (by omega)
    constructor
    · intro z
      have n0 : n = 0 := by
        by_cases c : n = 0
        · exact c
        · have := Int.mul_pos (Int.mul_pos (show 0 < n by omega) hf) a
          have : 2 * n * f * x.1 = 2 * (n * f * x.1) := by grind
          omega
      subst n0; simp
    · rintro ⟨z, _⟩
      have n0 : n = 0 := by
        by_cases c : n = 0
        · exact c
        · have := Int.mul_pos (show 0 < n by omega) a
          omega
      subst n0; simp
  · have yp : 0 < x.2 := by omega
    constructor
    · intro z
      have p1 : 0 ≤ x.2 * ((f * f - n * n) * x.2 - 2 * n * f * x.1) := Int.mul_nonneg b (by omega)
      refine ⟨?_, by omega⟩
      have p2 : 0 ≤ f * (f * x.2 - n * x.1) := by
        have : 0 ≤ n * n * x.2 := Int.mul_nonneg (Int.mul_nonneg h0 h0) b
        have : 0 ≤ n * f * x.1 := Int.mul_nonneg (Int.mul_nonneg h0 (by omega)) (by omega)
        grind
      by_cases c : 0 ≤ f * x.2 - n * x.1
      · exact c
      · have := Int.mul_neg_of_pos_of_neg hf (show f * x.2 - n * x.1 < 0 by omega); omega
    · rintro ⟨_, z⟩
      have p1 : 0 ≤ x.2 * ((f * f - n * n) * x.2 - 2 * n * f * x.1) := by omega
      by_cases c : 0 ≤ (f * f - n * n) * x.2 - 2 * n * f * x.1
      · omega
      · have := Int.mul_neg_of_pos_of_neg yp (show (f * f - n * n) * x.2 - 2 * n * f * x.1 < 0 by omega); omega
/-! ### vectors and turns of fractions -/
def vec (a b : Int × Int) : Vc := (a.1 * b.2, b.1 * a.2)
structure VF (x y : Int × Int) : Prop where
  a : Sz 1100 x
  b : Sz 1100 y
  pa : 0 < x.2
  pb : 0 < y.2
/-- a fraction, a vector as elements -/
def PL (x : Int × Int) : D := .tup [F x, F (0, 1), .int 0]
def LF (a b : Int × Int) : D := .tup [PL a, PL b]
def sgI (a : Int) : Int := if a = 0 then 0 else if 0 < a then 1 else -1
theorem sgI_pos (a : Int) : 0 < sgI a ↔ 0 < a := by unfold sgI; split <;> (try split) <;> omega
theorem sgI_0 : sgI 0 = 0 := rfl
theorem sgI_zero (a : Int) : sgI a = 0 ↔ a = 0 := by unfold sgI; split <;> (try split) <;> omega
def btw (l o h : Vc) : Bool := if sameW l o ∨ sameW h o then false else if sameW l h then true else decide (b2i (decide (ahead l o)) + b2i (decide (ahead o h)) + b2i (decide (ahead h l)) = 2)
def fromToV (l o h : Vc) : Bool := if sameW l h then decide (sameW l o) else decide (sameW l o) || (decide (sameW h o) || btw l o h)
abbrev Tn := (Int × Int) × (Int × Int)
def rotF (t : Tn) : Tn := ((-t.2.1, t.2.2), t.1)
def rotFN (t : Tn) : Nat → Tn
  | 0 => t
  | n + 1 => rotF (rotFN t n)
/-- of the tangent of half the angle -/
def arcF (h : Int × Int) : Tn := (red (h.2 * h.2 - h.1 * h.1) (h.1 * h.1 + h.2 * h.2), red (2 * h.1 * h.2) (h.1 * h.1 + h.2 * h.2))
/-- at a fraction of the circle of four quarters -/
def turnF (p : Int × Int) : Tn := rotFN (arcF (p.1 - p.1.fdiv p.2 * p.2, p.2)) (p.1.fdiv p.2).toNat
/-- two fractions whose squares are one together, below 2 ^ n -/
structure IsT (n : Nat) (t : Tn) : Prop where
  la : Low t.1
  lb : Low t.2
  sq : t.1.1 * t.1.1 * (t.2.2 * t.2.2) + t.2.1 * t.2.1 * (t.1.2 * t.1.2) = t.1.2 * t.1.2 * (t.2.2 * t.2.2)
  sa : Sz n t.1
  sb : Sz n t.2
theorem IsT.rot {n : Nat} {t : Tn} (h : IsT n t) : IsT n (rotF t) := by
  refine ⟨low_neg h.lb, h.la, ?_, ⟨by have := h.sb.a; simp only [rotF]; rw [Int.natAbs_neg]; exact this, h.sb.b⟩, h.sa⟩
  have := h.sq
  simp only [rotF]; grind
theorem IsT.rotN {n : Nat} {t : Tn} (h : IsT n t) : ∀ k, IsT n (rotFN t k)
  | 0 => h
  | k + 1 => (IsT.rotN h k).rot
theorem IsT.vf {n : Nat} {t : Tn} (h : IsT n t) (hn : n ≤ 1100) : VF t.1 t.2 := ⟨h.sa.mono hn, h.sb.mono hn, h.la.pos, h.lb.pos⟩
theorem nsq_pos {a b : Int} (h : b ≠ 0) : 0 < a * a + b * b := by
  have := sqn a
  have : 0 < b * b := by
    have := sqn b
    have : b * b ≠ 0 := fun q => by rcases Int.mul_eq_zero.mp q with q | q <;> exact h q
    omega
  omega
theorem arc_le (h : Int × Int) : (h.2 * h.2 - h.1 * h.1).natAbs ≤ (h.1 * h.1 + h.2 * h.2).natAbs ∧ (2 * h.1 * h.2).natAbs ≤ (h.1 * h.1 + h.2 * h.2).natAbs := by
  have a := sqn h.1
  have b := sqn h.2
  have c : 0 ≤ (h.1 - h.2) * (h.1 - h.2) := sqn _
  have d : 0 ≤ (h.1 + h.2) * (h.1 + h.2) := sqn _
  have e1 : (h.1 - h.2) * (h.1 - h.2) = h.1 * h.1 + h.2 * h.2 - 2 * h.1 * h.2 := by grind
  have e2 : (h.1 + h.2) * (h.1 + h.2) = h.1 * h.1 + h.2 * h.2 + 2 * h.1 * h.2 := by grind
  omega
theorem red_ones {A B n : Int} (hn : n ≠ 0) (h : A * A + B * B = n * n) : (red A n).1 * (red A n).1 * ((red B n).2 * (red B n).2) + (red B n).1 * (red B n).1 * ((red A n).2 * (red A n).2) = (red A n).2 * (red A n).2 * ((red B n).2 * (red B n).2) := by
  have c1 := red_cross A n hn
  have c2 := red_cross B n hn
  generalize red A n = a at *
  generalize red B n = b at *
  have key : (n * n) * (a.1 * a.1 * (b.2 * b.2) + b.1 * b.1 * (a.2 * a.2)) = (n * n) * (a.2 * a.2 * (b.2 * b.2)) := by
    have x1 : (n * n) * (a.1 * a.1 * (b.2 * b.2) + b.1 * b.1 * (a.2 * a.2)) = (a.1 * n) * (a.1 * n) * (b.2 * b.2) + (b.1 * n) * (b.1 * n) * (a.2 * a.2) := by grind
    rw [x1, c1, c2, ← h]; grind
  exact Int.eq_of_mul_eq_mul_left (Int.mul_ne_zero hn hn) key
theorem arc_isT {h : Int × Int} (h2 : h.2 ≠ 0) {n : Nat} (hz : (h.1 * h.1 + h.2 * h.2).natAbs < 2 ^ n) : IsT n (arcF h) := by
  have np := nsq_pos (a := h.1) h2
  have nz : h.1 * h.1 + h.2 * h.2 ≠ 0 := by omega
  have l := arc_le h
  exact ⟨red_low _ _ nz, red_low _ _ nz, red_ones nz (by grind), red_sz nz l.1 hz, red_sz nz l.2 hz⟩
theorem arc_ray {h : Int × Int} (h2 : h.2 ≠ 0) : Ray (vec (arcF h).1 (arcF h).2) (arcV h.1 h.2) := by
  have np := nsq_pos (a := h.1) h2
  have nz : h.1 * h.1 + h.2 * h.2 ≠ 0 := by omega
  have c1 := red_cross (h.2 * h.2 - h.1 * h.1) _ nz
  have c2 := red_cross (2 * h.1 * h.2) _ nz
  have p1 := (red_low (h.2 * h.2 - h.1 * h.1) _ nz).pos
  have p2 := (red_low (2 * h.1 * h.2) _ nz).pos
  refine ⟨h.1 * h.1 + h.2 * h.2, (arcF h).1.2 * (arcF h).2.2, np, Int.mul_pos p1 p2, ?_, ?_⟩
  · show _ * ((red (h.2 * h.2 - h.1 * h.1) (h.1 * h.1 + h.2 * h.2)).1 * (red (2 * h.1 * h.2) (h.1 * h.1 + h.2 * h.2)).2) = (red (h.2 * h.2 - h.1 * h.1) (h.1 * h.1 + h.2 * h.2)).2 * (red (2 * h.1 * h.2) (h.1 * h.1 + h.2 * h.2)).2 * (h.2 * h.2 - h.1 * h.1)
    generalize red (h.2 * h.2 - h.1 * h.1) (h.1 * h.1 + h.2 * h.2) = a at *
    generalize red (2 * h.1 * h.2) (h.1 * h.1 + h.2 * h.2) = b at *
    grind
  · show _ * ((red (2 * h.1 * h.2) (h.1 * h.1 + h.2 * h.2)).1 * (red (h.2 * h.2 - h.1 * h.1) (h.1 * h.1 + h.2 * h.2)).2) = (red (h.2 * h.2 - h.1 * h.1) (h.1 * h.1 + h.2 * h.2)).2 * (red (2 * h.1 * h.2) (h.1 * h.1 + h.2 * h.2)).2 * (2 * h.1 * h.2)
    generalize red (h.2 * h.2 - h.1 * h.1) (h.1 * h.1 + h.2 * h.2) = a at *
    generalize red (2 * h.1 * h.2) (h.1 * h.1 + h.2 * h.2) = b at *
    grind
theorem vec_rot (t : Tn) : vec (rotF t).1 (rotF t).2 = rotV (vec t.1 t.2) := by
  unfold vec rotF rotV; simp only [Int.neg_mul]
theorem vec_rotN (t : Tn) : ∀ n, vec (rotFN t n).1 (rotFN t n).2 = rotN (vec t.1 t.2) n
  | 0 => rfl
  | n + 1 => by show vec (rotF (rotFN t n)).1 (rotF (rotFN t n)).2 = rotV _; rw [vec_rot, vec_rotN t n]
theorem turn_ray {m f : Int} (hf : 0 < f) : Ray (vec (turnF (red m f)).1 (turnF (red m f)).2) (turnV m f) := by
  obtain ⟨g, g0, e1, e2, lo⟩ := red_spec m f (by omega)
  generalize red m f = p at *
  have pp := lo.pos
  have gp : 0 < g := by
    by_cases c : 0 < g
    · exact c
    · have := Int.mul_nonpos_of_nonpos_of_nonneg (show g ≤ 0 by omega) (show 0 ≤ p.2 by omega); omega
  have d : m.fdiv f = p.1.fdiv p.2 := by
    rw [e1, e2]; exact Int.mul_fdiv_mul_of_pos _ _ gp
  have r : m.fmod f = g * (p.1 - p.1.fdiv p.2 * p.2) := by
    have := Int.fmod_add_mul_fdiv m f
    rw [d] at this
    have h : m.fmod f = m - f * p.1.fdiv p.2 := by omega
    rw [h, e1, e2]; grind
  unfold turnF turnV
  rw [vec_rotN, d, r, e2]
  refine Ray.rotN ((arc_ray (by simp only; omega)).trans ?_) _
  exact ⟨g * g, 1, Int.mul_pos gp gp, by decide, by unfold arcV; simp only; grind, by unfold arcV; simp only; grind⟩
theorem turn_isT {p : Int × Int} (l : Low p) {n : Nat} (h : p.2.natAbs < 2 ^ n) : IsT (2 * n + 1) (turnF p) := by
  have pp := l.pos
  have fl := fm (a := p.1) pp
  have e := Int.fmod_add_mul_fdiv p.1 p.2
  have r : p.1 - p.1.fdiv p.2 * p.2 = p.1.fmod p.2 := by
    have : p.1.fdiv p.2 * p.2 = p.2 * p.1.fdiv p.2 := Int.mul_comm _ _
    omega
  refine IsT.rotN (arc_isT (by simp only; omega) ?_) _
  simp only [r]
  have a : (p.1.fmod p.2 * p.1.fmod p.2).natAbs < 2 ^ (n + n) := mul_lt (by omega) (by omega)
  have b : (p.2 * p.2).natAbs < 2 ^ (n + n) := mul_lt h h
  have : 2 ^ (2 * n + 1) = 2 ^ (n + n) + 2 ^ (n + n) := by rw [Nat.pow_succ, show 2 * n = n + n by omega]; omega
  omega
end DL


set_option linter.all false
set_option autoImplicit false
set_option Elab.async false
set_option maxRecDepth 100000
set_option maxHeartbeats 4000000
/-! what the common defs of K18 do, printed by tmpl.py -/
namespace K18
open PySem DL
theorem gcd_loop (S : Sto) : ∀ (n m : Nat), sWhile (tOf (eBin dNe (eVar 1) (eC (.int 0)))) (sPar 0 1 (aCons (eVar 1) (aCons (eBin dMod (eVar 0) (eVar 1)) (aNil)))) [some (.int (m : Int)), some (.int (n : Int))] S = .nx [some (.int (Nat.gcd m n : Nat)), some (.int 0)] S := by
  intro n
  induction n using Nat.strongRecOn with
  | _ n ih =>
    intro m
    rw [sWhile_eq]
    by_cases hn : n = 0
    · subst hn
      simp [dNe, eqI]
    · have h0 : (n : Int) ≠ 0 := by omega
      have e : (m : Int).fmod (n : Int) = ((m % n : Nat) : Int) := by
        rw [Int.fmod_eq_emod_of_nonneg _ (by omega)]; exact (Int.natCast_emod m n).symm
      simp [dNe, eqI, hn, d_mod h0, e]
      rw [← Int.natCast_emod, ih (m % n) (Nat.mod_lt _ (by omega)) n]
      rw [Nat.gcd_comm n (m % n), ← Nat.gcd_rec, Nat.gcd_comm]
theorem e_common (a b : Int) (S : Sto) : f_common [.int a, .int b] S = .ok (.int (Int.gcd a b : Nat)) S := by
  simp [f_common, mkFn, m_common, DL.start, gcd_loop]
  rfl
theorem e_law_gcd (a b : Int) (S : Sto) : f_law_gcd [.int a, .int b] S = .ok (.int (Int.gcd a b : Nat)) S := by
  simp [f_law_gcd, mkFn, m_law_gcd, DL.start, gcd_loop]
  rfl
theorem e_rate {t b : Int} (hb : b ≠ 0) (hz : b.natAbs < 2 ^ 9000) (S : Sto) : f_rate [.int t, .int b] S = .ok (F (red t b)) S := by
  have hg : Int.gcd t b < 2 ^ 9000 := Nat.lt_of_le_of_lt (red_gcd t b hb) hz
  have hp : 0 < Int.gcd t b := Int.gcd_pos_of_ne_zero_right t hb
  by_cases hn : b < 0
  · have d1 : divOk (-(Int.gcd t b : Int)) = true := divOk_of (by omega) (by omega)
    simp [f_rate, mkFn, m_rate, DL.start, e_common, hn, d_div d1, red, F]
  · have d1 : divOk (Int.gcd t b : Int) = true := divOk_of (by omega) (by omega)
    simp [f_rate, mkFn, m_rate, DL.start, e_common, hn, d_div d1, red, F]
theorem e_law_rate {t b : Int} (hb : b ≠ 0) (hz : b.natAbs < 2 ^ 9000) (S : Sto) : f_law_rate [.int t, .int b] S = .ok (F (red t b)) S := by
  have hg : Int.gcd t b < 2 ^ 9000 := Nat.lt_of_le_of_lt (red_gcd t b hb) hz
  have hp : 0 < Int.gcd t b := Int.gcd_pos_of_ne_zero_right t hb
  have hl : ((Int.gcd t b : Nat) : Int).natAbs < 2 ^ 400000 := by rw [Int.natAbs_natCast]; exact lt9 hg
  have m1 : mulOk (Int.gcd t b : Int) 1 = true := mulOk_of hl (Nat.one_lt_two_pow (by omega))
  have m2 : mulOk (Int.gcd t b : Int) (-1) = true := mulOk_of hl (Nat.one_lt_two_pow (by omega))
  by_cases hn : b < 0
  · have hn' : ¬ 0 < b := by omega
    have d1 : divOk (-(Int.gcd t b : Int)) = true := divOk_of (by omega) (by omega)
    simp [f_law_rate, mkFn, m_law_rate, DL.start, e_law_gcd, hn, hn', d_mul m2, d_div d1, red, F]
  · have hn' : 0 < b := by omega
    have d1 : divOk (Int.gcd t b : Int) = true := divOk_of (by omega) (by omega)
    simp [f_law_rate, mkFn, m_law_rate, DL.start, e_law_gcd, hn, hn', d_mul m1, d_div d1, red, F]
theorem e_plus {x y : Int × Int} (hx : Sz 4400 x) (hy : Sz 4400 y) (S : Sto) (h : x.2 * y.2 ≠ 0) : f_plus [F x, F y] S = .ok (F (red (x.1 * y.2 + y.1 * x.2) (x.2 * y.2))) S := by
  simp [f_plus, mkFn, m_plus, DL.start, d_mul (mul_ok hx.a hy.b), d_mul (mul_ok hy.a hx.b), d_mul (mul_ok hx.b hy.b)]
  rw [e_rate h (up_lt (mul_lt hx.b hy.b) (by omega))]; rfl
theorem e_less {x y : Int × Int} (hx : Sz 4400 x) (hy : Sz 4400 y) (S : Sto) (h : x.2 * y.2 ≠ 0) : f_less [F x, F y] S = .ok (F (red (x.1 * y.2 - y.1 * x.2) (x.2 * y.2))) S := by
  simp [f_less, mkFn, m_less, DL.start, d_mul (mul_ok hx.a hy.b), d_mul (mul_ok hy.a hx.b), d_mul (mul_ok hx.b hy.b)]
  rw [e_rate h (up_lt (mul_lt hx.b hy.b) (by omega))]; rfl
theorem e_times {x y : Int × Int} (hx : Sz 4400 x) (hy : Sz 4400 y) (S : Sto) (h : x.2 * y.2 ≠ 0) : f_times [F x, F y] S = .ok (F (red (x.1 * y.1) (x.2 * y.2))) S := by
  simp [f_times, mkFn, m_times, DL.start, d_mul (mul_ok hx.a hy.a), d_mul (mul_ok hx.b hy.b)]
  rw [e_rate h (up_lt (mul_lt hx.b hy.b) (by omega))]; rfl
theorem e_turned_sign (x : Int × Int) (S : Sto) : f_turned_sign [F x] S = .ok (F (-x.1, x.2)) S := by
  simp [f_turned_sign, mkFn, m_turned_sign, DL.start, F]
theorem e_squared {x : Int × Int} (hx : Sz 4400 x) (S : Sto) : f_squared [F x] S = .ok (F (x.1 * x.1, x.2 * x.2)) S := by
  simp [f_squared, mkFn, m_squared, DL.start, F, d_mul (mul_ok hx.a hx.a), d_mul (mul_ok hx.b hx.b)]
theorem e_is_whole (i : Int) (S : Sto) : f_is_whole [.int i] S = .ok (.bl true) S := by
  simp [f_is_whole, mkFn, m_is_whole, DL.start, isIntI, isBoolI]
theorem e_is_lowest {x : Int × Int} (h : Low x) (S : Sto) : f_is_lowest [F x] S = .ok (.bl true) S := by
  have := h.pos; have := h.one
  simp [f_is_lowest, mkFn, m_is_lowest, DL.start, isTupF, truD, e_is_whole, e_common, dNeI, dEqI, lenF, h.pos, h.one]
theorem e_is_fraction {x : Int × Int} (h : Low x) (h1 : x.1.natAbs ≤ 1000000) (h2 : x.2 ≤ 1000000) (S : Sto) : f_is_fraction [F x] S = .ok (.bl true) S := by
  have a1 : -1000000 ≤ x.1 := by omega
  have a2 : x.1 ≤ 1000000 := by omega
  simp [f_is_fraction, mkFn, m_is_fraction, DL.start, e_is_lowest h, k_MOST]
  simp [h2, a1, a2]
theorem e_is_int (i lo hi : Int) (S : Sto) : f_is_int [.int i, .int lo, .int hi] S = .ok (.bl (decide (lo ≤ i) && decide (i ≤ hi))) S := by
  by_cases h : lo ≤ i
  · simp [f_is_int, mkFn, m_is_int, DL.start, isIntI, isBoolI, h]
  · simp [f_is_int, mkFn, m_is_int, DL.start, isIntI, isBoolI, h]
theorem e_law_is_bool (a b : Bool) (S : Sto) : f_law_is_bool [.bl a, .bl b] S = .ok (.bl (a == b)) S := by
  simp [f_law_is_bool, mkFn, m_law_is_bool, DL.start, isBoolB, dEqBl]
theorem e_law_less {x y : Int × Int} (hx : Sz 4400 x) (hy : Sz 4400 y) (S : Sto) (h : x.2 * y.2 ≠ 0) : f_law_less [F x, F y] S = .ok (F (red (x.1 * y.2 - y.1 * x.2) (x.2 * y.2))) S := by
  simp [f_law_less, mkFn, m_law_less, DL.start, d_mul (mul_ok hx.a hy.b), d_mul (mul_ok hy.a hx.b), d_mul (mul_ok hx.b hy.b)]
  rw [e_law_rate h (up_lt (mul_lt hx.b hy.b) (by omega))]; rfl
theorem e_law_times {x y : Int × Int} (hx : Sz 4400 x) (hy : Sz 4400 y) (S : Sto) (h : x.2 * y.2 ≠ 0) : f_law_times [F x, F y] S = .ok (F (red (x.1 * y.1) (x.2 * y.2))) S := by
  simp [f_law_times, mkFn, m_law_times, DL.start, d_mul (mul_ok hx.a hy.a), d_mul (mul_ok hx.b hy.b)]
  rw [e_law_rate h (up_lt (mul_lt hx.b hy.b) (by omega))]; rfl
theorem e_takeK {S : Sto} {n : Nat} {k u : Int} (P : PotAt S n k) (hk : k < 1000) (hu : 0 < u) (hu2 : u < 2 ^ 62) :
    ∃ d S', f_law_take [.loc n, .int u] S = .ok (.int d) S' ∧ 0 ≤ d ∧ d < u ∧ PotAt S' n (k + 1) ∧ S'.length = S.length ∧ ∀ m, m ≠ n → S'[m]? = S[m]? := by
  obtain ⟨⟨a, b, c, h, ha, hb, hb2, hc, hck⟩, hF⟩ := P
  have e62 : (2 : Int) ^ 62 = 4611686018427387904 := by decide +kernel
  rw [e62] at hu2 hb2
  have hu0 : u ≠ 0 := by omega
  by_cases a0 : 0 < a
  · have dd : divOk u = true := divOk_of hu0 (Nat.lt_of_lt_of_le (show u.natAbs < 2 ^ 62 by omega) (Nat.pow_le_pow_right (by decide) (by decide)))
    refine ⟨a.fmod u, S.set n [.int (a.fdiv u), .int b, .int c], ?_, (fm hu).1, (fm hu).2, ⟨⟨a.fdiv u, b, c, got h, ?_, hb, by rw [e62]; exact hb2, hc, by omega⟩, hF.set n rfl⟩, by simp, fun m hm => List.getElem?_set_ne (Ne.symm hm)⟩
    · simp [f_law_take, mkFn, m_law_take, DL.start, ixL0 h, a0, d_mod hu0, d_div dd, st0 h]
    · exact Int.fdiv_nonneg ha (by omega)
  · have h1 : (S.set n [.int a, .int b, .int (c + 1)])[n]? = some [.int a, .int b, .int (c + 1)] := got h
    obtain ⟨p, p0, p1, hp⟩ := prime_ix ((c + 1).fmod 5) (fm (by decide)).1 (fm (by decide)).2
    have e31 : (2 : Int) ^ 31 = 2147483648 := by decide +kernel
    rw [e31] at p1
    have pn : p ≠ 0 := by omega
    have k1 : mulOk 95257 (c + 1) = true := small_ok (by decide) (Nat.lt_of_lt_of_le (show (c + 1).natAbs < 2 ^ 10 by omega) (Nat.pow_le_pow_right (by decide) (by decide)))
    have b2 : 0 ≤ (c + 1) * (c + 1) := Int.mul_nonneg (by omega) (by omega)
    have b3 : (c + 1) * (c + 1) ≤ 1000 * 1000 := Int.mul_le_mul (by omega) (by omega) (by omega) (by decide)
    have b4 : 95257 * (c + 1) * (c + 1) = 95257 * ((c + 1) * (c + 1)) := by grind
    have k2 : mulOk (95257 * (c + 1)) (c + 1) = true := small_ok (Nat.lt_of_lt_of_le (show (95257 * (c + 1)).natAbs < 2 ^ 30 by omega) (Nat.pow_le_pow_right (by decide) (by decide))) (Nat.lt_of_lt_of_le (show (c + 1).natAbs < 2 ^ 10 by omega) (Nat.pow_le_pow_right (by decide) (by decide)))
    have bi : (Builtin.Int.intBits (b + 95257 * (c + 1) * (c + 1) + 3163) : Int) * 3 ≤ 2 ^ 27 := by
      have := bits_le (x := b + 95257 * (c + 1) * (c + 1) + 3163) (k := 64) (by rw [b4]; omega) (by decide)
      have e27 : (2 : Int) ^ 27 = 134217728 := by decide +kernel
      rw [e27]; omega
    have pw3 := fun S => d_pow (i := b + 95257 * (c + 1) * (c + 1) + 3163) (j := 3) ⟨by decide, bi⟩ S
    obtain ⟨B, eB⟩ : ∃ B, Int.fmod ((b + 95257 * (c + 1) * (c + 1) + 3163) ^ 3) p = B := ⟨_, rfl⟩
    have hB := fm (a := (b + 95257 * (c + 1) * (c + 1) + 3163) ^ 3) p0
    rw [eB] at hB
    have m5 := d_mod (i := B) (show (13441 : Int) ≠ 0 by decide)
    have f5 := fm (a := B) (show (0 : Int) < 13441 by decide)
    have k3 : mulOk 419 (c + 1) = true := small_ok (by decide) (Nat.lt_of_lt_of_le (show (c + 1).natAbs < 2 ^ 10 by omega) (Nat.pow_le_pow_right (by decide) (by decide)))
    have k4 : mulOk B (B.fmod 13441 + 419 * (c + 1)) = true := small_ok (Nat.lt_of_lt_of_le (show B.natAbs < 2 ^ 31 by omega) (Nat.pow_le_pow_right (by decide) (by decide))) (Nat.lt_of_lt_of_le (show (B.fmod 13441 + 419 * (c + 1)).natAbs < 2 ^ 31 by omega) (Nat.pow_le_pow_right (by decide) (by decide)))
    have d229 : divOk 229 = true := divOk_of (by decide) (Nat.lt_of_lt_of_le (show (229 : Int).natAbs < 2 ^ 8 by decide) (Nat.pow_le_pow_right (by decide) (by decide)))
    refine ⟨(((B * (B.fmod 13441 + 419 * (c + 1))).fmod 2305843009213693907).fdiv 229).fmod u, S.set n [.int a, .int b, .int (c + 1)], ?_, (fm hu).1, (fm hu).2, ⟨⟨a, b, c + 1, h1, ha, hb, by rw [e62]; exact hb2, by omega, by omega⟩, hF.set n rfl⟩, by simp, fun m hm => List.getElem?_set_ne (Ne.symm hm)⟩
    · simp [f_law_take, mkFn, m_law_take, DL.start, ixL0 h, ixL1 h1, ixL2 h, ixL2 h1, a0, st2 h, d_mul k1, d_mul k2, d_mul k3, d_mul k4, d_mod (show (5 : Int) ≠ 0 by decide), hp, pw3, d_mod pn, eB, m5, d_mod (show (2305843009213693907 : Int) ≠ 0 by decide), d_div d229, d_mod hu0]
theorem e_take {S : Sto} {n : Nat} {k u : Int} (P : PotAt S n k) (hk : k < 1000) (hu : 0 < u) (hu2 : u < 2 ^ 62) :
    ∃ d S', f_law_take [.loc n, .int u] S = .ok (.int d) S' ∧ 0 ≤ d ∧ d < u ∧ PotAt S' n (k + 1) ∧ S'.length = S.length := by
  obtain ⟨d, S', h1, h2, h3, h4, h5, _⟩ := e_takeK P hk hu hu2
  exact ⟨d, S', h1, h2, h3, h4, h5⟩
/-- the other lists stay -/
theorem take_keeps {S S' : Sto} {n m : Nat} {k u : Int} {d : D} {l : List D} (P : PotAt S n k) (hk : k < 1000) (hu : 0 < u) (hu2 : u < 2 ^ 62) (t : f_law_take [.loc n, .int u] S = .ok d S') (h : S[m]? = some l) (hm : m ≠ n) : S'[m]? = some l := by
  obtain ⟨d', S'', h1, h2, h3, h4, h5, h6⟩ := e_takeK P hk hu hu2
  rw [t] at h1
  cases h1
  rw [h6 m hm, h]
theorem of_keeps {S S' : Sto} {n m : Nat} {k : Int} {d : D} {l : List D} (P : PotAt S n k) (hk : k < 1000) (xs : List D) (h0 : xs ≠ []) (hl : xs.length ≤ 1000) (t : f_law_of [.loc n, .lst xs] S = .ok d S') (h : S[m]? = some l) (hm : m ≠ n) : S'[m]? = some l := by
  have hx : 0 < xs.length := List.length_pos_iff.mpr h0
  have e62 : (2 : Int) ^ 62 = 4611686018427387904 := by decide +kernel
  obtain ⟨d1, S'', h1, h2, h3, h4, h5, h6⟩ := e_takeK (u := xs.length) P hk (by omega) (by rw [e62]; omega)
  have e : f_law_of [.loc n, .lst xs] S = dIx (.lst xs) (.int d1) S'' := by
    simp [f_law_of, mkFn, m_law_of, DL.start, h1]
    cases dIx (.lst xs) (.int d1) S'' <;> rfl
  rw [t] at e
  have : S' = S'' := by
    unfold dIx at e
    simp only at e
    split at e
    · cases e; rfl
    · cases e
  rw [this, h6 m hm, h]
theorem e_of {S : Sto} {n : Nat} {k : Int} (P : PotAt S n k) (hk : k < 1000) (xs : List D) (h0 : xs ≠ []) (hl : xs.length ≤ 1000) :
    ∃ x S', x ∈ xs ∧ f_law_of [.loc n, .lst xs] S = .ok x S' ∧ PotAt S' n (k + 1) ∧ S'.length = S.length := by
  have hx : 0 < xs.length := List.length_pos_iff.mpr h0
  have e62 : (2 : Int) ^ 62 = 4611686018427387904 := by decide +kernel
  obtain ⟨d, S', h, d0, d1, P', hL⟩ := e_take (u := xs.length) P hk (by omega) (by rw [e62]; omega)
  obtain ⟨m, rfl⟩ : ∃ m : Nat, d = m := ⟨d.toNat, by omega⟩
  have hm : m < xs.length := by omega
  have ix : dIx (.lst xs) (.int m) S' = .ok xs[m] S' := by
    show (match L2.atI xs (m : Int) with | some d => R.ok d S' | none => R.bad) = _
    have : L2.atI xs (m : Int) = some xs[m] := by
      unfold L2.atI L2.ixN
      rw [if_pos (by omega), if_pos (by omega)]
      simp [hm]
    rw [this]
  exact ⟨xs[m], S', List.getElem_mem hm, by simp [f_law_of, mkFn, m_law_of, DL.start, h, ix], P', hL⟩
theorem e_pot (ns : List Int) (p : Nat) (hp : p < 3) (S : Sto) : ∃ a b : Int, f_law_pot [.lst (ns.map D.int), .int p] S = .ok (.loc S.length) (S ++ [[.int a, .int b, .int 0]]) ∧ 0 ≤ a ∧ 0 ≤ b ∧ b < 2 ^ 62 := by
  have e27 : (2 : Int) ^ 27 = 134217728 := by decide +kernel
  have e62 : (2 : Int) ^ 62 = 4611686018427387904 := by decide +kernel
  obtain ⟨T, T0, T1, hT⟩ : ∃ T : Int, 0 < T ∧ T.natAbs < 2 ^ 200 ∧ ∀ S, dPow (.int 10) (.int 60) S = .ok (.int T) S := ⟨10 ^ 60, by decide +kernel, by decide +kernel, fun S => d_pow (by decide +kernel) S⟩
  obtain ⟨U, U0, U1, hU⟩ : ∃ U : Int, 0 < U ∧ U.natAbs < 2 ^ 1000 ∧ ∀ S, dPow (.int T) (.int 5) S = .ok (.int U) S := by
    have b := bits_le T1 (by decide)
    refine ⟨T ^ 5, Int.pow_pos T0, ?_, fun S => d_pow ⟨by decide, by rw [e27]; omega⟩ S⟩
    rw [Int.natAbs_pow]
    exact Nat.lt_of_lt_of_le (Nat.pow_lt_pow_left T1 (by decide)) (by rw [← Nat.pow_mul]; exact Nat.le_refl _)
  obtain ⟨V, hV⟩ : ∃ V : Int, ∀ S, dPow (.int 10) (.int 18) S = .ok (.int V) S := ⟨10 ^ 18, fun S => d_pow (by decide +kernel) S⟩
  have m1 : mulOk 4639 (p : Int) = true := small_ok (by decide) (Nat.lt_of_lt_of_le (show (p : Int).natAbs < 2 ^ 2 by omega) (Nat.pow_le_pow_right (by decide) (by decide)))
  have m2 : mulOk 10853 (p : Int) = true := small_ok (by decide) (Nat.lt_of_lt_of_le (show (p : Int).natAbs < 2 ^ 2 by omega) (Nat.pow_le_pow_right (by decide) (by decide)))
  have m3 : mulOk (10853 * (p : Int)) (p : Int) = true := small_ok (Nat.lt_of_lt_of_le (show (10853 * (p : Int)).natAbs < 2 ^ 20 by omega) (Nat.pow_le_pow_right (by decide) (by decide))) (Nat.lt_of_lt_of_le (show (p : Int).natAbs < 2 ^ 2 by omega) (Nat.pow_le_pow_right (by decide) (by decide)))
  have cell : ∃ c : Int, ∀ (o : List (Option D)), (eIf (tOf (eBin dLt (eVar 1) (eCall fLen (aCons (eVar 0) (aNil))))) (eBin dIx (eVar 0) (eVar 1)) (eBin dAdd (eBin dAdd (eBin dMod (eCall fInt (aCons (eCall fSum (aCons (eCut (eVar 0) (oNone) (oSome (eC (.int 1)))) (aNil))) (aNil))) (eC (.int 1000211))) (eBin dMul (eC (.int 4639)) (eVar 1))) (eC (.int 3163))))
      (some (.lst (ns.map D.int)) :: some (.int p) :: o) S = .ok (.int c) S := by
    by_cases h : p < ns.length
    · refine ⟨ns[p], fun o => ?_⟩
      have ix : dIx (.lst (ns.map D.int)) (.int p) S = .ok (.int ns[p]) S := by
        show (match L2.atI (ns.map D.int) (p : Int) with | some d => R.ok d S | none => R.bad) = _
        rw [at_ints ns p h]
      simp [h, ix]
    · have cut : ∃ l : List Int, cutD (ns.map D.int) none (some 1) = l.map D.int := ⟨_, by unfold cutD; rw [← List.map_drop, ← List.map_take]⟩
      obtain ⟨l, hl⟩ := cut
      refine ⟨l.sum.fmod 1000211 + 4639 * p + 3163, fun o => ?_⟩
      simp [h, eCut, hl, fSum, ints_of, d_mod (show (1000211 : Int) ≠ 0 by decide), d_mul m1]
  obtain ⟨c, hc⟩ := cell
  have P0 : (0 : Int) < 2305843009213693951 := by decide
  have f1 := fm (a := (c.natAbs : Int)) U0
  have f2 := fm (a := c) P0
  have bb : ∀ x : Bool, 0 ≤ b2i x ∧ b2i x ≤ 1 := fun x => by cases x <;> decide
  have k1 : mulOk ((c.natAbs : Int).fmod U) (b2i (decide (V ≤ (c.natAbs : Int)))) = true := by
    refine mul_ok (n := 1000) (m := 2) ?_ ?_
    · have : ((c.natAbs : Int).fmod U).natAbs < U.natAbs := by omega
      exact Nat.lt_trans this U1
    · have := bb (decide (V ≤ (c.natAbs : Int))); omega
  have k2 : mulOk (c.fmod 2305843009213693951) 72161 = true := small_ok (Nat.lt_of_lt_of_le (show (c.fmod 2305843009213693951).natAbs < 2 ^ 62 by omega) (Nat.pow_le_pow_right (by decide) (by decide))) (by decide)
  have Un : U ≠ 0 := by omega
  have hcc := hc [none, none, none]
  refine ⟨(c.natAbs : Int).fmod U * b2i (decide (V ≤ (c.natAbs : Int))), (c.fmod 2305843009213693951 * 72161 + 10853 * p * p + 2843).fmod 2305843009213693921, ?_, Int.mul_nonneg f1.1 (bb _).1, (fm (by decide)).1, ?_⟩
  · unfold f_law_pot mkFn m_law_pot
    have st : DL.start 5 [D.lst (ns.map D.int), D.int p] = [some (.lst (ns.map D.int)), some (.int p), none, none, none] := rfl
    rw [if_pos (show [D.lst (ns.map D.int), D.int p].length = 2 from rfl), st, ap_sSeq, ap_sSet, hcc]
    simp [hT, hU, hV, d_mod Un, d_mul k1, d_mod (show (2305843009213693951 : Int) ≠ 0 by decide), d_mul k2, d_mul m2, d_mul m3, d_mod (show (2305843009213693921 : Int) ≠ 0 by decide)]
  · have := (fm (a := c.fmod 2305843009213693951 * 72161 + 10853 * p * p + 2843) (show (0 : Int) < 2305843009213693921 by decide)).2
    rw [e62]; omega
theorem e_cells (ns : List Int) (hl : ns.length ≤ 63) (m : Int) (hm : 0 < m) (hm2 : m ≤ 3) (S : Sto) : ∃ c : Nat, (c : Int) ≤ m ∧ f_law_cells [.lst (ns.map D.int), .int m] S = .ok (.lst (rngL 0 c)) S := by
  obtain ⟨c, hc⟩ : ∃ c : Int, (if (ns.length : Int) < m then (ns.length : Int) else m) = c ∧ c ≤ m ∧ 0 ≤ c := ⟨_, rfl, by split <;> omega, by split <;> omega⟩
  obtain ⟨d, hd⟩ : ∃ d : Int, (if c > 1 then c else 1) = d ∧ d ≤ m ∧ 1 ≤ d := ⟨_, rfl, by split <;> omega, by split <;> omega⟩
  have mi : fMin [.int m, .int ns.length] S = .ok (.int c) S := by rw [← hc.1]; rfl
  have ma : fMax [.int 1, .int c] S = .ok (.int d) S := by rw [← hd.1]; rfl
  refine ⟨d.toNat, by omega, ?_⟩
  have r := rng_ok (j := d) (r := aCons (eCall fMax (aCons (eC (.int 1)) (aCons (eCall fMin (aCons (eVar 1) (aCons (eCall fLen (aCons (eVar 0) (aNil))) (aNil)))) (aNil)))) aNil) (ρ := [some (.lst (ns.map D.int)), some (.int m)]) (S := S) (S' := S) (by simp [mi, ma]) (by omega) (by omega)
  unfold f_law_cells mkFn m_law_cells
  rw [if_pos (show [D.lst (ns.map D.int), D.int m].length = 2 from rfl)]
  have st : DL.start 2 [D.lst (ns.map D.int), D.int m] = [some (.lst (ns.map D.int)), some (.int m)] := rfl
  rw [st, ap_sRet, ap_listRg, r]
  simp only [bind_ok, rngL_len]
  rw [if_pos (by omega)]
  simp only [st_ok]
theorem e_plain (x : Int × Int) (S : Sto) : f_plain [F x] S = .ok (PL x) S := by
  simp [f_plain, mkFn, m_plain, DL.start, PL]; rfl
theorem e_lifted (a b : Int × Int) (S : Sto) : f_lifted [F2 a b] S = .ok (LF a b) S := by
  simp [f_lifted, mkFn, m_lifted, DL.start, F2, e_plain, LF]
theorem e_negative (x : Int × Int) (S : Sto) : f_negative [PL x] S = .ok (PL (-x.1, x.2)) S := by
  simp [f_negative, mkFn, m_negative, DL.start, PL, e_turned_sign, ix3_0, ix3_1, ix3_2]
theorem e_sign_of_int (a : Int) (S : Sto) : f_sign_of_int [.int a] S = .ok (.int (sgI a)) S := by
  by_cases h : a = 0
  · simp [f_sign_of_int, mkFn, m_sign_of_int, DL.start, dEqI, h, sgI]
  · by_cases k : 0 < a
    · simp [f_sign_of_int, mkFn, m_sign_of_int, DL.start, dEqI, h, sgI, k]
    · simp [f_sign_of_int, mkFn, m_sign_of_int, DL.start, dEqI, h, sgI, k]
theorem e_sign_under0 (a b : Int) (S : Sto) : f_sign_under [.int a, .int b, .int 0] S = .ok (.int (sgI a)) S := by
  simp [f_sign_under, mkFn, m_sign_under, DL.start, dEqI, e_sign_of_int]
theorem e_sign_plain {x : Int × Int} (h : Sz 4400 x) (S : Sto) : f_sign [PL x] S = .ok (.int (sgI x.1)) S := by
  have m1 : mulOk x.1 1 = true := mul_ok (n := 4400) (m := 2) h.a (by decide)
  have m2 : mulOk 0 x.2 = true := mul_ok (n := 2) (m := 4400) (by decide) h.b
  simp [f_sign, mkFn, m_sign, DL.start, PL, ix3_0, ix3_1, ix3_2, d_mul m1, d_mul m2, e_sign_under0]
theorem e_sign_of_four0 (a : Int) (S : Sto) : f_sign_of_four [.int a, .int 0, .int 0, .int 0, .int 0, .int 0] S = .ok (.int (sgI a)) S := by
  simp [f_sign_of_four, mkFn, m_sign_of_four, q_sign_of_four_1, q_sign_of_four_2, q_sign_of_four_3, DL.start, e_sign_under0, dEqI]
theorem e_ints_of {a b : Int × Int} (h : VF a b) (S : Sto) : f_ints_of [LF a b] S = .ok (.tup [.int (vec a b).1, .int 0, .int (vec a b).2, .int 0, .int 0]) S := by
  have u : ∀ {i : Int}, i.natAbs < 2 ^ 1100 → mulOk i 1 = true := fun h => mul_ok (n := 1100) (m := 2) h (by decide)
  have z : ∀ {i : Int}, i.natAbs < 2 ^ 1100 → mulOk 0 i = true := fun h => mul_ok (n := 2) (m := 1100) (by decide) h
  have m1 := mul_ok h.a.a h.b.b
  have m2 := mul_ok h.b.a h.a.b
  have mx : ∀ S, fMax [.int 0, .int 0] S = .ok (.int 0) S := fun _ => rfl
  simp [f_ints_of, mkFn, m_ints_of, DL.start, LF, PL, F, d_mul (u h.a.a), d_mul (u h.a.b), d_mul (u h.b.a), d_mul (u h.b.b), d_mul (z h.a.b), d_mul (z h.b.b), d_mul m1, d_mul m2, mx, vec]
theorem vec_lt {a b : Int × Int} (h : VF a b) : (vec a b).1.natAbs < 2 ^ 2200 ∧ (vec a b).2.natAbs < 2 ^ 2200 := ⟨mul_lt h.a.a h.b.b, mul_lt h.b.a h.a.b⟩
theorem e_sign_of_cross {a b c d : Int × Int} (h : VF a b) (k : VF c d) (S : Sto) : f_sign_of_cross [LF a b, LF c d] S = .ok (.int (sgI (cross (vec a b) (vec c d)))) S := by
  have i1 := fun S => e_ints_of h S
  have i2 := fun S => e_ints_of k S
  have s1 := vec_lt h
  have s2 := vec_lt k
  have z : ∀ {i : Int}, i.natAbs < 2 ^ 2200 → mulOk 0 i = true := fun h => mul_ok (n := 2) (m := 2200) (by decide) h
  have y : ∀ {i : Int}, i.natAbs < 2 ^ 2200 → mulOk i 0 = true := fun h => mul_ok (n := 2200) (m := 2) h (by decide)
  have zz : mulOk 0 0 = true := by decide +kernel
  generalize vec a b = v at *
  generalize vec c d = w at *
  simp [f_sign_of_cross, mkFn, m_sign_of_cross, DL.start, i1, i2, d_mul (mul_ok s1.1 s2.2), d_mul (mul_ok s1.2 s2.1), d_mul (z s2.1), d_mul (z s2.2), d_mul (y s1.1), d_mul (y s1.2), d_mul zz, e_sign_of_four0, cross]
theorem e_sign_of_dot {a b c d : Int × Int} (h : VF a b) (k : VF c d) (S : Sto) : f_sign_of_dot [LF a b, LF c d] S = .ok (.int (sgI (dotp (vec a b) (vec c d)))) S := by
  have k' : VF (-d.1, d.2) c := ⟨⟨by show (-d.1).natAbs < _; rw [Int.natAbs_neg]; exact k.b.a, k.b.b⟩, k.a, k.pb, k.pa⟩
  have e := fun S => e_sign_of_cross h k' S
  have q : cross (vec a b) (vec (-d.1, d.2) c) = dotp (vec a b) (vec c d) := by unfold cross dotp vec; grind
  rw [q] at e
  have l1 : ∀ S, dIx (LF c d) (.int 0) S = .ok (PL c) S := fun S => by unfold LF; simp
  have l2 : ∀ S, dIx (LF c d) (.int 1) S = .ok (PL d) S := fun S => by unfold LF; simp
  have l3 : D.tup [PL (-d.1, d.2), PL c] = LF (-d.1, d.2) c := rfl
  simp [f_sign_of_dot, mkFn, m_sign_of_dot, DL.start, l1, l2, e_negative, l3, e]
theorem e_half_plane {a b : Int × Int} (h : VF a b) (S : Sto) : f_half_plane [LF a b] S = .ok (.int (hp (vec a b))) S := by
  have l1 : ∀ S, dIx (LF a b) (.int 0) S = .ok (PL a) S := fun S => by unfold LF; simp
  have l2 : ∀ S, dIx (LF a b) (.int 1) S = .ok (PL b) S := fun S => by unfold LF; simp
  have s1 := fun S => e_sign_plain (h.a.mono (m := 4400) (by decide)) S
  have s2 := fun S => e_sign_plain (h.b.mono (m := 4400) (by decide)) S
  have e1 : (0 < (vec a b).2 ↔ 0 < b.1) := by unfold vec; simp only; rw [Int.mul_comm, pos_mul h.pa]
  have e2 : ((vec a b).2 = 0 ↔ b.1 = 0) := by unfold vec; simp only; rw [Int.mul_comm, zero_mul h.pa]
  have e3 : (0 < (vec a b).1 ↔ 0 < a.1) := by unfold vec; simp only; rw [Int.mul_comm, pos_mul h.pb]
  unfold hp
  simp only [e1, e2, e3]
  by_cases c1 : 0 < b.1
  · have q := (sgI_pos _).mpr c1
    simp [f_half_plane, mkFn, m_half_plane, DL.start, l1, l2, s1, s2, q, c1]
  · have q : ¬ 0 < sgI b.1 := fun z => c1 ((sgI_pos _).mp z)
    by_cases c2 : b.1 = 0
    · have q2 := (sgI_zero _).mpr c2
      by_cases c3 : 0 < a.1
      · have q3 := (sgI_pos _).mpr c3
        simp [f_half_plane, mkFn, m_half_plane, DL.start, l1, l2, s1, s2, q2, q3, dEqI, c2, c3, sgI_0]
      · have q3 : ¬ 0 < sgI a.1 := fun z => c3 ((sgI_pos _).mp z)
        simp [f_half_plane, mkFn, m_half_plane, DL.start, l1, l2, s1, s2, q2, q3, dEqI, c2, c3, sgI_0]
    · have q2 : ¬ sgI b.1 = 0 := fun z => c2 ((sgI_zero _).mp z)
      simp [f_half_plane, mkFn, m_half_plane, DL.start, l1, l2, s1, s2, q, q2, dEqI, c1, c2]
theorem e_is_ahead {a b c d : Int × Int} (h : VF a b) (k : VF c d) (S : Sto) : f_is_ahead [LF a b, LF c d] S = .ok (.bl (decide (ahead (vec a b) (vec c d)))) S := by
  have h1 := fun S => e_half_plane h S
  have h2 := fun S => e_half_plane k S
  have h3 := fun S => e_sign_of_cross h k S
  by_cases c1 : hp (vec a b) = hp (vec c d)
  · by_cases c2 : 0 < cross (vec a b) (vec c d)
    · have q := (sgI_pos _).mpr c2
      have e : ahead (vec a b) (vec c d) := .inr ⟨c1, c2⟩
      simp [f_is_ahead, mkFn, m_is_ahead, DL.start, h1, h2, h3, dNeI, c1, q, e]
    · have q : ¬ 0 < sgI (cross (vec a b) (vec c d)) := fun z => c2 ((sgI_pos _).mp z)
      have e : ¬ ahead (vec a b) (vec c d) := by rintro (z | z); omega; exact c2 z.2
      simp [f_is_ahead, mkFn, m_is_ahead, DL.start, h1, h2, h3, dNeI, c1, q, e]
  · have e : ahead (vec a b) (vec c d) ↔ hp (vec a b) < hp (vec c d) := ⟨by rintro (z | z); exact z; exact absurd z.1 c1, .inl⟩
    simp [f_is_ahead, mkFn, m_is_ahead, DL.start, h1, h2, dNeI, c1, e]
theorem e_is_same_way {a b c d : Int × Int} (h : VF a b) (k : VF c d) (S : Sto) : f_is_same_way [LF a b, LF c d] S = .ok (.bl (decide (sameW (vec a b) (vec c d)))) S := by
  have h1 := fun S => e_sign_of_cross h k S
  have h2 := fun S => e_sign_of_dot h k S
  unfold sameW
  by_cases c1 : cross (vec a b) (vec c d) = 0
  · have q1 := (sgI_zero _).mpr c1
    by_cases c2 : 0 < dotp (vec a b) (vec c d)
    · have q2 := (sgI_pos _).mpr c2
      simp [f_is_same_way, mkFn, m_is_same_way, DL.start, h1, h2, dEqI, q1, q2, c1, c2, sgI_0]
    · have q2 : ¬ 0 < sgI (dotp (vec a b) (vec c d)) := fun z => c2 ((sgI_pos _).mp z)
      simp [f_is_same_way, mkFn, m_is_same_way, DL.start, h1, h2, dEqI, q1, q2, c1, c2, sgI_0]
  · have q1 : ¬ sgI (cross (vec a b) (vec c d)) = 0 := fun z => c1 ((sgI_zero _).mp z)
    simp [f_is_same_way, mkFn, m_is_same_way, DL.start, h1, h2, dEqI, q1, c1]
theorem e_is_between {a b c d e f : Int × Int} (h : VF a b) (k : VF c d) (l : VF e f) (S : Sto) : f_is_between [LF a b, LF c d, LF e f] S = .ok (.bl (btw (vec a b) (vec c d) (vec e f))) S := by
  have s1 := fun S => e_is_same_way h k S
  have s2 := fun S => e_is_same_way l k S
  have s3 := fun S => e_is_same_way h l S
  have a1 := fun S => e_is_ahead h k S
  have a2 := fun S => e_is_ahead k l S
  have a3 := fun S => e_is_ahead l h S
  generalize vec a b = u at *
  generalize vec c d = v at *
  generalize vec e f = w at *
  unfold btw
  by_cases c1 : sameW u v
  · simp [f_is_between, mkFn, m_is_between, DL.start, s1, truD, c1]
  · by_cases c2 : sameW w v
    · simp [f_is_between, mkFn, m_is_between, DL.start, s1, s2, truD, c1, c2]
    · by_cases c3 : sameW u w
      · simp [f_is_between, mkFn, m_is_between, DL.start, s1, s2, s3, truD, c1, c2, c3]
      · simp [f_is_between, mkFn, m_is_between, DL.start, s1, s2, s3, truD, c1, c2, c3, a1, a2, a3, dAddB, dEqI]
theorem e_told_from_to {a b c d e f : Int × Int} (h : VF a b) (k : VF c d) (l : VF e f) (S : Sto) : f_told_from_to [LF a b, LF c d, LF e f] S = .ok (.bl (fromToV (vec a b) (vec c d) (vec e f))) S := by
  have s1 := fun S => e_is_same_way h k S
  have s2 := fun S => e_is_same_way l k S
  have s3 := fun S => e_is_same_way h l S
  have bt := fun S => e_is_between h k l S
  generalize vec a b = u at *
  generalize vec c d = v at *
  generalize vec e f = w at *
  unfold fromToV
  by_cases c3 : sameW u w
  · simp [f_told_from_to, mkFn, m_told_from_to, DL.start, s1, s3, truD, c3]
  · by_cases c1 : sameW u v
    · simp [f_told_from_to, mkFn, m_told_from_to, DL.start, s1, s2, s3, truD, c1, c3]
    · by_cases c2 : sameW w v
      · simp [f_told_from_to, mkFn, m_told_from_to, DL.start, s1, s2, s3, truD, c1, c2, c3]
      · simp [f_told_from_to, mkFn, m_told_from_to, DL.start, s1, s2, s3, truD, c1, c2, c3, bt]
theorem e_is_turn {t : Tn} (h : IsT 2200 t) (S : Sto) : f_is_turn [F2 t.1 t.2] S = .ok (.bl true) S := by
  have q1 := fun S => e_squared (h.sa.mono (m := 4400) (by omega)) S
  have q2 := fun S => e_squared (h.sb.mono (m := 4400) (by omega)) S
  have z1 : Sz 4400 (t.1.1 * t.1.1, t.1.2 * t.1.2) := ⟨mul_lt h.sa.a h.sa.a, mul_lt h.sa.b h.sa.b⟩
  have z2 : Sz 4400 (t.2.1 * t.2.1, t.2.2 * t.2.2) := ⟨mul_lt h.sb.a h.sb.a, mul_lt h.sb.b h.sb.b⟩
  have n1 := low_ne h.la
  have n2 := low_ne h.lb
  have nn : t.1.2 * t.1.2 * (t.2.2 * t.2.2) ≠ 0 := Int.mul_ne_zero (Int.mul_ne_zero n1 n1) (Int.mul_ne_zero n2 n2)
  have pl := fun S => e_plus z1 z2 S nn
  simp only at pl
  rw [h.sq, red_one nn] at pl
  have l1 := fun S => e_is_lowest h.la S
  have l2 := fun S => e_is_lowest h.lb S
  have key : ∀ S, dEq (F (1, 1)) k_ONE S = .ok (.bl true) S := fun S => by
    have := dEqF (1, 1) (1, 1) S
    simpa [F, k_ONE] using this
  unfold F2
  simp [f_is_turn, mkFn, m_is_turn, DL.start, isTupT, truD, dNeI, compL, wipeE, l1, l2, fAll, bools, q1, q2, pl, key]
theorem e_look_at_turn {t : Tn} (h : IsT 2200 t) (S : Sto) : f_look_at_turn [F2 t.1 t.2] S = .ok .non S := by
  simp [f_look_at_turn, mkFn, m_look_at_turn, DL.start, e_is_turn h, truD]
theorem e_is_from_to {t u v : Tn} (h : IsT 1100 t) (k : IsT 1100 u) (l : IsT 1100 v) (S : Sto) : f_is_from_to [F2 t.1 t.2, F2 u.1 u.2, F2 v.1 v.2] S = .ok (.bl (fromToV (vec t.1 t.2) (vec u.1 u.2) (vec v.1 v.2))) S := by
  have up : ∀ {t : Tn}, IsT 1100 t → IsT 2200 t := fun h => ⟨h.la, h.lb, h.sq, h.sa.mono (by decide), h.sb.mono (by decide)⟩
  have l1 := fun S => e_look_at_turn (up h) S
  have l2 := fun S => e_look_at_turn (up k) S
  have l3 := fun S => e_look_at_turn (up l) S
  have f := fun S => e_told_from_to (h.vf (Nat.le_refl _)) (k.vf (Nat.le_refl _)) (l.vf (Nat.le_refl _)) S
  simp [f_is_from_to, mkFn, m_is_from_to, DL.start, l1, l2, l3, e_lifted, f]
theorem e_told_turn_of {h : Int × Int} (h2 : h.2 ≠ 0) (hs : (h.1 * h.1 + h.2 * h.2).natAbs < 2 ^ 2200) (a : Sz 2200 h) (S : Sto) : f_told_turn_of [F h] S = .ok (F2 (arcF h).1 (arcF h).2) S := by
  have np := nsq_pos (a := h.1) h2
  have nz : h.1 * h.1 + h.2 * h.2 ≠ 0 := by omega
  have m1 := mul_ok a.a a.a
  have m2 := mul_ok a.b a.b
  have m3 : mulOk 2 h.1 = true := mul_ok (n := 2) (by decide) a.a
  have m4 : mulOk (2 * h.1) h.2 = true := mul_ok (mul_lt (n := 2) (i := 2) (by decide) a.a) a.b
  have r1 := fun S => e_rate (t := h.2 * h.2 - h.1 * h.1) nz (Nat.lt_of_lt_of_le hs (Nat.pow_le_pow_right (by decide) (by omega))) S
  have r2 := fun S => e_rate (t := 2 * h.1 * h.2) nz (Nat.lt_of_lt_of_le hs (Nat.pow_le_pow_right (by decide) (by omega))) S
  have fx : F h = .tup [.int h.1, .int h.2] := rfl
  simp [f_told_turn_of, mkFn, m_told_turn_of, DL.start, fx, d_mul m1, d_mul m2, d_mul m3, d_mul m4, r1, r2]
  rfl
theorem e_law_turn_of {h : Int × Int} (h2 : h.2 ≠ 0) (hs : (h.1 * h.1 + h.2 * h.2).natAbs < 2 ^ 2200) (a : Sz 2200 h) (S : Sto) : f_law_turn_of [F h] S = .ok (F2 (arcF h).1 (arcF h).2) S := by
  have np := nsq_pos (a := h.1) h2
  have nz : h.1 * h.1 + h.2 * h.2 ≠ 0 := by omega
  have m1 := mul_ok a.a a.a
  have m2 := mul_ok a.b a.b
  have m3 : mulOk 2 h.1 = true := mul_ok (n := 2) (by decide) a.a
  have m4 : mulOk (2 * h.1) h.2 = true := mul_ok (mul_lt (n := 2) (i := 2) (by decide) a.a) a.b
  have r1 := fun S => e_law_rate (t := h.2 * h.2 - h.1 * h.1) nz (Nat.lt_of_lt_of_le hs (Nat.pow_le_pow_right (by decide) (by omega))) S
  have r2 := fun S => e_law_rate (t := 2 * h.1 * h.2) nz (Nat.lt_of_lt_of_le hs (Nat.pow_le_pow_right (by decide) (by omega))) S
  have fx : F h = .tup [.int h.1, .int h.2] := rfl
  simp [f_law_turn_of, mkFn, m_law_turn_of, DL.start, fx, d_mul m1, d_mul m2, d_mul m3, d_mul m4, r1, r2]
  rfl
theorem e_quarter_on {t : Tn} (h : IsT 2200 t) (S : Sto) : f_told_behind [F2 t.1 t.2, k_QUARTER] S = .ok (F2 (rotF t).1 (rotF t).2) S := by
  have kq : k_QUARTER = F2 (0, 1) (1, 1) := rfl
  have sa := h.sa.mono (m := 4400) (by omega)
  have sb := h.sb.mono (m := 4400) (by omega)
  have s0 : Sz 4400 (0, 1) := sz_w (by decide)
  have s1 : Sz 4400 (1, 1) := sz_w (by decide)
  have n1 := low_ne h.la
  have n2 := low_ne h.lb
  have t1 := fun S => e_times sa s0 S (by simp only; omega)
  have t2 := fun S => e_times sb s1 S (by simp only; omega)
  have t3 := fun S => e_times sa s1 S (by simp only; omega)
  have t4 := fun S => e_times sb s0 S (by simp only; omega)
  simp only [Int.mul_zero, Int.mul_one, red_zero n1, red_zero n2, red_of_low h.la, red_of_low h.lb] at t1 t2 t3 t4
  have l := fun S => e_less s0 sb S (by simp only; omega)
  have p := fun S => e_plus sa s0 S (by simp only; omega)
  simp only [Int.zero_mul, Int.zero_sub, Int.one_mul, Int.mul_one, Int.add_zero, red_of_low h.la] at l p
  rw [red_neg n2, red_of_low h.lb] at l
  rw [kq]
  unfold F2
  simp [f_told_behind, mkFn, m_told_behind, DL.start, t1, t2, t3, t4, l, p, rotF]
theorem told_quarters_loop {t : Tn} : ∀ (n : Nat) (j : Nat) (i : Int) (o0 o1 o3 : Option D) (S : Sto), IsT 2200 (rotFN t j) → ∃ p3, forL (gSet 3) q_told_quarters_3B (rngL i n) [o0, o1, some (F2 (rotFN t j).1 (rotFN t j).2), o3] S = .nx [o0, o1, some (F2 (rotFN t (j + n)).1 (rotFN t (j + n)).2), p3] S
  | 0, j, i, o0, o1, o3, S, h => ⟨o3, rfl⟩
  | n + 1, j, i, o0, o1, o3, S, h => by
    obtain ⟨p3, e⟩ := told_quarters_loop n (j + 1) (i + 1) o0 o1 (some (.int i)) S h.rot
    refine ⟨p3, ?_⟩
    have q := fun S => e_quarter_on h S
    rw [show j + (n + 1) = j + 1 + n by omega, ← e]
    simp [rngL, forL, q_told_quarters_3B, q_told_quarters_3_1, q, rotFN]
theorem whole_of {p : Int × Int} (l : Low p) (h0 : 0 ≤ p.1) (h4 : p.1 < 4 * p.2) : 0 ≤ p.1.fdiv p.2 ∧ p.1.fdiv p.2 < 4 := by
  have pp := l.pos
  refine ⟨Int.fdiv_nonneg h0 (by omega), ?_⟩
  by_cases c : p.1.fdiv p.2 < 4
  · exact c
  · have a := fm (a := p.1) pp
    have e := Int.fmod_add_mul_fdiv p.1 p.2
    have : p.2 * 4 ≤ p.2 * p.1.fdiv p.2 := Int.mul_le_mul_of_nonneg_left (by omega) (by omega)
    omega
theorem rest_sq {p : Int × Int} (l : Low p) (hs : p.2.natAbs ≤ 1099511627776) : ((p.1 - p.1.fdiv p.2 * p.2) * (p.1 - p.1.fdiv p.2 * p.2) + p.2 * p.2).natAbs < 2 ^ 2200 ∧ (p.1 - p.1.fdiv p.2 * p.2).natAbs ≤ 1099511627776 := by
  have pp := l.pos
  have fl := fm (a := p.1) pp
  have e := Int.fmod_add_mul_fdiv p.1 p.2
  have r : p.1 - p.1.fdiv p.2 * p.2 = p.1.fmod p.2 := by
    have : p.1.fdiv p.2 * p.2 = p.2 * p.1.fdiv p.2 := Int.mul_comm _ _
    omega
  rw [r]
  have a : (p.1.fmod p.2 * p.1.fmod p.2).natAbs < 2 ^ (41 + 41) := mul_lt (by omega) (by omega)
  have b : (p.2 * p.2).natAbs < 2 ^ (41 + 41) := mul_lt (by omega) (by omega)
  exact ⟨Nat.lt_of_lt_of_le (show _ < 2 ^ 84 by omega) (Nat.pow_le_pow_right (by decide) (by decide)), by omega⟩
theorem e_told_quarters {p : Int × Int} (l : Low p) (h0 : 0 ≤ p.1) (h4 : p.1 < 4 * p.2) (hs : p.2.natAbs ≤ 1099511627776) (S : Sto) : f_told_quarters [F p] S = .ok (F2 (turnF p).1 (turnF p).2) S := by
  have pp := l.pos
  have w := whole_of l h0 h4
  have rs := rest_sq l hs
  obtain ⟨q, hq⟩ : ∃ q, p.1.fdiv p.2 = q := ⟨_, rfl⟩
  rw [hq] at w rs
  have dd : divOk p.2 = true := d40 (by omega) (by omega)
  have qp : (q * p.2).natAbs ≤ 4 * 1099511627776 := by rw [Int.natAbs_mul]; exact Nat.mul_le_mul (by omega) hs
  have sp : Sz 4400 p := ⟨Nat.lt_of_lt_of_le (show _ < 2 ^ 60 by omega) (Nat.pow_le_pow_right (by decide) (by decide)), lt_of40 hs (by decide)⟩
  have ls := fun S => e_less sp (y := (q, 1)) (sz_w (by omega) (by decide)) S (by simp only; omega)
  simp only [Int.mul_one] at ls
  have lo := low_sub l q
  rw [red_of_low lo] at ls
  have tt := fun S => e_told_turn_of (h := (p.1 - q * p.2, p.2)) (by simp only; omega) rs.1 (sz_of (n := 2200) (x := (p.1 - q * p.2, p.2)) rs.2 hs) S
  have t0 : IsT 2200 (rotFN (arcF (p.1 - q * p.2, p.2)) 0) := arc_isT (by simp only; omega) rs.1
  obtain ⟨p3, e⟩ := told_quarters_loop (t := arcF (p.1 - q * p.2, p.2)) q.toNat 0 0 (some (F p)) (some (.int q)) none S t0
  have rg : fRange1 (aCons (eVar 1) aNil) [some (F p), some (.int q), some (F2 (arcF (p.1 - q * p.2, p.2)).1 (arcF (p.1 - q * p.2, p.2)).2), none] S = .ok (rngL 0 q.toNat) S := rng_ok (j := q) (by simp) (by omega) (by omega)
  unfold f_told_quarters mkFn
  rw [if_pos (show [F p].length = 1 from rfl)]
  have st : DL.start 4 [F p] = [some (F p), none, none, none] := rfl
  have h1 : q_told_quarters_1 [some (F p), none, none, none] S = .nx [some (F p), some (.int q), none, none] S := by simp [q_told_quarters_1, d_div dd, hq]
  have h2 : q_told_quarters_2 [some (F p), some (.int q), none, none] S = .nx [some (F p), some (.int q), some (F2 (arcF (p.1 - q * p.2, p.2)).1 (arcF (p.1 - q * p.2, p.2)).2), none] S := by simp [q_told_quarters_2, mkF, ls, tt]
  rw [st]
  unfold m_told_quarters q_told_quarters_3
  rw [ap_sSeq, h1, then_nx, ap_sSeq, h2, then_nx, ap_sSeq, ap_sFor, rg, st_ok]
  rw [Nat.zero_add] at e
  have e' : forL (gSet 3) q_told_quarters_3B (rngL 0 q.toNat) [some (F p), some (.int q), some (F2 (arcF (p.1 - q * p.2, p.2)).1 (arcF (p.1 - q * p.2, p.2)).2), none] S = _ := e
  rw [e', then_nx]
  unfold turnF
  rw [hq]
  simp
theorem e_law_quarter_on {t : Tn} (h : IsT 2200 t) (S : Sto) : f_law_less [F (0, 1), F t.2] S = .ok (F (-t.2.1, t.2.2)) S := by
  have l := e_law_less (x := (0, 1)) (sz_w (by decide)) (h.sb.mono (m := 4400) (by omega)) S (by simp only; have := low_ne h.lb; omega)
  simp only [Int.zero_mul, Int.zero_sub, Int.one_mul, Int.mul_one] at l
  rw [red_neg (low_ne h.lb), red_of_low h.lb] at l
  exact l
theorem law_quarters_loop {t : Tn} : ∀ (n : Nat) (j : Nat) (i : Int) (o0 o1 o3 : Option D) (S : Sto), IsT 2200 (rotFN t j) → ∃ p3, forL (gSet 3) q_law_quarters_3B (rngL i n) [o0, o1, some (F2 (rotFN t j).1 (rotFN t j).2), o3] S = .nx [o0, o1, some (F2 (rotFN t (j + n)).1 (rotFN t (j + n)).2), p3] S
  | 0, j, i, o0, o1, o3, S, h => ⟨o3, rfl⟩
  | n + 1, j, i, o0, o1, o3, S, h => by
    obtain ⟨p3, e⟩ := law_quarters_loop n (j + 1) (i + 1) o0 o1 (some (.int i)) S h.rot
    refine ⟨p3, ?_⟩
    have q := fun S => e_law_quarter_on h S
    rw [show j + (n + 1) = j + 1 + n by omega, ← e]
    simp [rngL, forL, q_law_quarters_3B, q_law_quarters_3_1, F2, mkF, q, rotFN, rotF]
theorem e_law_quarters {p : Int × Int} (l : Low p) (h0 : 0 ≤ p.1) (h4 : p.1 < 4 * p.2) (hs : p.2.natAbs ≤ 1099511627776) (S : Sto) : f_law_quarters [F p] S = .ok (F2 (turnF p).1 (turnF p).2) S := by
  have pp := l.pos
  have w := whole_of l h0 h4
  have rs := rest_sq l hs
  obtain ⟨q, hq⟩ : ∃ q, p.1.fdiv p.2 = q := ⟨_, rfl⟩
  rw [hq] at w rs
  have dd : divOk p.2 = true := d40 (by omega) (by omega)
  have qp : (q * p.2).natAbs ≤ 4 * 1099511627776 := by rw [Int.natAbs_mul]; exact Nat.mul_le_mul (by omega) hs
  have sp : Sz 4400 p := ⟨Nat.lt_of_lt_of_le (show _ < 2 ^ 60 by omega) (Nat.pow_le_pow_right (by decide) (by decide)), lt_of40 hs (by decide)⟩
  have ls := fun S => e_law_less sp (y := (q, 1)) (sz_w (by omega) (by decide)) S (by simp only; omega)
  simp only [Int.mul_one] at ls
  have lo := low_sub l q
  rw [red_of_low lo] at ls
  have tt := fun S => e_law_turn_of (h := (p.1 - q * p.2, p.2)) (by simp only; omega) rs.1 (sz_of (n := 2200) (x := (p.1 - q * p.2, p.2)) rs.2 hs) S
  have t0 : IsT 2200 (rotFN (arcF (p.1 - q * p.2, p.2)) 0) := arc_isT (by simp only; omega) rs.1
  obtain ⟨p3, e⟩ := law_quarters_loop (t := arcF (p.1 - q * p.2, p.2)) q.toNat 0 0 (some (F p)) (some (.int q)) none S t0
  have rg : fRange1 (aCons (eVar 1) aNil) [some (F p), some (.int q), some (F2 (arcF (p.1 - q * p.2, p.2)).1 (arcF (p.1 - q * p.2, p.2)).2), none] S = .ok (rngL 0 q.toNat) S := rng_ok (j := q) (by simp) (by omega) (by omega)
  unfold f_law_quarters mkFn
  rw [if_pos (show [F p].length = 1 from rfl)]
  have st : DL.start 4 [F p] = [some (F p), none, none, none] := rfl
  have h1 : q_law_quarters_1 [some (F p), none, none, none] S = .nx [some (F p), some (.int q), none, none] S := by simp [q_law_quarters_1, d_div dd, hq]
  have h2 : q_law_quarters_2 [some (F p), some (.int q), none, none] S = .nx [some (F p), some (.int q), some (F2 (arcF (p.1 - q * p.2, p.2)).1 (arcF (p.1 - q * p.2, p.2)).2), none] S := by simp [q_law_quarters_2, mkF, ls, tt]
  rw [st]
  unfold m_law_quarters q_law_quarters_3
  rw [ap_sSeq, h1, then_nx, ap_sSeq, h2, then_nx, ap_sSeq, ap_sFor, rg, st_ok]
  rw [Nat.zero_add] at e
  have e' : forL (gSet 3) q_law_quarters_3B (rngL 0 q.toNat) [some (F p), some (.int q), some (F2 (arcF (p.1 - q * p.2, p.2)).1 (arcF (p.1 - q * p.2, p.2)).2), none] S = _ := e
  rw [e', then_nx]
  unfold turnF
  rw [hq]
  simp
theorem all_cells (ns : List Int) (right : ∀ (S : Sto) (n : Nat), PotAt S n 0 → ∃ S', f_law_right [.loc n] S = .ok (.bl true) S' ∧ Flat S') :
    ∀ (ds : List D), (∀ d ∈ ds, ∃ p : Nat, p < 3 ∧ d = .int p) → ∀ S : Sto, Flat S → ∃ bs S', compL [1] (gSet 1) tYes (eCall f_law_right (aCons (eCall f_law_pot (aCons (eVar 0) (aCons (eVar 1) (aNil)))) (aNil))) [some (.lst (ns.map D.int)), none] ds S = .ok bs S' ∧ ∃ cs, bools bs = some cs ∧ cs.all id = true
  | [], _, S, _ => ⟨[], S, rfl, [], rfl, rfl⟩
  | d :: ds, h, S, hF => by
    obtain ⟨p, hp, rfl⟩ := h d (by simp)
    obtain ⟨a, b, e1, h1, h2, h3⟩ := e_pot ns p hp S
    have P : PotAt (S ++ [[.int a, .int b, .int 0]]) S.length 0 := ⟨⟨a, b, 0, by simp, h1, h2, h3, by decide, by decide⟩, hF.app rfl⟩
    obtain ⟨S1, e2, hF1⟩ := right _ _ P
    obtain ⟨bs, S2, e3, cs, e4, e5⟩ := all_cells ns right ds (fun d hd => h d (List.mem_cons_of_mem _ hd)) S1 hF1
    refine ⟨.bl true :: bs, S2, ?_, true :: cs, ?_, ?_⟩
    · unfold compL
      simp [wipeE, e1, e2, e3]
    · simp [bools, e4]
    · simpa using e5
theorem law_true_of (right : ∀ (S : Sto) (n : Nat), PotAt S n 0 → ∃ S', f_law_right [.loc n] S = .ok (.bl true) S' ∧ Flat S') : ∀ ns : List Int, ns.length ≤ 63 → (∀ z ∈ ns, Builtin.Int.intBits z ≤ 1048576) → ∃ S, f_law [.lst (ns.map D.int)] [] = .ok (.bl true) S := by
  intro ns hl _
  obtain ⟨c, hc, e1⟩ := e_cells ns hl 3 (by decide) (by decide) []
  obtain ⟨bs, S', e2, cs, e3, e4⟩ := all_cells ns right (rngL 0 c) (fun d hd => by
    obtain ⟨i, rfl, h1, h2⟩ := rngL_mem c 0 d hd
    exact ⟨i.toNat, by omega, by rw [show ((i.toNat : Nat) : Int) = i by omega]⟩) [] (fun l hl => by simp at hl)
  refine ⟨S', ?_⟩
  have st : DL.start 2 [D.lst (ns.map D.int)] = [some (.lst (ns.map D.int)), none] := rfl
  have lc : c ≤ 16777216 := by omega
  unfold f_law mkFn m_law
  rw [if_pos (show [D.lst (ns.map D.int)].length = 1 from rfl), st]
  simp [e1, e2, fAll, e3, e4, lc]
end K18


set_option linter.all false
set_option autoImplicit false
set_option Elab.async false
set_option maxRecDepth 100000
set_option maxHeartbeats 4000000
/-! the plain law of k18: the last multiple that isn't beyond -/
namespace K18
open PySem DL
theorem fmid {l h : Int} (hl : h - l > 1) : l < (l + h).fdiv 2 ∧ (l + h).fdiv 2 < h := by
  have a := fm (a := l + h) (show (0 : Int) < 2 by decide)
  have e := Int.fmod_add_mul_fdiv (l + h) 2
  omega
/-- m over f in lowest terms -/
theorem part_ok {m f : Int} (hf : 0 < f) (hb : f ≤ 2000000) (h0 : 0 ≤ m) (h4 : m < 4 * f) : Low (red m f) ∧ 0 ≤ (red m f).1 ∧ (red m f).1 < 4 * (red m f).2 ∧ (red m f).2.natAbs ≤ 2000000 := by
  obtain ⟨g, g0, e1, e2, lo⟩ := red_spec m f (by omega)
  have le := (red_le m f (by omega)).2
  generalize red m f = p at *
  have pp := lo.pos
  have gp : 0 < g := by
    by_cases c : 0 < g
    · exact c
    · have := Int.mul_nonpos_of_nonpos_of_nonneg (show g ≤ 0 by omega) (show 0 ≤ p.2 by omega); omega
  refine ⟨lo, ?_, ?_, by omega⟩
  · by_cases c : 0 ≤ p.1
    · exact c
    · have := Int.mul_neg_of_pos_of_neg gp (show p.1 < 0 by omega); omega
  · by_cases c : p.1 < 4 * p.2
    · exact c
    · have := Int.mul_le_mul_of_nonneg_left (show 4 * p.2 ≤ p.1 by omega) (show 0 ≤ g by omega)
      have : g * (4 * p.2) = 4 * (g * p.2) := by grind
      omega
theorem turn_vf {m f : Int} (hf : 0 < f) (hb : f ≤ 2000000) (h0 : 0 ≤ m) (h4 : m < 4 * f) : IsT 100 (turnF (red m f)) := by
  obtain ⟨l, _, _, h⟩ := part_ok hf hb h0 h4
  have := turn_isT l (n := 41) (by omega)
  exact ⟨this.la, this.lb, this.sq, this.sa.mono (by decide), this.sb.mono (by decide)⟩
theorem e_quarters {m f : Int} (hf : 0 < f) (hb : f ≤ 2000000) (h0 : 0 ≤ m) (h4 : m < 4 * f) (S : Sto) : f_told_quarters [F (red m f)] S = .ok (F2 (turnF (red m f)).1 (turnF (red m f)).2) S := by
  obtain ⟨l, a, b, h⟩ := part_ok hf hb h0 h4
  exact e_told_quarters l a b (by omega) S
theorem e_lawquarters {m f : Int} (hf : 0 < f) (hb : f ≤ 2000000) (h0 : 0 ≤ m) (h4 : m < 4 * f) (S : Sto) : f_law_quarters [F (red m f)] S = .ok (F2 (turnF (red m f)).1 (turnF (red m f)).2) S := by
  obtain ⟨l, a, b, h⟩ := part_ok hf hb h0 h4
  exact e_law_quarters l a b (by omega) S
/-! ### place_at -/
def plT : TF := tOf (eBin dGt (eBin dSub (eVar 3) (eVar 2)) (eC (.int 1)))
theorem place_loop {a b : Int × Int} (V : VF a b) {f : Int} (hf : 0 < f) (hb : f ≤ 2000000) (S : Sto) : ∀ (k : Nat) (l h : Int), (h - l).toNat ≤ k → 0 ≤ l → l < h → h ≤ 4 * f → ¬ ahead (vec a b) (turnV l f) → (h = 4 * f ∨ ahead (vec a b) (turnV h f)) → ∀ o4 : Option D,
    ∃ m p3 p4, sWhile plT q_place_at_2B [some (LF a b), some (.int f), some (.int l), some (.int h), o4] S = .nx [some (LF a b), some (.int f), some (.int m), p3, p4] S ∧ 0 ≤ m ∧ m < 4 * f ∧ ¬ ahead (vec a b) (turnV m f) ∧ (m + 1 = 4 * f ∨ ahead (vec a b) (turnV (m + 1) f)) := by
  intro k
  induction k with
  | zero => intro l h hk _ hl; omega
  | succ k ih =>
    intro l h hk l0 hl h4 hn hp o4
    by_cases c : h - l > 1
    · obtain ⟨m, hm⟩ : ∃ m, (l + h).fdiv 2 = m := ⟨_, rfl⟩
      have md := fmid c
      rw [hm] at md
      have d2 : divOk 2 = true := d40 (by decide) (by decide)
      have rt := fun S => e_rate (t := m) (b := f) (by omega) (lt_of40 (by omega) (by decide)) S
      have tq := fun S => e_quarters hf hb (show 0 ≤ m by omega) (show m < 4 * f by omega) S
      have vf := (turn_vf hf hb (show 0 ≤ m by omega) (show m < 4 * f by omega)).vf (by decide)
      have ia := fun S => e_is_ahead V vf S
      have ry := (Ray.refl (vec a b)).ahead (turn_ray (m := m) hf)
      have tt : plT [some (LF a b), some (.int f), some (.int l), some (.int h), o4] S = .ok true S := by
        have c' : 1 < h - l := c
        simp [plT, c']
      by_cases q : ahead (vec a b) (turnV m f)
      · obtain ⟨r, p3, p4, e, z⟩ := ih l m (by omega) l0 md.1 (by omega) hn (.inr q) (some (.int m))
        refine ⟨r, p3, p4, ?_, z⟩
        rw [← e, sWhile_eq, tt]
        simp only [ry, decide_eq_true q] at ia
        simp [q_place_at_2B, q_place_at_2_1, q_place_at_2_2, d_div d2, hm, rt, tq, e_lifted, ia, truD]
      · obtain ⟨r, p3, p4, e, z⟩ := ih m h (by omega) (by omega) md.2 h4 q hp (some (.int m))
        refine ⟨r, p3, p4, ?_, z⟩
        rw [← e, sWhile_eq, tt]
        simp only [ry, decide_eq_false q] at ia
        simp [q_place_at_2B, q_place_at_2_1, q_place_at_2_2, d_div d2, hm, rt, tq, e_lifted, ia, truD]
    · have e : h = l + 1 := by omega
      subst e
      refine ⟨l, some (.int (l + 1)), o4, ?_, l0, by omega, hn, by rcases hp with z | z; exact .inl (by omega); exact .inr z⟩
      have tt : plT [some (LF a b), some (.int f), some (.int l), some (.int (l + 1)), o4] S = .ok false S := by
        have c' : ¬ 1 < l + 1 - l := c
        simp [plT, c']
      rw [sWhile_eq, tt]; rfl
/-- M is the last multiple not beyond -/
def Last (v : Vc) (f M : Int) : Prop := 0 ≤ M ∧ M < 4 * f ∧ ∀ m, 0 ≤ m → m < 4 * f → (¬ ahead v (turnV m f) ↔ m ≤ M)
theorem e_place_at {a b : Int × Int} (V : VF a b) {f M : Int} (hf : 0 < f) (hb : f ≤ 2000000) (L : Last (vec a b) f M) (S : Sto) : f_place_at [LF a b, .int f] S = .ok (.int M) S := by
  obtain ⟨M0, M4, iff⟩ := L
  obtain ⟨m, p3, p4, e, m0, m4, n1, n2⟩ := place_loop V hf hb S (4 * f).toNat 0 (4 * f) (by omega) (by decide) (by omega) (by omega) ((iff 0 (by decide) (by omega)).mpr M0) (.inl rfl) none
  have q1 := (iff m m0 m4).mp n1
  have : m = M := by
    rcases n2 with z | z
    · omega
    · by_cases c : m + 1 < 4 * f
      · have q2 : ¬ (m + 1 ≤ M) := fun y => (iff (m + 1) (by omega) c).mpr y z
        omega
      · omega
  subst this
  have m4' : mulOk 4 f = true := m40 (by decide) (by omega)
  unfold f_place_at mkFn
  rw [if_pos (show [LF a b, D.int f].length = 2 from rfl)]
  have st : DL.start 5 [LF a b, D.int f] = [some (LF a b), some (.int f), none, none, none] := rfl
  have h1 : q_place_at_1 [some (LF a b), some (.int f), none, none, none] S = .nx [some (LF a b), some (.int f), some (.int 0), some (.int (4 * f)), none] S := by
    simp [q_place_at_1, d_mul m4']
  have h2 : q_place_at_2 [some (LF a b), some (.int f), some (.int 0), some (.int (4 * f)), none] S = .nx [some (LF a b), some (.int f), some (.int m), p3, p4] S := e
  rw [st]
  unfold m_place_at
  rw [ap_sSeq, h1, then_nx, ap_sSeq, h2, then_nx]
  simp
/-! ### told by quarters and squares -/
theorem last_of {q : Nat} {v x : Vc} (h : Quad q v x) {f s : Int} (hf : 0 < f) (s0 : 0 ≤ s) (sf : s < f) (h1 : le_arc x s f) (h2 : s + 1 = f ∨ ¬ le_arc x (s + 1) f) : Last v f (q * f + s) := by
  have hq := h.h
  have q0 : 0 ≤ (q : Int) * f := Int.mul_nonneg (by omega) (by omega)
  have q4 : (q : Int) * f ≤ 3 * f := Int.mul_le_mul_of_nonneg_right (by omega) (by omega)
  refine ⟨by omega, by omega, fun m m0 m4 => ?_⟩
  rw [not_ahead_arc h hf m0 m4]
  have a := fm (a := m) hf
  have e := Int.fmod_add_mul_fdiv m f
  have key : le_arc x (m.fmod f) f ↔ m.fmod f ≤ s := by
    constructor
    · intro k
      by_cases c : m.fmod f ≤ s
      · exact c
      · rcases h2 with z | z
        · omega
        · exact absurd (le_arc_mono h.a h.b hf (by omega) (by omega) k) z
    · intro k
      exact le_arc_mono h.a h.b hf a.1 k h1
  rw [key]
  generalize m.fdiv f = r at *
  generalize m.fmod f = t at *
  rcases Int.lt_trichotomy r q with c | c | c
  · have : f * (r + 1) ≤ f * q := Int.mul_le_mul_of_nonneg_left (by omega) (by omega)
    have : f * (r + 1) = f * r + f := by grind
    have : f * (q : Int) = q * f := Int.mul_comm _ _
    omega
  · have : f * r = q * f := by rw [c, Int.mul_comm]
    omega
  · have : f * (q + 1) ≤ f * r := Int.mul_le_mul_of_nonneg_left (by omega) (by omega)
    have : f * ((q : Int) + 1) = q * f + f := by grind
    omega
theorem Last.uniq {v w : Vc} (r : Ray v w) {f M N : Int} (a : Last v f M) (b : Last w f N) : M = N := by
  have key : ∀ m, ahead v (turnV m f) ↔ ahead w (turnV m f) := fun m => r.ahead (Ray.refl _)
  have h1 := (a.2.2 N b.1 b.2.1)
  have h2 := (b.2.2 M a.1 a.2.1)
  rw [key] at h1
  have h3 := (a.2.2 M a.1 a.2.1)
  have h4 := (b.2.2 N b.1 b.2.1)
  rw [key] at h3
  have := h1.mp (h4.mpr (Int.le_refl _))
  have := h2.mp (h3.mpr (Int.le_refl _))
  omega
/-- there is one -/
theorem last_ex {v : Vc} (h : v ≠ (0, 0)) {f : Int} (hf : 0 < f) : ∃ M, Last v f M := by
  obtain ⟨q, x, Q⟩ := quad_of v h
  have : ∀ n : Nat, (n : Int) < f → ∃ s : Int, 0 ≤ s ∧ s ≤ n ∧ le_arc x s f ∧ (s = n ∨ ¬ le_arc x (s + 1) f) := by
    intro n
    induction n with
    | zero => intro _; exact ⟨0, by decide, by decide, by unfold le_arc; have := Int.mul_nonneg (Int.mul_nonneg (show 0 ≤ f by omega) (show 0 ≤ f by omega)) Q.b; simp only [Int.mul_zero, Int.zero_mul, Int.sub_zero]; exact this, .inl rfl⟩
    | succ n ih =>
      intro hn
      obtain ⟨s, a, b, c, d⟩ := ih (by omega)
      rcases d with d | d
      · by_cases k : le_arc x (s + 1) f
        · exact ⟨s + 1, by omega, by omega, k, .inl (by omega)⟩
        · exact ⟨s, a, by omega, c, .inr k⟩
      · exact ⟨s, a, by omega, c, .inr d⟩
  obtain ⟨s, a, b, c, d⟩ := this (f - 1).toNat (by omega)
  exact ⟨_, last_of Q hf a (by omega) c (by rcases d with d | d; exact .inl (by omega); exact .inr d)⟩
/-- twice as fine -/
theorem last_fine {v : Vc} {f M N : Int} (hf : 0 < f) (a : Last v f M) (b : Last v (2 * f) N) : N = 2 * M ∨ N = 2 * M + 1 := by
  obtain ⟨a0, a4, ai⟩ := a
  obtain ⟨b0, b4, bi⟩ := b
  have key : ∀ m, 0 ≤ m → m < 4 * f → (ahead v (turnV (2 * m) (2 * f)) ↔ ahead v (turnV m f)) := fun m _ _ => by
    have r1 := turn_ray (m := 2 * m) (f := 2 * f) (by omega)
    have r2 := turn_ray (m := m) hf
    rw [red_eq (t := 2 * m) (b := 2 * f) (u := m) (d := f) (by omega) (by omega) (by grind)] at r1
    exact (Ray.refl v).ahead (r1.symm.trans r2)
  have h1 : 2 * M ≤ N := by
    rw [← bi (2 * M) (by omega) (by omega), key M a0 a4, ai M a0 a4]; omega
  by_cases c : M + 1 < 4 * f
  · have h2 : ¬ 2 * (M + 1) ≤ N := by
      rw [← bi (2 * (M + 1)) (by omega) (by omega), key (M + 1) (by omega) c, ai (M + 1) (by omega) c]; omega
    omega
  · omega
end K18


set_option linter.all false
set_option autoImplicit false
set_option Elab.async false
set_option maxRecDepth 100000
set_option maxHeartbeats 4000000
/-! the plain law of k18: told by squares; turn_near -/
namespace K18
open PySem DL
/-! ### the law's own search -/
def spT : TF := tOf (eBin dGt (eBin dSub (eVar 7) (eVar 6)) (eC (.int 1)))
theorem spot_loop {x y f : Int} (a : 0 < x) (b : 0 ≤ y) (xb : x ≤ 1000000000000) (yb : y ≤ 1000000000000) (hf : 0 < f) (fb : f ≤ 1000000) (S : Sto) : ∀ (k : Nat) (l h : Int), (h - l).toNat ≤ k → 0 ≤ l → l < h → h ≤ f → le_arc (x, y) l f → (h = f ∨ ¬ le_arc (x, y) h f) → ∀ o0 o4 o5 o8 o9 : Option D,
    ∃ s p7 p8 p9, sWhile spT q_law_spot_near_5B [o0, some (.int f), some (.int x), some (.int y), o4, o5, some (.int l), some (.int h), o8, o9] S = .nx [o0, some (.int f), some (.int x), some (.int y), o4, o5, some (.int s), p7, p8, p9] S ∧ 0 ≤ s ∧ s < f ∧ le_arc (x, y) s f ∧ (s + 1 = f ∨ ¬ le_arc (x, y) (s + 1) f) := by
  intro k
  induction k with
  | zero => intro l h hk _ hl; omega
  | succ k ih =>
    intro l h hk l0 hl h4 hn hp o0 o4 o5 o8 o9
    by_cases c : h - l > 1
    · obtain ⟨m, hm⟩ : ∃ m, (l + h).fdiv 2 = m := ⟨_, rfl⟩
      have md := fmid c
      rw [hm] at md
      have d2 : divOk 2 = true := d40 (by decide) (by decide)
      have sq := le_arc_sq (x := (x, y)) a b hf (n := m) (by omega) (by omega)
      simp only at sq
      have fy : (f * y).natAbs ≤ 1000000 * 1000000000000 := by rw [Int.natAbs_mul]; exact Nat.mul_le_mul (by omega) (by omega)
      have mx : (m * x).natAbs ≤ 1000000 * 1000000000000 := by rw [Int.natAbs_mul]; exact Nat.mul_le_mul (by omega) (by omega)
      have big : ∀ {i : Int}, i.natAbs ≤ 2000000000000000000 → i.natAbs < 2 ^ 70 := fun h => by omega
      have mm : (m * m).natAbs ≤ 1000000 * 1000000 := by rw [Int.natAbs_mul]; exact Nat.mul_le_mul (by omega) (by omega)
      have xx : (x * x).natAbs < 2 ^ (70 + 70) := mul_lt (big (by omega)) (big (by omega))
      have yy : (y * y).natAbs < 2 ^ (70 + 70) := mul_lt (big (by omega)) (big (by omega))
      have k1 : mulOk f y = true := m40 (by omega) (by omega)
      have k2 : mulOk m x = true := m40 (by omega) (by omega)
      have k3 : mulOk m m = true := m40 (by omega) (by omega)
      have k4 : mulOk x x = true := m40 (by omega) (by omega)
      have k5 : mulOk y y = true := m40 (by omega) (by omega)
      have k6 : mulOk (m * m) (x * x + y * y) = true := mul_ok (n := 70) (m := 150) (big (by omega)) (by omega)
      have k7 : mulOk (f * y - m * x) (f * y - m * x) = true := mul_ok (n := 70) (m := 70) (big (by omega)) (big (by omega))
      have tt : spT [o0, some (.int f), some (.int x), some (.int y), o4, o5, some (.int l), some (.int h), o8, o9] S = .ok true S := by
        have c' : 1 < h - l := c
        simp [spT, c']
      by_cases q : le_arc (x, y) m f
      · obtain ⟨r, p7, p8, p9, e, z⟩ := ih m h (by omega) (by omega) md.2 h4 q hp o0 o4 o5 (some (.int m)) (some (.int (f * y - m * x)))
        refine ⟨r, p7, p8, p9, ?_, z⟩
        obtain ⟨q1, q2⟩ := sq.mp q
        have q1' : m * x ≤ f * y := by omega
        rw [← e, sWhile_eq, tt]
        simp [q_law_spot_near_5B, q_law_spot_near_5_1, q_law_spot_near_5_2, q_law_spot_near_5_3, d_div d2, hm, d_mul k1, d_mul k2, d_mul k3, d_mul k4, d_mul k5, d_mul k6, d_mul k7, q1', q2]
      · obtain ⟨r, p7, p8, p9, e, z⟩ := ih l m (by omega) l0 md.1 (by omega) hn (.inr q) o0 o4 o5 (some (.int m)) (some (.int (f * y - m * x)))
        refine ⟨r, p7, p8, p9, ?_, z⟩
        rw [← e, sWhile_eq, tt]
        by_cases q1 : m * x ≤ f * y
        · have q2 : ¬ m * m * (x * x + y * y) ≤ (f * y - m * x) * (f * y - m * x) := fun z => q (sq.mpr ⟨by omega, z⟩)
          simp [q_law_spot_near_5B, q_law_spot_near_5_1, q_law_spot_near_5_2, q_law_spot_near_5_3, d_div d2, hm, d_mul k1, d_mul k2, d_mul k3, d_mul k4, d_mul k5, d_mul k6, d_mul k7, q1]
          rw [decide_eq_false q2]
        · simp [q_law_spot_near_5B, q_law_spot_near_5_1, q_law_spot_near_5_2, q_law_spot_near_5_3, d_div d2, hm, d_mul k1, d_mul k2, q1]
    · have e : h = l + 1 := by omega
      subst e
      refine ⟨l, some (.int (l + 1)), o8, o9, ?_, l0, by omega, hn, by rcases hp with z | z; exact .inl (by omega); exact .inr z⟩
      have tt : spT [o0, some (.int f), some (.int x), some (.int y), o4, o5, some (.int l), some (.int (l + 1)), o8, o9] S = .ok false S := by
        have c' : ¬ 1 < l + 1 - l := c
        simp [spT, c']
      rw [sWhile_eq, tt]; rfl
theorem spot_quarter {q : Nat} {v x : Vc} (h : Quad q v x) (o0 o1 o5 o6 o7 o8 o9 : Option D) (S : Sto) : ∃ p5, forL (gSet 5) q_law_spot_near_3B (rngL 0 3) [o0, o1, some (.int v.1), some (.int v.2), some (.int 0), o5, o6, o7, o8, o9] S = .nx [o0, o1, some (.int x.1), some (.int x.2), some (.int q), p5, o6, o7, o8, o9] S := by
  obtain ⟨rfl, hq, a, b⟩ := h
  obtain ⟨x1, x2⟩ := x
  simp only at a b
  have n1 : ¬ x1 ≤ 0 := by omega
  have n2 : ¬ x2 < 0 := by omega
  have : q = 0 ∨ q = 1 ∨ q = 2 ∨ q = 3 := by omega
  refine ⟨some (.int 2), ?_⟩
  rcases this with rfl | rfl | rfl | rfl
  · simp [rotN, rngL, forL, q_law_spot_near_3B, q_law_spot_near_3_1, q_law_spot_near_3_1a_1, n1, n2]
  · have c1 : -x2 ≤ 0 := by omega
    simp [rotN, rotV, rngL, forL, q_law_spot_near_3B, q_law_spot_near_3_1, q_law_spot_near_3_1a_1, n1, n2, b]
  · have c1 : -x1 ≤ 0 := by omega
    have c2 : 0 ≤ x1 := by omega
    simp [rotN, rotV, rngL, forL, q_law_spot_near_3B, q_law_spot_near_3_1, q_law_spot_near_3_1a_1, n1, n2, b, c2]
  · have c2 : 0 ≤ x1 := by omega
    by_cases z : x2 ≤ 0
    · have z0 : x2 = 0 := by omega
      subst z0
      simp [rotN, rotV, rngL, forL, q_law_spot_near_3B, q_law_spot_near_3_1, q_law_spot_near_3_1a_1, n1, c2, a]
    · simp [rotN, rotV, rngL, forL, q_law_spot_near_3B, q_law_spot_near_3_1, q_law_spot_near_3_1a_1, n1, n2, b, c2, z, a]
/-- a told fraction -/
structure Fr (x : Int × Int) : Prop where
  low : Low x
  a : x.1.natAbs ≤ 1000000
  b : x.2 ≤ 1000000
theorem Fr.sz {x : Int × Int} (h : Fr x) {n : Nat} (hn : 41 ≤ n := by decide) : Sz n x := ⟨lt_of40 (by have := h.a; omega) hn, lt_of40 (by have := h.b; have := h.low.pos; omega) hn⟩
theorem Fr.vf {x y : Int × Int} (h : Fr x) (k : Fr y) : VF x y := ⟨h.sz, k.sz, h.low.pos, k.low.pos⟩
theorem vec_ne {a b : Int × Int} (ha : Low a) (hb : Low b) (h : ¬ (a = (0, 1) ∧ b = (0, 1))) : vec a b ≠ (0, 0) := by
  intro e
  have e1 : a.1 * b.2 = 0 := congrArg Prod.fst e
  have e2 : b.1 * a.2 = 0 := congrArg Prod.snd e
  have z : ∀ {x : Int × Int}, Low x → x.1 = 0 → x = (0, 1) := fun {x} l h => low_uniq l (low_whole 0) (by rw [h]; simp)
  refine h ⟨z ha ?_, z hb ?_⟩
  · rcases Int.mul_eq_zero.mp e1 with q | q
    · exact q
    · exact absurd q (low_ne hb)
  · rcases Int.mul_eq_zero.mp e2 with q | q
    · exact q
    · exact absurd q (low_ne ha)
theorem rot_abs {x v : Vc} {q : Nat} (h : Quad q v x) {n : Nat} (h1 : v.1.natAbs ≤ n) (h2 : v.2.natAbs ≤ n) : x.1.natAbs ≤ n ∧ x.2.natAbs ≤ n := by
  obtain ⟨rfl, hq, a, b⟩ := h
  have : q = 0 ∨ q = 1 ∨ q = 2 ∨ q = 3 := by omega
  rcases this with rfl | rfl | rfl | rfl <;> simp only [rotN, rotV, Int.natAbs_neg] at h1 h2 <;> exact ⟨by omega, by omega⟩
theorem e_spot_near {a b : Int × Int} (ha : Fr a) (hb : Fr b) (hn : ¬ (a = (0, 1) ∧ b = (0, 1))) {f : Int} (hf : 0 < f) (fb : f ≤ 1000000) (S : Sto) : ∃ q s : Int, Last (vec a b) f (q * f + s) ∧ 0 ≤ q ∧ q < 4 ∧ 0 ≤ s ∧ s < f ∧ f_law_spot_near [F2 a b, .int f] S = .ok (.tup [.int q, .int s]) S := by
  obtain ⟨q, x, Q⟩ := quad_of _ (vec_ne ha.low hb.low hn)
  have a1 := ha.a; have a2 := ha.b; have a3 := ha.low.pos; have b1 := hb.a; have b2 := hb.b; have b3 := hb.low.pos
  have v1 : (vec a b).1.natAbs ≤ 1000000 * 1000000 := by show (a.1 * b.2).natAbs ≤ _; rw [Int.natAbs_mul]; exact Nat.mul_le_mul (by omega) (by omega)
  have v2 : (vec a b).2.natAbs ≤ 1000000 * 1000000 := by show (b.1 * a.2).natAbs ≤ _; rw [Int.natAbs_mul]; exact Nat.mul_le_mul (by omega) (by omega)
  have xs := rot_abs Q v1 v2
  have x0 := Q.a
  have y0 := Q.b
  obtain ⟨p5, e1⟩ := spot_quarter Q (some (F2 a b)) (some (.int f)) none none none none none S
  have l0 : le_arc (x.1, x.2) 0 f := by
    unfold le_arc
    have := Int.mul_nonneg (Int.mul_nonneg (show 0 ≤ f by omega) (show 0 ≤ f by omega)) y0
    simp only [Int.mul_zero, Int.zero_mul, Int.sub_zero]; exact this
  obtain ⟨s, p7, p8, p9, e2, s0, sf, h1, h2⟩ := spot_loop x0 y0 (by omega) (by omega) hf fb S f.toNat 0 f (by omega) (by decide) hf (Int.le_refl _) l0 (.inl rfl) (some (F2 a b)) (some (.int q)) p5 none none
  refine ⟨q, s, last_of Q hf s0 sf h1 h2, by omega, by have := Q.h; omega, s0, sf, ?_⟩
  have m1 : mulOk a.1 b.2 = true := m40 (by omega) (by omega)
  have m2 : mulOk b.1 a.2 = true := m40 (by omega) (by omega)
  unfold f_law_spot_near mkFn
  rw [if_pos (show [F2 a b, D.int f].length = 2 from rfl)]
  have st : DL.start 10 [F2 a b, D.int f] = [some (F2 a b), some (.int f), none, none, none, none, none, none, none, none] := rfl
  have g1 : q_law_spot_near_1 [some (F2 a b), some (.int f), none, none, none, none, none, none, none, none] S = .nx [some (F2 a b), some (.int f), some (.int (vec a b).1), some (.int (vec a b).2), none, none, none, none, none, none] S := by
    simp [q_law_spot_near_1, F2, d_mul m1, d_mul m2, vec]
  have rg : ∀ ρ, fRange1 (aCons (eC (.int 3)) aNil) ρ S = .ok (rngL 0 3) S := fun ρ => rng_ok (j := 3) (by simp) (by decide) (by decide)
  have g5 : q_law_spot_near_5 [some (F2 a b), some (.int f), some (.int x.1), some (.int x.2), some (.int q), p5, some (.int 0), some (.int f), none, none] S = _ := e2
  rw [st]
  unfold m_law_spot_near q_law_spot_near_3
  rw [ap_sSeq, g1, then_nx, ap_sSeq, ap_sSet]
  simp only [ap_C, st_ok, then_nx, List.set_cons_zero, List.set_cons_succ]
  rw [ap_sSeq, ap_sFor, rg, st_ok, e1, then_nx, ap_sSeq, ap_sPar]
  simp only [ap_cons, ap_C, ap_var, ap_nil, bind_ok, st_ok, List.getElem?_cons_succ, List.getElem?_cons_zero, List.set_cons_zero, List.set_cons_succ, then_nx]
  rw [ap_sSeq, g5, then_nx]
  simp
theorem e_turn_near {a b : Int × Int} (ha : Fr a) (hb : Fr b) (hn : ¬ (a = (0, 1) ∧ b = (0, 1))) {f M : Int} (hf : 0 < f) (fb : f ≤ 1000000) (L : Last (vec a b) f M) (S : Sto) : f_turn_near [F2 a b, .int f] S = .ok (F2 (turnF (red M f)).1 (turnF (red M f)).2) S := by
  have f1 := fun S => e_is_fraction ha.low ha.a ha.b S
  have f2 := fun S => e_is_fraction hb.low hb.a hb.b S
  have ii := fun S => e_is_int f 1 1000000 S
  rw [decide_eq_true (show 1 ≤ f by omega), decide_eq_true fb] at ii
  have pa := fun S => e_place_at (ha.vf hb) hf (by omega) L S
  have rt := fun S => e_rate (t := M) (b := f) (by omega) (lt_of40 (by omega) (by decide)) S
  have tq := fun S => e_quarters hf (by omega) L.1 L.2.1 S
  have ez : ∀ S, dEq (F2 a b) (.tup [k_ZERO, k_ZERO]) S = .ok (.bl false) S := fun S => by
    have : D.tup [k_ZERO, k_ZERO] = F2 (0, 1) (0, 1) := rfl
    rw [this]; unfold dEq; rw [eqF2, decide_eq_false hn]
  have fx : F2 a b = .tup [F a, F b] := rfl
  rw [fx] at ez
  have lf := fun S => e_lifted a b S
  rw [fx] at lf ⊢
  simp [f_turn_near, mkFn, m_turn_near, DL.start, isTupT, truD, dNeI, compL, wipeE, f1, f2, fAll, bools, ez, p10_6, ii, lf, pa, rt, tq]
end K18


set_option linter.all false
set_option autoImplicit false
set_option Elab.async false
set_option maxRecDepth 100000
set_option maxHeartbeats 4000000
/-! the plain law of k18: one way -/
namespace K18
open PySem DL
theorem fromTo_ray {l l' o o' h h' : Vc} (a : Ray l l') (b : Ray o o') (c : Ray h h') : fromToV l o h = fromToV l' o' h' := by
  have e1 := propext (a.same c)
  have e2 := propext (a.same b)
  have e3 := propext (c.same b)
  have e4 := propext (a.ahead b)
  have e5 := propext (b.ahead c)
  have e6 := propext (c.ahead a)
  unfold fromToV btw
  simp only [e1, e2, e3, e4, e5, e6]
/-- from a multiple to the next one -/
theorem from_to_next {f M N : Int} (hf : 0 < f) (m0 : 0 ≤ M) (m4 : M < 4 * f) (h : N = 2 * M ∨ N = 2 * M + 1) {c : Int} (hc : (M + 1 < 4 * f ∧ c = M + 1) ∨ (M + 1 = 4 * f ∧ c = 0)) : fromToV (turnV (2 * M) (2 * f)) (turnV N (2 * f)) (turnV (2 * c) (2 * f)) = true := by
  have F0 : 0 < 2 * f := by omega
  have sm := fun (m n : Int) (a : 0 ≤ m) (b : m < 4 * (2 * f)) (c : 0 ≤ n) (d : n < 4 * (2 * f)) => propext (turn_same F0 a b c d)
  have am := fun (m n : Int) (a : 0 ≤ m) (b : m < 4 * (2 * f)) (c : 0 ≤ n) (d : n < 4 * (2 * f)) => propext (turn_ahead F0 a b c d)
  have c0 : 0 ≤ c ∧ c < 4 * f := by omega
  have N0 : 0 ≤ N ∧ N < 4 * (2 * f) := by omega
  unfold fromToV btw
  simp only [sm (2 * M) (2 * c) (by omega) (by omega) (by omega) (by omega), sm (2 * M) N (by omega) (by omega) (by omega) (by omega), sm (2 * c) N (by omega) (by omega) (by omega) (by omega), am (2 * M) N (by omega) (by omega) (by omega) (by omega), am N (2 * c) (by omega) (by omega) (by omega) (by omega), am (2 * c) (2 * M) (by omega) (by omega) (by omega) (by omega)]
  rw [if_neg (by omega)]
  rcases h with rfl | rfl
  · simp
  · have x1 : ¬ (2 * M = 2 * M + 1) := by omega
    have x2 : ¬ (2 * c = 2 * M + 1) := by omega
    have x3 : ¬ (2 * M = 2 * c) := by omega
    rcases hc with ⟨_, rfl⟩ | ⟨y, rfl⟩
    · have x4 : 2 * M + 1 < 2 * (M + 1) := by omega
      have x5 : ¬ 2 * (M + 1) < 2 * M := by omega
      have x6 : 2 * M < 2 * M + 1 := by omega
      rw [decide_eq_false x1, decide_eq_false x2, if_neg (by rintro (z | z); exact x1 z; exact x2 z), if_neg x3, decide_eq_true x4, decide_eq_false x5, decide_eq_true x6]
      rfl
    · have x4 : ¬ 2 * M + 1 < 2 * 0 := by omega
      have x5 : 2 * 0 < 2 * M := by omega
      have x6 : 2 * M < 2 * M + 1 := by omega
      rw [decide_eq_false x1, decide_eq_false x2, if_neg (by rintro (z | z); exact x1 z; exact x2 z), if_neg x3, decide_eq_false x4, decide_eq_true x5, decide_eq_true x6]
      rfl
theorem pdF2 (x y : Int × Int) : (F2 x y).pd = some (.tuple [.tuple [.int x.1, .int x.2], .tuple [.int y.1, .int y.2]]) := by simp [F2, F, D.pd, D.pdL]
theorem rpF2 {x y : Int × Int} (h : Sz 1900 x) (k : Sz 1900 y) : ∃ t, PyData.strOk t = true ∧ ∀ S, fRepr [F2 x y] S = .ok (.str t) S := by
  have pl : plainP (.tuple [.tuple [.int x.1, .int x.2], .tuple [.int y.1, .int y.2]]) = true := by
    simp only [plainP, plainPs, decide_eq_true h.a, decide_eq_true h.b, decide_eq_true k.a, decide_eq_true k.b, Bool.and_self]
  exact ⟨_, ok_shown _ pl, fun S => repr_eq (pdF2 x y) pl (by simp [PyData.bulk, PyData.bulkAll]) (by simp [PyData.depth, PyData.depthAll]) S⟩
theorem eq_self {x : Str} (hx : PyData.strOk x = true) (S : Sto) : dEq (.str x) (.str x) S = .ok (.bl true) S := by
  unfold dEq
  rw [eqS hx hx]; simp
/-- k times as long -/
theorem longer_ray {a b p : Int × Int} (ha : Low a) (hb : Low b) (p1 : 0 < p.1) (p2 : 0 < p.2) : Ray (vec (red (a.1 * p.1) (a.2 * p.2)) (red (b.1 * p.1) (b.2 * p.2))) (vec a b) := by
  have na : a.2 * p.2 ≠ 0 := Int.mul_ne_zero (low_ne ha) (by omega)
  have nb : b.2 * p.2 ≠ 0 := Int.mul_ne_zero (low_ne hb) (by omega)
  have c1 := red_cross (a.1 * p.1) _ na
  have c2 := red_cross (b.1 * p.1) _ nb
  have l1 := (red_low (a.1 * p.1) _ na).pos
  have l2 := (red_low (b.1 * p.1) _ nb).pos
  generalize red (a.1 * p.1) (a.2 * p.2) = x at *
  generalize red (b.1 * p.1) (b.2 * p.2) = y at *
  have pa := ha.pos
  have pb := hb.pos
  refine ⟨a.2 * b.2 * (p.2 * p.2), p.1 * p.2 * (x.2 * y.2), Int.mul_pos (Int.mul_pos pa pb) (Int.mul_pos p2 p2), Int.mul_pos (Int.mul_pos p1 p2) (Int.mul_pos l1 l2), ?_, ?_⟩
  · show a.2 * b.2 * (p.2 * p.2) * (x.1 * y.2) = p.1 * p.2 * (x.2 * y.2) * (a.1 * b.2)
    have : a.2 * b.2 * (p.2 * p.2) * (x.1 * y.2) = (x.1 * (a.2 * p.2)) * (b.2 * p.2 * y.2) := by grind
    rw [this, c1]; grind
  · show a.2 * b.2 * (p.2 * p.2) * (y.1 * x.2) = p.1 * p.2 * (x.2 * y.2) * (b.1 * a.2)
    have : a.2 * b.2 * (p.2 * p.2) * (y.1 * x.2) = (y.1 * (b.2 * p.2)) * (a.2 * p.2 * x.2) := by grind
    rw [this, c2]; grind
theorem red_zero_iff {a b : Int} (hb : b ≠ 0) : red a b = (0, 1) ↔ a = 0 := by
  constructor
  · intro h
    have c := red_cross a b hb
    rw [h] at c; simp at c; omega
  · rintro rfl; exact red_zero hb
theorem isT_sz {t : Tn} (h : IsT 100 t) : Sz 1900 t.1 ∧ Sz 1900 t.2 := ⟨h.sa.mono (by decide), h.sb.mono (by decide)⟩
theorem IsT.up {t : Tn} (h : IsT 100 t) : IsT 1100 t := ⟨h.la, h.lb, h.sq, h.sa.mono (by decide), h.sb.mono (by decide)⟩
theorem e_way_right {S : Sto} {n : Nat} {k : Int} (P : PotAt S n k) (hk : k < 900) {a b : Int × Int} (ha : Fr a) (hb : Fr b) (hn : ¬ (a = (0, 1) ∧ b = (0, 1))) {f : Int} (hf : 0 < f) (fb : f ≤ 1000000) :
    ∃ S', f_law_is_way_right [.loc n, F2 a b, .int f] S = .ok (.bl true) S' ∧ PotAt S' n (k + 1) := by
  obtain ⟨q, s, L, q0, q4, s0, sf, e1⟩ := e_spot_near ha hb hn hf fb S
  obtain ⟨M, hM⟩ : ∃ M, q * f + s = M := ⟨_, rfl⟩
  rw [hM] at L
  have qf : (q * f).natAbs ≤ 4 * 1000000 := by rw [Int.natAbs_mul]; exact Nat.mul_le_mul (by omega) (by omega)
  have mqf : mulOk q f = true := m40 (by omega) (by omega)
  have rt := fun S => e_law_rate (t := M) (b := f) (by omega) (lt_of40 (by omega) (by decide)) S
  have tq := fun S => e_lawquarters hf (by omega) L.1 L.2.1 S
  have tn := fun S => e_turn_near ha hb hn hf fb L S
  have t1 := turn_vf hf (by omega) L.1 L.2.1
  obtain ⟨t, ot, rp⟩ := rpF2 (isT_sz t1).1 (isT_sz t1).2
  have ns := fun S => ne_self ot S
  have es := fun S => eq_self ot S
  obtain ⟨x, S1, hx, e6, P1, L1⟩ := e_of P (by omega) [F (2, 1), F (1, 3), F (7, 5)] (by simp) (by simp)
  obtain ⟨p, rfl, p1, p2, pb1, pb2⟩ : ∃ p : Int × Int, x = F p ∧ 0 < p.1 ∧ 0 < p.2 ∧ p.1 ≤ 7 ∧ p.2 ≤ 7 := by
    simp only [List.mem_cons, List.not_mem_nil, or_false] at hx
    rcases hx with rfl | rfl | rfl
    · exact ⟨(2, 1), rfl, by decide, by decide, by decide, by decide⟩
    · exact ⟨(1, 3), rfl, by decide, by decide, by decide, by decide⟩
    · exact ⟨(7, 5), rfl, by decide, by decide, by decide, by decide⟩
  have na : a.2 * p.2 ≠ 0 := Int.mul_ne_zero (low_ne ha.low) (by omega)
  have nb : b.2 * p.2 ≠ 0 := Int.mul_ne_zero (low_ne hb.low) (by omega)
  have lt1 := fun S => e_law_times ha.sz (y := p) (sz_of (by omega) (by omega)) S na
  have lt2 := fun S => e_law_times hb.sz (y := p) (sz_of (by omega) (by omega)) S nb
  refine ⟨S1, ?_, P1⟩
  have fx : F2 a b = .tup [F a, F b] := rfl
  -- the first part
  have g1 : q_law_is_way_right_1 [some (.loc n), some (F2 a b), some (.int f), none, none, none, none, none, none, none, none, none] S = .nx [some (.loc n), some (F2 a b), some (.int f), some (.int q), some (.int s), none, none, none, none, none, none, none] S := by
    simp [q_law_is_way_right_1, e1]
  have g2 : q_law_is_way_right_2 [some (.loc n), some (F2 a b), some (.int f), some (.int q), some (.int s), none, none, none, none, none, none, none] S = .nx [some (.loc n), some (F2 a b), some (.int f), some (.int q), some (.int s), some (F2 (turnF (red M f)).1 (turnF (red M f)).2), none, none, none, none, none, none] S := by
    simp [q_law_is_way_right_2, d_mul mqf, hM, rt, tq]
  have g3 : ∀ o6 o7 o8 o9 o10 o11, q_law_is_way_right_3 [some (.loc n), some (F2 a b), some (.int f), some (.int q), some (.int s), some (F2 (turnF (red M f)).1 (turnF (red M f)).2), o6, o7, o8, o9, o10, o11] S = .nx [some (.loc n), some (F2 a b), some (.int f), some (.int q), some (.int s), some (F2 (turnF (red M f)).1 (turnF (red M f)).2), o6, o7, o8, o9, o10, o11] S := fun _ _ _ _ _ _ => by
    simp [q_law_is_way_right_3, tn, rp, ns]
  have g4 : ∃ o8 o9 o10, q_law_is_way_right_4 [some (.loc n), some (F2 a b), some (.int f), some (.int q), some (.int s), some (F2 (turnF (red M f)).1 (turnF (red M f)).2), none, none, none, none, none, none] S = .nx [some (.loc n), some (F2 a b), some (.int f), some (.int q), some (.int s), some (F2 (turnF (red M f)).1 (turnF (red M f)).2), none, none, o8, o9, o10, none] S := by
    by_cases c : f ≤ 500000
    · obtain ⟨N, LN⟩ := last_ex (vec_ne ha.low hb.low hn) (f := 2 * f) (by omega)
      have MN := last_fine hf L LN
      obtain ⟨c', hc⟩ : ∃ c' : Int, (M + 1 < 4 * f ∧ c' = M + 1) ∨ (M + 1 = 4 * f ∧ c' = 0) := by
        by_cases z : M + 1 < 4 * f
        · exact ⟨M + 1, .inl ⟨z, rfl⟩⟩
        · exact ⟨0, .inr ⟨by have := L.2.1; omega, rfl⟩⟩
      have L0 := L.1; have L4 := L.2.1
      have md : (M + 1).fmod (4 * f) = c' := by
        rcases hc with ⟨z, rfl⟩ | ⟨z, rfl⟩
        · rw [Int.fmod_eq_emod_of_nonneg _ (by omega), Int.emod_eq_of_lt (by omega) z]
        · rw [z]; exact Int.fmod_self
      have m2 : mulOk 2 f = true := m40 (by decide) (by omega)
      have m4 : mulOk 4 f = true := m40 (by decide) (by omega)
      have tn2 := fun S => e_turn_near ha hb hn (f := 2 * f) (by omega) (by omega) LN S
      have rt3 := fun S => e_law_rate (t := c') (b := f) (by omega) (lt_of40 (by omega) (by decide)) S
      have tq3 := fun S => e_lawquarters (m := c') hf (by omega) (by omega) (by omega) S
      have t2 := turn_vf (f := 2 * f) (by omega) (by omega) LN.1 LN.2.1
      have t3 := turn_vf (m := c') hf (by omega) (by omega) (by omega)
      have ft := fun S => e_is_from_to (IsT.up t1) (IsT.up t2) (IsT.up t3) S
      have r1 := turn_ray (m := 2 * M) (f := 2 * f) (by omega)
      rw [red_eq (t := 2 * M) (b := 2 * f) (u := M) (d := f) (by omega) (by omega) (by grind)] at r1
      have r2 := turn_ray (m := N) (f := 2 * f) (by omega)
      have r3 := turn_ray (m := 2 * c') (f := 2 * f) (by omega)
      rw [red_eq (t := 2 * c') (b := 2 * f) (u := c') (d := f) (by omega) (by omega) (by grind)] at r3
      have fv : ∀ S, f_is_from_to [F2 (turnF (red M f)).1 (turnF (red M f)).2, F2 (turnF (red N (2 * f))).1 (turnF (red N (2 * f))).2, F2 (turnF (red c' f)).1 (turnF (red c' f)).2] S = .ok (.bl true) S := fun S => by
        rw [ft, fromTo_ray r1 r2 r3, from_to_next hf L0 L4 MN hc]
      have ne : ∀ S, dEq (F2 (turnF (red N (2 * f))).1 (turnF (red N (2 * f))).2) (F2 (turnF (red c' f)).1 (turnF (red c' f)).2) S = .ok (.bl false) S := fun S => by
        unfold dEq
        rw [eqF2, decide_eq_false]
        rintro ⟨x1, x2⟩
        have F0 : 0 < 2 * f := by omega
        have N0 := LN.1; have N4 := LN.2.1
        have s1 : sameW (turnV N (2 * f)) (turnV N (2 * f)) := (turn_same F0 N0 N4 N0 N4).mpr rfl
        have s2 := (r2.same r2).mpr s1
        have s3 : sameW (vec (turnF (red N (2 * f))).1 (turnF (red N (2 * f))).2) (vec (turnF (red c' f)).1 (turnF (red c' f)).2) := by rw [← x1, ← x2]; exact s2
        have s4 := (turn_same F0 N0 N4 (show 0 ≤ 2 * c' by omega) (by omega)).mp ((r2.same r3).mp s3)
        omega
      have ib := fun S => e_law_is_bool true true S
      have n4 : 4 * f ≠ 0 := by omega
      have mm : ∀ S, dMod (.int (M + 1)) (.int (4 * f)) S = .ok (.int c') S := fun S => by rw [d_mod n4, md]
      refine ⟨some (F2 (turnF (red N (2 * f))).1 (turnF (red N (2 * f))).2), some (.int c'), some (F2 (turnF (red c' f)).1 (turnF (red c' f)).2), ?_⟩
      simp [q_law_is_way_right_4, c, q_law_is_way_right_4a_1, d_mul m2, d_mul m4, d_mul mqf, hM, tn2, mm, q_law_is_way_right_4a_2, rt3, tq3, q_law_is_way_right_4a_3, fv, ib, truD, ne]
    · exact ⟨none, none, none, by simp [q_law_is_way_right_4, c]⟩
  obtain ⟨o8, o9, o10, g4⟩ := g4
  have g5 : q_law_is_way_right_5 [some (.loc n), some (F2 a b), some (.int f), some (.int q), some (.int s), some (F2 (turnF (red M f)).1 (turnF (red M f)).2), none, none, o8, o9, o10, none] S = .nx [some (.loc n), some (F2 a b), some (.int f), some (.int q), some (.int s), some (F2 (turnF (red M f)).1 (turnF (red M f)).2), some (F p), none, o8, o9, o10, none] S1 := by
    have e6' : f_law_of [.loc n, .lst [.tup [.int 2, .int 1], .tup [.int 1, .int 3], .tup [.int 7, .int 5]]] S = .ok (F p) S1 := e6
    simp [q_law_is_way_right_5, e6']
  have g6 : q_law_is_way_right_6 [some (.loc n), some (F2 a b), some (.int f), some (.int q), some (.int s), some (F2 (turnF (red M f)).1 (turnF (red M f)).2), some (F p), none, o8, o9, o10, none] S1 = .nx [some (.loc n), some (F2 a b), some (.int f), some (.int q), some (.int s), some (F2 (turnF (red M f)).1 (turnF (red M f)).2), some (F p), some (F2 (red (a.1 * p.1) (a.2 * p.2)) (red (b.1 * p.1) (b.2 * p.2))), o8, o9, o10, none] S1 := by
    rw [fx]
    simp [q_law_is_way_right_6, compL, wipeE, lt1, lt2, fTuple, items]
    rfl
  have rl := longer_ray ha.low hb.low p1 p2
  have lo1 := red_low (a.1 * p.1) _ na
  have lo2 := red_low (b.1 * p.1) _ nb
  have zz : ¬ (red (a.1 * p.1) (a.2 * p.2) = (0, 1) ∧ red (b.1 * p.1) (b.2 * p.2) = (0, 1)) := by
    rw [red_zero_iff na, red_zero_iff nb]
    rintro ⟨x, y⟩
    refine hn ⟨?_, ?_⟩
    · have : a.1 = 0 := by rcases Int.mul_eq_zero.mp x with z | z; exact z; omega
      exact low_uniq ha.low (low_whole 0) (by rw [this]; simp)
    · have : b.1 = 0 := by rcases Int.mul_eq_zero.mp y with z | z; exact z; omega
      exact low_uniq hb.low (low_whole 0) (by rw [this]; simp)
  generalize red (a.1 * p.1) (a.2 * p.2) = a' at *
  generalize red (b.1 * p.1) (b.2 * p.2) = b' at *
  have L' : Last (vec a' b') f M := by
    obtain ⟨N, LN⟩ := last_ex (vec_ne lo1 lo2 zz) hf
    rw [Last.uniq rl.symm L LN]; exact LN
  have g7 : (q_law_is_way_right_7 [some (.loc n), some (F2 a b), some (.int f), some (.int q), some (.int s), some (F2 (turnF (red M f)).1 (turnF (red M f)).2), some (F p), some (F2 a' b'), o8, o9, o10, none] S1 = .rt (.bl true) S1) ∨
      q_law_is_way_right_7 [some (.loc n), some (F2 a b), some (.int f), some (.int q), some (.int s), some (F2 (turnF (red M f)).1 (turnF (red M f)).2), some (F p), some (F2 a' b'), o8, o9, o10, none] S1 = .nx [some (.loc n), some (F2 a b), some (.int f), some (.int q), some (.int s), some (F2 (turnF (red M f)).1 (turnF (red M f)).2), some (F p), some (F2 a' b'), o8, o9, o10, none] S1 := by
    have fx' : F2 a' b' = .tup [F a', F b'] := rfl
    by_cases c1 : (a'.1.natAbs : Int) ≤ 1000000
    · by_cases c2 : a'.2 ≤ 1000000
      · by_cases c3 : (b'.1.natAbs : Int) ≤ 1000000
        · by_cases c4 : b'.2 ≤ 1000000
          · have tn' := fun S => e_turn_near (a := a') (b := b') ⟨lo1, by omega, c2⟩ ⟨lo2, by omega, c4⟩ zz hf fb L' S
            rw [fx'] at tn' ⊢
            left
            simp [q_law_is_way_right_7, compL, wipeE, p10_6, c1, c2, c3, c4, fAll, bools, truD, q_law_is_way_right_7a_1, tn', rp, es]
          · right; rw [fx']; simp [q_law_is_way_right_7, compL, wipeE, p10_6, c1, c2, c3, c4, fAll, bools, truD]
        · right; rw [fx']; simp [q_law_is_way_right_7, compL, wipeE, p10_6, c1, c2, c3, fAll, bools, truD]
      · right; rw [fx']
        by_cases c3 : (b'.1.natAbs : Int) ≤ 1000000
        · by_cases c4 : b'.2 ≤ 1000000
          · simp [q_law_is_way_right_7, compL, wipeE, p10_6, c1, c2, c3, c4, fAll, bools, truD]
          · simp [q_law_is_way_right_7, compL, wipeE, p10_6, c1, c2, c3, c4, fAll, bools, truD]
        · simp [q_law_is_way_right_7, compL, wipeE, p10_6, c1, c2, c3, fAll, bools, truD]
    · right; rw [fx']
      by_cases c3 : (b'.1.natAbs : Int) ≤ 1000000
      · by_cases c4 : b'.2 ≤ 1000000
        · simp [q_law_is_way_right_7, compL, wipeE, p10_6, c1, c3, c4, fAll, bools, truD]
        · simp [q_law_is_way_right_7, compL, wipeE, p10_6, c1, c3, c4, fAll, bools, truD]
      · simp [q_law_is_way_right_7, compL, wipeE, p10_6, c1, c3, fAll, bools, truD]
  unfold f_law_is_way_right mkFn
  rw [if_pos (show [D.loc n, F2 a b, D.int f].length = 3 from rfl)]
  have st : DL.start 12 [D.loc n, F2 a b, D.int f] = [some (.loc n), some (F2 a b), some (.int f), none, none, none, none, none, none, none, none, none] := rfl
  rw [st]
  unfold m_law_is_way_right
  rw [ap_sSeq, g1, then_nx, ap_sSeq, g2, then_nx, ap_sSeq, g3, then_nx, ap_sSeq, g4, then_nx, ap_sSeq, g5, then_nx, ap_sSeq, g6, then_nx, ap_sSeq]
  rcases g7 with g7 | g7
  · rw [g7]; rfl
  · rw [g7, then_nx]; simp
end K18


set_option linter.all false
set_option autoImplicit false
set_option Elab.async false
set_option maxRecDepth 100000
set_option maxHeartbeats 4000000
/-! the plain law of k18: ways drawn, one lap, the law -/
namespace K18
open PySem DL
theorem sq_dvd {a1 a2 b1 b2 : Int} (l : Int.gcd a1 a2 = 1) (h : a1 * a1 * (b2 * b2) + b1 * b1 * (a2 * a2) = a2 * a2 * (b2 * b2)) : a2.natAbs ^ 2 ∣ b2.natAbs ^ 2 := by
  have d : (a2 * a2) ∣ (a1 * a1) * (b2 * b2) := ⟨b2 * b2 - b1 * b1, by grind⟩
  have d2 := Int.natAbs_dvd_natAbs.mpr d
  rw [Int.natAbs_mul, Int.natAbs_mul, Int.natAbs_mul, Int.natAbs_mul] at d2
  have c : Nat.Coprime (a2.natAbs ^ 2) (a1.natAbs ^ 2) := by
    have : Nat.Coprime a1.natAbs a2.natAbs := l
    exact (Nat.Coprime.pow 2 2 this.symm)
  rw [Nat.pow_two, Nat.pow_two] at c ⊢
  exact c.dvd_of_dvd_mul_left d2
theorem isT_bot {n : Nat} {t : Tn} (h : IsT n t) : t.1.2 = t.2.2 := by
  have d1 := sq_dvd h.la.one h.sq
  have d2 := sq_dvd (a1 := t.2.1) (a2 := t.2.2) (b1 := t.1.1) (b2 := t.1.2) h.lb.one (by have := h.sq; grind)
  have e := Nat.dvd_antisymm d1 d2
  have e2 : t.1.2.natAbs = t.2.2.natAbs := (Nat.pow_left_inj (by decide)).mp e
  have := h.la.pos; have := h.lb.pos
  omega
theorem isT_one {n : Nat} {t : Tn} (h : IsT n t) (e : t.1.2 = 1) : t.1.1.natAbs ≤ 1 ∧ t.2.1.natAbs ≤ 1 := by
  have b := isT_bot h
  have s := h.sq
  rw [← b, e] at s
  simp only [Int.mul_one] at s
  have a1 := sqn t.1.1
  have a2 := sqn t.2.1
  have key : ∀ x : Int, x * x ≤ 1 → x.natAbs ≤ 1 := fun x hx => by
    have : (x * x).natAbs ≤ 1 := by have := sqn x; omega
    rw [Int.natAbs_mul] at this
    by_cases c : x.natAbs ≤ 1
    · exact c
    · have : 2 * 2 ≤ x.natAbs * x.natAbs := Nat.mul_le_mul (by omega) (by omega)
      omega
  exact ⟨key _ (by omega), key _ (by omega)⟩
/-- two drawn fractions in a new list -/
theorem s_parts {S : Sto} {n : Nat} {k m : Int} (P : PotAt S n k) (hk : k < 900) (hm : 0 < m) (hm2 : m ≤ 1000000) (o1 o2 o4 o5 o6 o7 o8 o9 o10 : Option D) :
    ∃ a b S', q_law_way_drawn_2 [some (.loc n), o1, o2, some (.int m), o4, o5, o6, o7, o8, o9, o10] S = .nx [some (.loc n), o1, o2, some (.int m), some (.loc S'.length), o5, o6, o7, o8, o9, o10] (S' ++ [[F a, F b]]) ∧ Fr a ∧ Fr b ∧ PotAt S' n (k + 4) ∧ S'.length = S.length := by
  have e62 : (2 : Int) ^ 62 = 4611686018427387904 := by decide +kernel
  obtain ⟨d1, S1, t1, a1, b1, P1, L1⟩ := e_take (u := 2 * m + 1) P (by omega) (by omega) (by rw [e62]; omega)
  obtain ⟨d2, S2, t2, a2, b2, P2, L2⟩ := e_take (u := m) P1 (by omega) (by omega) (by rw [e62]; omega)
  obtain ⟨d3, S3, t3, a3, b3, P3, L3⟩ := e_take (u := 2 * m + 1) P2 (by omega) (by omega) (by rw [e62]; omega)
  obtain ⟨d4, S4, t4, a4, b4, P4, L4⟩ := e_take (u := m) P3 (by omega) (by omega) (by rw [e62]; omega)
  have m2 : mulOk 2 m = true := m40 (by decide) (by omega)
  have fr : ∀ (x y : Int), 0 ≤ x → x < 2 * m + 1 → 0 ≤ y → y < m → Fr (red (x - m) (1 + y)) ∧ ∀ S, f_law_rate [.int (x - m), .int (1 + y)] S = .ok (F (red (x - m) (1 + y))) S := fun x y x0 x1 y0 y1 => by
    have bn : 1 + y ≠ 0 := by omega
    have l := red_le (x - m) (1 + y) bn
    have lo := red_low (x - m) (1 + y) bn
    have := lo.pos
    exact ⟨⟨lo, by omega, by omega⟩, fun S => e_law_rate bn (lt_of40 (by omega) (by decide)) S⟩
  obtain ⟨f1, r1⟩ := fr d1 d2 a1 b1 a2 b2
  obtain ⟨f2, r2⟩ := fr d3 d4 a3 b3 a4 b4
  refine ⟨_, _, S4, ?_, f1, f2, P4.mono (by omega), by omega⟩
  have rg : ∀ ρ, fRange1 (aCons (eC (.int 2)) aNil) ρ S = .ok [.int 0, .int 1] S := fun ρ => rng_ok (j := 2) (by simp) (by decide) (by decide)
  unfold q_law_way_drawn_2 eCompN
  simp [rg, compL, wipeE, d_mul m2, t1, t2, t3, t4, r1, r2]
theorem setD0 {S : Sto} {m : Nat} {x y v : D} (h : S[m]? = some [x, y]) : setD (.loc m) (.int 0) v S = some (S.set m [v, y]) := by
  unfold setD; simp only [h]
  have : L2.ixN [x, y].length 0 = some 0 := rfl
  rw [this]; rfl
theorem setD1 {S : Sto} {m : Nat} {x y v : D} (h : S[m]? = some [x, y]) : setD (.loc m) (.int 1) v S = some (S.set m [x, v]) := by
  unfold setD; simp only [h]
  have : L2.ixN [x, y].length 1 = some 1 := rfl
  rw [this]; rfl
theorem ixP0 {S : Sto} {m : Nat} {x y : D} (h : S[m]? = some [x, y]) : dIx (.loc m) (.int 0) S = .ok x S := by
  unfold dIx; simp only [h]; rw [at_0]
theorem ixP1 {S : Sto} {m : Nat} {x y : D} (h : S[m]? = some [x, y]) : dIx (.loc m) (.int 1) S = .ok y S := by
  unfold dIx; simp only [h]; rw [at_1]
theorem zeroFr : Fr (0, 1) := ⟨low_whole 0, by decide, by decide⟩
theorem s_axis {S : Sto} {n m : Nat} {k w : Int} (P : PotAt S n k) (hk : k < 900) {a b : Int × Int} (h : S[m]? = some [F a, F b]) (hm : m ≠ n) (ha : Fr a) (hb : Fr b) (o1 o3 o5 o6 o7 o8 o9 o10 : Option D) :
    ∃ a b S', q_law_way_drawn_3 [some (.loc n), o1, some (.int w), o3, some (.loc m), o5, o6, o7, o8, o9, o10] S = .nx [some (.loc n), o1, some (.int w), o3, some (.loc m), o5, o6, o7, o8, o9, o10] S' ∧ Fr a ∧ Fr b ∧ PotAt S' n (k + 1) ∧ S'[m]? = some [F a, F b] ∧ S'.length = S.length := by
  have e62 : (2 : Int) ^ 62 = 4611686018427387904 := by decide +kernel
  by_cases c : w = 0
  · obtain ⟨d, S1, t, a1, b1, P1, L1⟩ := e_take (u := 2) P (by omega) (by omega) (by rw [e62]; omega)
    have h1 : S1[m]? = some [F a, F b] := take_keeps P (by omega) (by decide) (by rw [e62]; decide) t h hm
    have : d = 0 ∨ d = 1 := by omega
    rcases this with rfl | rfl
    · refine ⟨(0, 1), b, S1.set m [F (0, 1), F b], ?_, zeroFr, hb, P1.set hm (by simp [D.lowL]), got h1, by simp [L1]⟩
      simp [q_law_way_drawn_3, dEqI, c, q_law_way_drawn_3a_1, t, mkF, setD0 h1]
    · refine ⟨a, (0, 1), S1.set m [F a, F (0, 1)], ?_, ha, zeroFr, P1.set hm (by simp [D.lowL]), got h1, by simp [L1]⟩
      simp [q_law_way_drawn_3, dEqI, c, q_law_way_drawn_3a_1, t, mkF, setD1 h1]
  · exact ⟨a, b, S, by simp [q_law_way_drawn_3, dEqI, c], ha, hb, P.mono (by omega), h, rfl⟩
theorem s_mult {S : Sto} {n m : Nat} {k w f : Int} (P : PotAt S n k) (hk : k < 900) {a b : Int × Int} (h : S[m]? = some [F a, F b]) (hm : m ≠ n) (ha : Fr a) (hb : Fr b) (hf : 0 < f) (hf2 : f ≤ 1000000) (o3 o5 o6 o7 o8 o9 o10 : Option D) :
    ∃ m' a b p5 p6 p7 p8 p9 p10 S', q_law_way_drawn_4 [some (.loc n), some (.int f), some (.int w), o3, some (.loc m), o5, o6, o7, o8, o9, o10] S = .nx [some (.loc n), some (.int f), some (.int w), o3, some (.loc m'), p5, p6, p7, p8, p9, p10] S' ∧ Fr a ∧ Fr b ∧ PotAt S' n (k + 5) ∧ S'[m']? = some [F a, F b] ∧ S.length ≤ S'.length := by
  have e62 : (2 : Int) ^ 62 = 4611686018427387904 := by decide +kernel
  by_cases c : w = 1
  · -- the bottom
    obtain ⟨s, S1, e1, s0, s4, P1, L1⟩ : ∃ s S1, q_law_way_drawn_4a_1 [some (.loc n), some (.int f), some (.int w), o3, some (.loc m), o5, o6, o7, o8, o9, o10] S = .nx [some (.loc n), some (.int f), some (.int w), o3, some (.loc m), some (.int s), o6, o7, o8, o9, o10] S1 ∧ 0 < s ∧ s ≤ 400 ∧ PotAt S1 n (k + 2) ∧ S1.length = S.length := by
      by_cases c2 : f ≤ 400
      · exact ⟨f, S, by simp [q_law_way_drawn_4a_1, c2], hf, c2, P.mono (by omega), rfl⟩
      · obtain ⟨d, S1, t, a1, b1, P1, L1⟩ := e_take (u := 400) P (by omega) (by omega) (by rw [e62]; omega)
        obtain ⟨r, S2, hr, e2, P2, L2⟩ := e_of P1 (by omega) [.int 400, .int 250, .int 125, .int (1 + d)] (by simp) (by simp)
        obtain ⟨s, rfl, s0, s4⟩ : ∃ s : Int, r = .int s ∧ 0 < s ∧ s ≤ 400 := by
          simp only [List.mem_cons, List.not_mem_nil, or_false] at hr
          rcases hr with rfl | rfl | rfl | rfl
          · exact ⟨_, rfl, by decide, by decide⟩
          · exact ⟨_, rfl, by decide, by decide⟩
          · exact ⟨_, rfl, by decide, by decide⟩
          · exact ⟨_, rfl, by omega, by omega⟩
        exact ⟨s, S2, by simp [q_law_way_drawn_4a_1, c2, t, e2], s0, s4, P2.mono (by omega), by omega⟩
    obtain ⟨d, S2, t2, d0, d4, P2, L2⟩ := e_take (u := 4 * s) P1 (by omega) (by omega) (by rw [e62]; omega)
    have m4 : mulOk 4 s = true := m40 (by decide) (by omega)
    have rt := fun S => e_law_rate (t := d) (b := s) (by omega) (lt_of40 (by omega) (by decide)) S
    have tq := fun S => e_lawquarters s0 (by omega) d0 d4 S
    have T : IsT 19 (turnF (red d s)) := turn_isT (part_ok s0 (by omega) d0 d4).1 (n := 9) (by
      have := (red_le d s (by omega)).2
      omega)
    have bot := isT_bot T
    have one := isT_one T
    generalize turnF (red d s) = t at *
    have pb := T.la.pos
    have A := T.sa.a; have A2 := T.sa.b; have B := T.sb.a
    obtain ⟨N, hN⟩ : ∃ N, t.1.2 = N := ⟨_, rfl⟩
    rw [hN] at bot one pb A2
    have n19 : (2 : Nat) ^ 19 = 524288 := by decide
    rw [n19] at A A2 B
    obtain ⟨l, hl, l1, l2⟩ : ∃ l : Int, (if 1 < N then N else 1000) = l ∧ 0 < l ∧ l ≤ 1000000 := ⟨_, rfl, by split <;> omega, by split <;> omega⟩
    have red1 : ∃ A' B' : Int, A'.natAbs ≤ 600000 ∧ B'.natAbs ≤ 600000 ∧ red (t.1.1 * l) N = (A', 1) ∧ red (t.2.1 * l) N = (B', 1) := by
      by_cases c2 : 1 < N
      · rw [if_pos c2] at hl
        subst hl
        exact ⟨t.1.1, t.2.1, by omega, by omega, red_is (by omega) (low_whole _) (by simp), red_is (by omega) (low_whole _) (by simp)⟩
      · rw [if_neg c2] at hl
        subst hl
        have : N = 1 := by omega
        subst this
        obtain ⟨o1, o2⟩ := one rfl
        exact ⟨t.1.1 * 1000, t.2.1 * 1000, by omega, by omega, red_is (by decide) (low_whole _) (by simp), red_is (by decide) (low_whole _) (by simp)⟩
    obtain ⟨A', B', hA, hB, rA, rB⟩ := red1
    have ml1 : mulOk t.1.1 l = true := m40 (by omega) (by omega)
    have ml2 : mulOk t.2.1 l = true := m40 (by omega) (by omega)
    have r1 := fun S => e_law_rate (t := t.1.1 * l) (b := N) (by omega) (lt_of40 (by omega) (by decide)) S
    have r2 := fun S => e_law_rate (t := t.2.1 * l) (b := N) (by omega) (lt_of40 (by omega) (by decide)) S
    rw [rA] at r1
    rw [rB] at r2
    have P3 := P2.app (l := [F (A', 1), F (B', 1)]) (by simp [D.lowL])
    obtain ⟨y, S4, hy, e4, P4, L4⟩ := e_of P3 (by omega) [.int 0, .int 1, .int (-1)] (by simp) (by simp)
    obtain ⟨v, rfl, v1⟩ : ∃ v : Int, y = .int v ∧ v.natAbs ≤ 1 := by
      simp only [List.mem_cons, List.not_mem_nil, or_false] at hy
      rcases hy with rfl | rfl | rfl
      · exact ⟨_, rfl, by decide⟩
      · exact ⟨_, rfl, by decide⟩
      · exact ⟨_, rfl, by decide⟩
    have h4 : S4[S2.length]? = some [F (A', 1), F (B', 1)] := of_keeps P3 (by omega) _ (by simp) (by simp) e4 (by simp) (by have := P2.lt; omega)
    have mv : mulOk v 1 = true := m40 (by omega) (by decide)
    have r3 := fun S => e_law_rate (t := B' + v) (b := 1) (by decide) (lt_of40 (by decide) (by decide)) S
    rw [red_is (x := (B' + v, 1)) (by decide) (low_whole _) (by simp)] at r3
    have bot2 : t.2.2 = N := bot.symm
    have mx : ∀ S, fMax [.int N, .int N] S = .ok (.int N) S := fun S => by
      show R.ok (D.int (if N > N then N else N)) S = _
      rw [if_neg (by omega)]
    refine ⟨S4.length, (A', 1), (B' + v, 1), some (.int s), some (F2 t.1 t.2), some (.int l), some (.int v), o9, o10, S4 ++ [[F (A', 1), F (B' + v, 1)]], ?_, ⟨low_whole _, by simp only; omega, by simp⟩, ⟨low_whole _, by simp only; omega, by simp⟩, (P4.app (by simp [D.lowL])).mono (by omega), by simp, by simp [L4]; omega⟩
    have g2 : q_law_way_drawn_4a_2 [some (.loc n), some (.int f), some (.int w), o3, some (.loc m), some (.int s), o6, o7, o8, o9, o10] S1 = .nx [some (.loc n), some (.int f), some (.int w), o3, some (.loc m), some (.int s), some (F2 t.1 t.2), o7, o8, o9, o10] S2 := by
      simp [q_law_way_drawn_4a_2, d_mul m4, t2, rt, tq]
    have g3 : q_law_way_drawn_4a_3 [some (.loc n), some (.int f), some (.int w), o3, some (.loc m), some (.int s), some (F2 t.1 t.2), o7, o8, o9, o10] S2 = .nx [some (.loc n), some (.int f), some (.int w), o3, some (.loc m), some (.int s), some (F2 t.1 t.2), some (.int N), o8, o9, o10] S2 := by
      simp [q_law_way_drawn_4a_3, F2, hN, bot2, mx]
    have g4 : q_law_way_drawn_4a_4 [some (.loc n), some (.int f), some (.int w), o3, some (.loc m), some (.int s), some (F2 t.1 t.2), some (.int N), o8, o9, o10] S2 = .nx [some (.loc n), some (.int f), some (.int w), o3, some (.loc m), some (.int s), some (F2 t.1 t.2), some (.int l), o8, o9, o10] S2 := by
      by_cases c2 : 1 < N
      · rw [if_pos c2] at hl
        have c3 : 1 < l := by omega
        rw [hl]
        simp [q_law_way_drawn_4a_4, c3]
      · rw [if_neg c2] at hl
        simp [q_law_way_drawn_4a_4, c2, hl]
    have g5 : q_law_way_drawn_4a_5 [some (.loc n), some (.int f), some (.int w), o3, some (.loc m), some (.int s), some (F2 t.1 t.2), some (.int l), o8, o9, o10] S2 = .nx [some (.loc n), some (.int f), some (.int w), o3, some (.loc S2.length), some (.int s), some (F2 t.1 t.2), some (.int l), o8, o9, o10] (S2 ++ [[F (A', 1), F (B', 1)]]) := by
      unfold q_law_way_drawn_4a_5 eCompN F2
      simp [compL, wipeE, hN, bot2, d_mul ml1, d_mul ml2, r1, r2]
    have g6 : q_law_way_drawn_4a_6 [some (.loc n), some (.int f), some (.int w), o3, some (.loc S2.length), some (.int s), some (F2 t.1 t.2), some (.int l), o8, o9, o10] (S2 ++ [[F (A', 1), F (B', 1)]]) = .nx [some (.loc n), some (.int f), some (.int w), o3, some (.loc S2.length), some (.int s), some (F2 t.1 t.2), some (.int l), some (.int v), o9, o10] S4 := by
      simp [q_law_way_drawn_4a_6, e4]
    have g7 : q_law_way_drawn_4a_7 [some (.loc n), some (.int f), some (.int w), o3, some (.loc S2.length), some (.int s), some (F2 t.1 t.2), some (.int l), some (.int v), o9, o10] S4 = .nx [some (.loc n), some (.int f), some (.int w), o3, some (.loc S4.length), some (.int s), some (F2 t.1 t.2), some (.int l), some (.int v), o9, o10] (S4 ++ [[F (A', 1), F (B' + v, 1)]]) := by
      simp [q_law_way_drawn_4a_7, ixP0 h4, ixP1 h4, d_mul mv, r3]
    have cc : tOf (eBin dEq (eVar 2) (eC (.int 1))) [some (.loc n), some (.int f), some (.int w), o3, some (.loc m), o5, o6, o7, o8, o9, o10] S = .ok true S := by simp [dEqI, c]
    unfold q_law_way_drawn_4
    rw [ap_sIf, cc, st_ok]
    show (sSeq _ _) _ _ = _
    rw [ap_sSeq, e1, then_nx, ap_sSeq, g2, then_nx, ap_sSeq, g3, then_nx, ap_sSeq, g4, then_nx, ap_sSeq, g5, then_nx, ap_sSeq, g6, then_nx, g7]
  · exact ⟨m, a, b, o5, o6, o7, o8, o9, o10, S, by simp [q_law_way_drawn_4, dEqI, c], ha, hb, P.mono (by omega), h, Nat.le_refl _⟩
theorem e_way_drawn {S : Sto} {n : Nat} {k f : Int} (P : PotAt S n k) (hk : k < 850) (hf : 0 < f) (hf2 : f ≤ 1000000) : ∃ a b S', f_law_way_drawn [.loc n, .int f] S = .ok (F2 a b) S' ∧ Fr a ∧ Fr b ∧ ¬ (a = (0, 1) ∧ b = (0, 1)) ∧ PotAt S' n (k + 12) := by
  have e62 : (2 : Int) ^ 62 = 4611686018427387904 := by decide +kernel
  obtain ⟨w, S1, t1, a1, b1, P1, L1⟩ := e_take (u := 6) P (by omega) (by omega) (by rw [e62]; omega)
  obtain ⟨r, S2, hr, e2, P2, L2⟩ := e_of P1 (by omega) [.int 3, .int 1000, .int 1000000] (by simp) (by simp)
  obtain ⟨m, rfl, m1, m2⟩ : ∃ m : Int, r = .int m ∧ 0 < m ∧ m ≤ 1000000 := by
    simp only [List.mem_cons, List.not_mem_nil, or_false] at hr
    rcases hr with rfl | rfl | rfl
    · exact ⟨_, rfl, by decide, by decide⟩
    · exact ⟨_, rfl, by decide, by decide⟩
    · exact ⟨_, rfl, by decide, by decide⟩
  obtain ⟨a, b, S3, e3, ha, hb, P3, L3⟩ := s_parts P2 (by omega) m1 m2 (some (.int f)) (some (.int w)) none none none none none none none
  have P3' := P3.app (l := [F a, F b]) (by simp [D.lowL])
  obtain ⟨a, b, S4, e4, ha, hb, P4, h4, L4⟩ := s_axis (w := w) P3' (by omega) (m := S3.length) (a := a) (b := b) (by simp) (by have := P3.lt; omega) ha hb (some (.int f)) (some (.int m)) none none none none none none
  obtain ⟨m', a, b, p5, p6, p7, p8, p9, p10, S5, e5, ha, hb, P5, h5, L5⟩ := s_mult (w := w) P4 (by omega) h4 (by have := P3.lt; omega) ha hb hf hf2 (some (.int m)) none none none none none none
  have fin : ∃ a' b', q_law_way_drawn_5 [some (.loc n), some (.int f), some (.int w), some (.int m), some (.loc m'), p5, p6, p7, p8, p9, p10] S5 = .rt (F2 a' b') S5 ∧ Fr a' ∧ Fr b' ∧ ¬ (a' = (0, 1) ∧ b' = (0, 1)) := by
    have ne := fun S => dNeF (a.1, b.1) (0, 0) S
    by_cases c : (a.1, b.1) = (0, 0)
    · rw [decide_eq_true c] at ne
      refine ⟨(-1, 1), (0, 1), ?_, ⟨low_whole _, by decide, by decide⟩, zeroFr, by decide⟩
      simp [q_law_way_drawn_5, ixP0 h5, ixP1 h5, mkF, ne]; rfl
    · rw [decide_eq_false c] at ne
      refine ⟨a, b, ?_, ha, hb, ?_⟩
      · simp [q_law_way_drawn_5, ixP0 h5, ixP1 h5, mkF, ne]; rfl
      · rintro ⟨rfl, rfl⟩; exact c rfl
  obtain ⟨a', b', e6, ha', hb', hn⟩ := fin
  have nS : n < S.length := P.lt
  have run : (mkFn 2 11 m_law_way_drawn) [.loc n, .int f] S = .ok (F2 a' b') S5 := by
    unfold mkFn
    rw [if_pos (show [D.loc n, D.int f].length = 2 from rfl)]
    have st : DL.start 11 [D.loc n, D.int f] = [some (.loc n), some (.int f), none, none, none, none, none, none, none, none, none] := rfl
    have g1 : q_law_way_drawn_1 [some (.loc n), some (.int f), none, none, none, none, none, none, none, none, none] S = .nx [some (.loc n), some (.int f), some (.int w), some (.int m), none, none, none, none, none, none, none] S2 := by
      simp [q_law_way_drawn_1, t1, p10_6, e2]
    rw [st]
    unfold m_law_way_drawn
    rw [ap_sSeq, g1, then_nx, ap_sSeq, e3, then_nx, ap_sSeq, e4, then_nx, ap_sSeq, e5, then_nx, e6]
  obtain ⟨d1, d2⟩ := drop_pot run (by simp [F2, D.low, D.lowL]) P5 nS
  exact ⟨a', b', _, d1, ha', hb', hn, d2.mono (by omega)⟩
/-! ### what is refused -/
theorem near_odd {a b : Int × Int} (ha : Fr a) (hb : Fr b) (hn : ¬ (a = (0, 1) ∧ b = (0, 1))) (x : D) (hx : ∀ S, f_is_int [x, .int 1, .int 1000000] S = .ok (.bl false) S) (S : Sto) : f_turn_near [F2 a b, x] S = .exc "BadInt" x S := by
  have f1 := fun S => e_is_fraction ha.low ha.a ha.b S
  have f2 := fun S => e_is_fraction hb.low hb.a hb.b S
  have ez : ∀ S, dEq (F2 a b) (.tup [k_ZERO, k_ZERO]) S = .ok (.bl false) S := fun S => by
    have : D.tup [k_ZERO, k_ZERO] = F2 (0, 1) (0, 1) := rfl
    rw [this]; unfold dEq; rw [eqF2, decide_eq_false hn]
  have fx : F2 a b = .tup [F a, F b] := rfl
  rw [fx] at ez ⊢
  simp [f_turn_near, mkFn, m_turn_near, DL.start, isTupT, truD, dNeI, compL, wipeE, f1, f2, fAll, bools, ez, p10_6, hx]
theorem near_bad {a b : Int × Int} (h : ∃ p q : Bool, (∀ S, f_is_fraction [F a] S = .ok (.bl p) S) ∧ (∀ S, f_is_fraction [F b] S = .ok (.bl q) S) ∧ (p = false ∨ q = false ∨ (a = (0, 1) ∧ b = (0, 1)))) (S : Sto) : f_turn_near [F2 a b, .int 0] S = .exc "BadTurn" (F2 a b) S := by
  obtain ⟨p, q, f1, f2, h⟩ := h
  have fx : F2 a b = .tup [F a, F b] := rfl
  by_cases c : p = false ∨ q = false
  · rw [fx]
    rcases c with rfl | rfl
    · simp [f_turn_near, mkFn, m_turn_near, DL.start, isTupT, truD, dNeI, compL, wipeE, f1, f2, fAll, bools]
    · simp [f_turn_near, mkFn, m_turn_near, DL.start, isTupT, truD, dNeI, compL, wipeE, f1, f2, fAll, bools]
  · have pt : p = true := by cases p; exact absurd (.inl rfl) c; rfl
    have qt : q = true := by cases q; exact absurd (.inr rfl) c; rfl
    subst pt qt
    obtain ⟨rfl, rfl⟩ : a = (0, 1) ∧ b = (0, 1) := by
      rcases h with z | z | z
      · cases z
      · cases z
      · exact z
    have ez : ∀ S, dEq (F2 (0, 1) (0, 1)) (.tup [k_ZERO, k_ZERO]) S = .ok (.bl true) S := fun S => by
      have : D.tup [k_ZERO, k_ZERO] = F2 (0, 1) (0, 1) := rfl
      rw [this]; unfold dEq; rw [eqF2]; rfl
    rw [fx] at ez ⊢
    simp [f_turn_near, mkFn, m_turn_near, DL.start, isTupT, truD, dNeI, compL, wipeE, f1, f2, fAll, bools, ez]
theorem near_list (xs : List D) (S : Sto) : f_turn_near [.lst xs, .int 0] S = .exc "BadTurn" (.lst xs) S := by
  simp [f_turn_near, mkFn, m_turn_near, DL.start, isTupL, truD]
theorem frac_big {x : Int × Int} (h : Low x) (hb : ¬ (x.1.natAbs ≤ 1000000 ∧ x.2 ≤ 1000000)) (S : Sto) : f_is_fraction [F x] S = .ok (.bl false) S := by
  by_cases a1 : -1000000 ≤ x.1
  · by_cases a2 : x.1 ≤ 1000000
    · have a3 : ¬ x.2 ≤ 1000000 := by omega
      simp [f_is_fraction, mkFn, m_is_fraction, DL.start, e_is_lowest h, k_MOST, a1, a2, a3]
    · simp [f_is_fraction, mkFn, m_is_fraction, DL.start, e_is_lowest h, k_MOST, a1, a2]
  · simp [f_is_fraction, mkFn, m_is_fraction, DL.start, e_is_lowest h, k_MOST, a1]
theorem frac_24 (S : Sto) : f_is_fraction [F (2, 4)] S = .ok (.bl false) S := by
  have g : Int.gcd 2 4 = 2 := by decide
  have l : ∀ S, f_is_lowest [F (2, 4)] S = .ok (.bl false) S := fun S => by
    simp [f_is_lowest, mkFn, m_is_lowest, DL.start, isTupF, truD, lenF, dNeI, e_is_whole, e_common, g, dEqI]
  simp [f_is_fraction, mkFn, m_is_fraction, DL.start, l]
theorem odd_body {a b : Int × Int} (ha : Fr a) (hb : Fr b) (hn : ¬ (a = (0, 1) ∧ b = (0, 1))) (x : D) (hx : ∀ S, f_is_int [x, .int 1, .int 1000000] S = .ok (.bl false) S) (t : Str) (r : ∀ S, fRepr [x] S = .ok (.str t) S) (ok : PyData.strOk t = true) (S : Sto) (o0 o1 o2 o5 o6 : Option D) :
    q_law_right_1_4B [o0, o1, o2, some (F2 a b), some x, o5, o6] S = .nx [o0, o1, o2, some (F2 a b), some x, o5, some (.exo "BadInt" x)] S := by
  have bd := fun S => near_odd ha hb hn x hx S
  have h1 := heard_exc (sub := sub0) (e := eCall f_turn_near (aCons (eVar 3) (aCons (eVar 4) (aNil)))) (ρ := [o0, o1, o2, some (F2 a b), some x, o5, o6]) (S := S) (S' := S) (c := "BadInt") (v := x) (by simp [bd]) (by decide)
  have v1 := value_exo (sub := sub0) (e := eVar 6) (ρ := [o0, o1, o2, some (F2 a b), some x, o5, some (.exo "BadInt" x)]) (S := S) (S' := S) (c := "BadInt") (v := x) (by simp) (by decide)
  have i1 := fun S => isi_exo (sub := sub0) (c := "BadInt") (c' := "BadInt") (b := true) (by decide) x S
  have ix : dIx (.tup [.exo "BadInt" x, .non]) (.int 0) S = .ok (.exo "BadInt" x) S := ix_t0 _ _ S
  have ns := fun S => ne_self ok S
  simp [q_law_right_1_4B, q_law_right_1_4_1, q_law_right_1_4_2, h1, ix, i1, truD, v1, r, ns]
theorem bad_body (x : D) (bd : ∀ S, f_turn_near [x, .int 0] S = .exc "BadTurn" x S) (t : Str) (r : ∀ S, fRepr [x] S = .ok (.str t) S) (ok : PyData.strOk t = true) (S : Sto) (o0 o1 o2 o3 o4 o6 : Option D) :
    q_law_right_1_5B [o0, o1, o2, o3, o4, some x, o6] S = .nx [o0, o1, o2, o3, o4, some x, some (.exo "BadTurn" x)] S := by
  have h1 := heard_exc (sub := sub0) (e := eCall f_turn_near (aCons (eVar 5) (aCons (eC (.int 0)) (aNil)))) (ρ := [o0, o1, o2, o3, o4, some x, o6]) (S := S) (S' := S) (c := "BadTurn") (v := x) (by simp [bd]) (by decide)
  have v1 := value_exo (sub := sub0) (e := eVar 6) (ρ := [o0, o1, o2, o3, o4, some x, some (.exo "BadTurn" x)]) (S := S) (S' := S) (c := "BadTurn") (v := x) (by simp) (by decide)
  have i1 := fun S => isi_exo (sub := sub0) (c := "BadTurn") (c' := "BadTurn") (b := true) (by decide) x S
  have ix : dIx (.tup [.exo "BadTurn" x, .non]) (.int 0) S = .ok (.exo "BadTurn" x) S := ix_t0 _ _ S
  have ns := fun S => ne_self ok S
  simp [q_law_right_1_5B, q_law_right_1_5_1, q_law_right_1_5_2, h1, ix, i1, truD, v1, r, ns]
theorem rpL2 {x y : Int × Int} (h : Sz 1900 x) (k : Sz 1900 y) : ∃ t, PyData.strOk t = true ∧ ∀ S, fRepr [.lst [F x, F y]] S = .ok (.str t) S := by
  have pl : plainP (.list [.tuple [.int x.1, .int x.2], .tuple [.int y.1, .int y.2]]) = true := by
    simp only [plainP, plainPs, decide_eq_true h.a, decide_eq_true h.b, decide_eq_true k.a, decide_eq_true k.b, Bool.and_self]
  exact ⟨_, ok_shown _ pl, fun S => repr_eq (x := .lst [F x, F y]) (by simp [F, D.pd, D.pdL]) pl (by simp [PyData.bulk, PyData.bulkAll]) (by simp [PyData.depth, PyData.depthAll]) S⟩
theorem e_odds {a b : Int × Int} (ha : Fr a) (hb : Fr b) (hn : ¬ (a = (0, 1) ∧ b = (0, 1))) (S : Sto) (o0 o1 o2 o4 o5 o6 : Option D) :
    ∃ p4 p6, q_law_right_1_4 [o0, o1, o2, some (F2 a b), o4, o5, o6] S = .nx [o0, o1, o2, some (F2 a b), p4, o5, p6] S := by
  have i1 : ∀ S, f_is_int [.int 0, .int 1, .int 1000000] S = .ok (.bl false) S := fun S => by rw [e_is_int]; rfl
  have i2 : ∀ S, f_is_int [.int (1000000 + 1), .int 1, .int 1000000] S = .ok (.bl false) S := fun S => by rw [e_is_int]; rfl
  have i3 : ∀ S, f_is_int [.int (-1), .int 1, .int 1000000] S = .ok (.bl false) S := fun S => by rw [e_is_int]; rfl
  have i4 : ∀ S, f_is_int [.bl true, .int 1, .int 1000000] S = .ok (.bl false) S := fun S => by simp [f_is_int, mkFn, m_is_int, DL.start, isIntB, isBoolB]
  have s1 := odd_body ha hb hn (.int 0) i1 _ (rpI (lt_of40 (by decide) (by decide))) (okI (lt_of40 (by decide) (by decide)))
  have s2 := odd_body ha hb hn (.int (1000000 + 1)) i2 _ (rpI (lt_of40 (by decide) (by decide))) (okI (lt_of40 (by decide) (by decide)))
  have s3 := odd_body ha hb hn (.int (-1)) i3 _ (rpI (lt_of40 (by decide) (by decide))) (okI (lt_of40 (by decide) (by decide)))
  have s4 := odd_body ha hb hn (.bl true) i4 _ (rpB true) (okB true)
  refine ⟨some (.bl true), some (.exo "BadInt" (.bl true)), ?_⟩
  have w : wTup (eTup (aCons (eC (.int 0)) (aCons (eBin dAdd (eBin dPow (eC (.int 10)) (eC (.int 6))) (eC (.int 1))) (aCons (eUn dNeg (eC (.int 1))) (aCons (eC (.bl true)) (aNil)))))) [o0, o1, o2, some (F2 a b), o4, o5, o6] S = .ok [.int 0, .int (1000000 + 1), .int (-1), .bl true] S := by
    simp only [ap_wTup, ap_tup, ap_cons, ap_C, ap_bin, ap_un, ap_nil, bind_ok, p10_6, d_add, d_neg]
    rw [if_pos (by decide)]; rfl
  unfold q_law_right_1_4
  rw [ap_sFor, w, st_ok]
  simp only [forL, g_set, List.set_cons_zero, List.set_cons_succ, s1, s2, s3, s4]
theorem e_bads {a b : Int × Int} (ha : Fr a) (hb : Fr b) (S : Sto) (o0 o1 o2 o4 o5 o6 : Option D) :
    ∃ p5 p6, q_law_right_1_5 [o0, o1, o2, some (F2 a b), o4, o5, o6] S = .nx [o0, o1, o2, some (F2 a b), o4, p5, p6] S := by
  have z0 := fun S => e_is_fraction zeroFr.low zeroFr.a zeroFr.b S
  have z1 : ∀ S, f_is_fraction [F (1, 1)] S = .ok (.bl true) S := fun S => e_is_fraction (low_whole 1) (by decide) (by decide) S
  have z2 := fun S => e_is_fraction ha.low ha.a ha.b S
  have b2 := near_bad (a := (1000001, 1)) (b := (0, 1)) ⟨false, true, fun S => frac_big (low_whole _) (by decide) S, z0, .inl rfl⟩
  have b1 := near_bad (a := (0, 1)) (b := (0, 1)) ⟨true, true, z0, z0, .inr (.inr ⟨rfl, rfl⟩)⟩
  have b3 := near_bad (a := (1, 1)) (b := (1, 1000001)) ⟨true, false, z1, fun S => frac_big ⟨by decide, by decide⟩ (by decide) S, .inr (.inl rfl)⟩
  have b4 := near_bad (a := a) (b := (2, 4)) ⟨true, false, z2, frac_24, .inr (.inl rfl)⟩
  have b5 := near_list [F a, F b]
  have sz : ∀ x y : Int, x.natAbs ≤ 1099511627776 → y.natAbs ≤ 1099511627776 → Sz 1900 (x, y) := fun x y h k => ⟨lt_of40 h (by decide), lt_of40 k (by decide)⟩
  obtain ⟨t1, k1, r1⟩ := rpF2 (sz 0 1 (by decide) (by decide)) (sz 0 1 (by decide) (by decide))
  obtain ⟨t2, k2, r2⟩ := rpF2 (sz 1000001 1 (by decide) (by decide)) (sz 0 1 (by decide) (by decide))
  obtain ⟨t3, k3, r3⟩ := rpF2 (sz 1 1 (by decide) (by decide)) (sz 1 1000001 (by decide) (by decide))
  obtain ⟨t4, k4, r4⟩ := rpF2 (ha.sz (n := 1900)) (sz 2 4 (by decide) (by decide))
  obtain ⟨t5, k5, r5⟩ := rpL2 (ha.sz (n := 1900)) (hb.sz (n := 1900))
  have s1 := bad_body _ b1 t1 r1 k1
  have s2 := bad_body _ b2 t2 r2 k2
  have s3 := bad_body _ b3 t3 r3 k3
  have s4 := bad_body _ b4 t4 r4 k4
  have s5 := bad_body _ b5 t5 r5 k5
  refine ⟨some (.lst [F a, F b]), some (.exo "BadTurn" (.lst [F a, F b])), ?_⟩
  have w : wTup (eTup (aCons (eTup (aCons (eTup (aCons (eC (.int 0)) (aCons (eC (.int 1)) (aNil)))) (aCons (eTup (aCons (eC (.int 0)) (aCons (eC (.int 1)) (aNil)))) (aNil)))) (aCons (eTup (aCons (eTup (aCons (eC (.int 1000001)) (aCons (eC (.int 1)) (aNil)))) (aCons (eTup (aCons (eC (.int 0)) (aCons (eC (.int 1)) (aNil)))) (aNil)))) (aCons (eTup (aCons (eTup (aCons (eC (.int 1)) (aCons (eC (.int 1)) (aNil)))) (aCons (eTup (aCons (eC (.int 1)) (aCons (eC (.int 1000001)) (aNil)))) (aNil)))) (aCons (eTup (aCons (eBin dIx (eVar 3) (eC (.int 0))) (aCons (eTup (aCons (eC (.int 2)) (aCons (eC (.int 4)) (aNil)))) (aNil)))) (aCons (eCall fList (aCons (eVar 3) (aNil))) (aNil))))))) [o0, o1, o2, some (F2 a b), o4, o5, o6] S = .ok [F2 (0, 1) (0, 1), F2 (1000001, 1) (0, 1), F2 (1, 1) (1, 1000001), F2 a (2, 4), .lst [F a, F b]] S := by
    simp [fList, items, F2, mkF]
  unfold q_law_right_1_5
  rw [ap_sFor, w, st_ok]
  simp only [forL, g_set, List.set_cons_zero, List.set_cons_succ, s1, s2, s3, s4, s5]
/-! ### one lap -/
theorem e_lap {S : Sto} {n : Nat} {k : Int} (P : PotAt S n k) (hk : k < 800) (o1 o2 o3 o4 o5 o6 : Option D) :
    ∃ p2 p3 p4 p5 p6 S', q_law_right_1B [some (.loc n), o1, o2, o3, o4, o5, o6] S = .nx [some (.loc n), o1, p2, p3, p4, p5, p6] S' ∧ PotAt S' n (k + 16) := by
  have e62 : (2 : Int) ^ 62 = 4611686018427387904 := by decide +kernel
  obtain ⟨d1, S1, t1, a1, b1, P1, L1⟩ := e_take (u := 1000000) P (by omega) (by omega) (by rw [e62]; omega)
  obtain ⟨d2, S2, t2, a2, b2, P2, L2⟩ := e_take (u := 60) P1 (by omega) (by omega) (by rw [e62]; omega)
  obtain ⟨r, S3, hr, e3, P3, L3⟩ := e_of P2 (by omega) [.int 1, .int 2, .int 3, .int 1000000, .int (1 + d1), .int (1 + d2)] (by simp) (by simp)
  obtain ⟨f, rfl, f0, f1⟩ : ∃ f : Int, r = .int f ∧ 0 < f ∧ f ≤ 1000000 := by
    simp only [List.mem_cons, List.not_mem_nil, or_false] at hr
    rcases hr with rfl | rfl | rfl | rfl | rfl | rfl
    · exact ⟨_, rfl, by decide, by decide⟩
    · exact ⟨_, rfl, by decide, by decide⟩
    · exact ⟨_, rfl, by decide, by decide⟩
    · exact ⟨_, rfl, by decide, by decide⟩
    · exact ⟨_, rfl, by omega, by omega⟩
    · exact ⟨_, rfl, by omega, by omega⟩
  obtain ⟨a, b, S4, e4, ha, hb, hn, P4⟩ := e_way_drawn P3 (by omega) f0 f1
  obtain ⟨S5, e5, P5⟩ := e_way_right P4 (by omega) ha hb hn f0 f1
  obtain ⟨p4, p6, e6⟩ := e_odds ha hb hn S5 (some (.loc n)) o1 (some (.int f)) o4 o5 o6
  obtain ⟨p5, p6', e7⟩ := e_bads ha hb S5 (some (.loc n)) o1 (some (.int f)) p4 o5 p6
  refine ⟨some (.int f), some (F2 a b), p4, p5, p6', S5, ?_, P5.mono (by omega)⟩
  have g1 : q_law_right_1_1 [some (.loc n), o1, o2, o3, o4, o5, o6] S = .nx [some (.loc n), o1, some (.int f), o3, o4, o5, o6] S3 := by
    simp [q_law_right_1_1, p10_6, t1, t2, e3]
  have g2 : q_law_right_1_2 [some (.loc n), o1, some (.int f), o3, o4, o5, o6] S3 = .nx [some (.loc n), o1, some (.int f), some (F2 a b), o4, o5, o6] S4 := by
    simp [q_law_right_1_2, e4]
  have g3 : q_law_right_1_3 [some (.loc n), o1, some (.int f), some (F2 a b), o4, o5, o6] S4 = .nx [some (.loc n), o1, some (.int f), some (F2 a b), o4, o5, o6] S5 := by
    simp [q_law_right_1_3, e5, truD]
  unfold q_law_right_1B
  rw [ap_sSeq, g1, then_nx, ap_sSeq, g2, then_nx, ap_sSeq, g3, then_nx, ap_sSeq, e6, then_nx, e7]
theorem e_laps {n : Nat} : ∀ (ds : List D) (S : Sto) (k : Int), PotAt S n k → k + 16 * ds.length ≤ 700 → ∀ o1 o2 o3 o4 o5 o6 : Option D,
    ∃ p1 p2 p3 p4 p5 p6 S', forL (gSet 1) q_law_right_1B ds [some (.loc n), o1, o2, o3, o4, o5, o6] S = .nx [some (.loc n), p1, p2, p3, p4, p5, p6] S' ∧ Flat S'
  | [], S, k, P, hk, o1, o2, o3, o4, o5, o6 => ⟨o1, o2, o3, o4, o5, o6, S, rfl, P.2⟩
  | d :: ds, S, k, P, hk, o1, o2, o3, o4, o5, o6 => by
    simp only [List.length_cons] at hk
    obtain ⟨p2, p3, p4, p5, p6, S1, e1, P1⟩ := e_lap P (by omega) (some d) o2 o3 o4 o5 o6
    obtain ⟨q1, q2, q3, q4, q5, q6, S2, e2, F2⟩ := e_laps ds S1 (k + 16) P1 (by omega) (some d) p2 p3 p4 p5 p6
    refine ⟨q1, q2, q3, q4, q5, q6, S2, ?_, F2⟩
    show (match q_law_right_1B [some (.loc n), some d, o2, o3, o4, o5, o6] S with | .nx ρ S => forL (gSet 1) q_law_right_1B ds ρ S | .ct ρ S => forL (gSet 1) q_law_right_1B ds ρ S | .bk ρ S => .nx ρ S | .rt d S => .rt d S | .exc c v ρ S => .exc c v ρ S | .bad => .bad) = _
    rw [e1]; exact e2
theorem e_right (S : Sto) (n : Nat) (P : PotAt S n 0) : ∃ S', f_law_right [.loc n] S = .ok (.bl true) S' ∧ Flat S' := by
  obtain ⟨p1, p2, p3, p4, p5, p6, S1, e1, F1⟩ := e_laps (rngL 0 5) S 0 P (by simp) none none none none none none
  have rg : fRange1 (aCons (eC (.int 5)) aNil) [some (.loc n), none, none, none, none, none, none] S = .ok (rngL 0 5) S := rng_ok (j := 5) (by simp) (by decide) (by decide)
  refine ⟨S1, ?_, F1⟩
  unfold f_law_right mkFn
  rw [if_pos (show [D.loc n].length = 1 from rfl)]
  have st : DL.start 7 [D.loc n] = [some (.loc n), none, none, none, none, none, none] := rfl
  unfold m_law_right q_law_right_1
  rw [st, ap_sSeq, ap_sFor, rg, st_ok, e1, then_nx]
  simp
theorem law_true : ∀ ns : List Int, ns.length ≤ 63 → (∀ z ∈ ns, Builtin.Int.intBits z ≤ 1048576) → ∃ S, f_law [.lst (ns.map D.int)] [] = .ok (.bl true) S := law_true_of e_right
end K18


set_option Elab.async false
set_option linter.all false
set_option maxRecDepth 100000
/-! the end of elbowsexactly_k18_whole_turns_near_ways, printed by gen.py -/
namespace K18
open PySem PySem.Spec L2 DL
open PyProof.Rows hiding St b2i
theorem law_all {P : Program} {w : World} {K : PySem.W.Frag} {mg : Str → Option Value} {base : Heap} {T : List (Addr × Str)} (G : Gl0 P K mg) (D_is_int : DefIn K mg "is_int" s_is_int) (D_is_whole : DefIn K mg "is_whole" s_is_whole) (D_common : DefIn K mg "common" s_common) (D_rate : DefIn K mg "rate" s_rate) (D_is_lowest : DefIn K mg "is_lowest" s_is_lowest) (D_is_fraction : DefIn K mg "is_fraction" s_is_fraction) (D_plus : DefIn K mg "plus" s_plus) (D_less : DefIn K mg "less" s_less) (D_times : DefIn K mg "times" s_times) (D_turned_sign : DefIn K mg "turned_sign" s_turned_sign) (D_squared : DefIn K mg "squared" s_squared) (D_plain : DefIn K mg "plain" s_plain) (D_negative : DefIn K mg "negative" s_negative) (D_sign_of_int : DefIn K mg "sign_of_int" s_sign_of_int) (D_sign_under : DefIn K mg "sign_under" s_sign_under) (D_sign : DefIn K mg "sign" s_sign) (D_sign_of_four : DefIn K mg "sign_of_four" s_sign_of_four) (D_ints_of : DefIn K mg "ints_of" s_ints_of) (D_sign_of_cross : DefIn K mg "sign_of_cross" s_sign_of_cross) (D_sign_of_dot : DefIn K mg "sign_of_dot" s_sign_of_dot) (D_is_turn : DefIn K mg "is_turn" s_is_turn) (D_look_at_turn : DefIn K mg "look_at_turn" s_look_at_turn) (D_told_turn_of : DefIn K mg "told_turn_of" s_told_turn_of) (D_told_behind : DefIn K mg "told_behind" s_told_behind) (D_lifted : DefIn K mg "lifted" s_lifted) (D_half_plane : DefIn K mg "half_plane" s_half_plane) (D_is_ahead : DefIn K mg "is_ahead" s_is_ahead) (D_is_same_way : DefIn K mg "is_same_way" s_is_same_way) (D_is_between : DefIn K mg "is_between" s_is_between) (D_told_from_to : DefIn K mg "told_from_to" s_told_from_to) (D_is_from_to : DefIn K mg "is_from_to" s_is_from_to) (D_told_quarters : DefIn K mg "told_quarters" s_told_quarters) (D_place_at : DefIn K mg "place_at" s_place_at) (D_turn_near : DefIn K mg "turn_near" s_turn_near) (D_law_pot : DefIn K mg "_law_pot" s_law_pot) (D_law_take : DefIn K mg "_law_take" s_law_take) (D_law_of : DefIn K mg "_law_of" s_law_of) (D_law_cells : DefIn K mg "_law_cells" s_law_cells) (D_law_is_bool : DefIn K mg "_law_is_bool" s_law_is_bool) (D_law_gcd : DefIn K mg "_law_gcd" s_law_gcd) (D_law_rate : DefIn K mg "_law_rate" s_law_rate) (D_law_less : DefIn K mg "_law_less" s_law_less) (D_law_times : DefIn K mg "_law_times" s_law_times) (D_law_turn_of : DefIn K mg "_law_turn_of" s_law_turn_of) (D_law_quarters : DefIn K mg "_law_quarters" s_law_quarters) (D_law_spot_near : DefIn K mg "_law_spot_near" s_law_spot_near) (D_law_way_drawn : DefIn K mg "_law_way_drawn" s_law_way_drawn) (D_law_is_way_right : DefIn K mg "_law_is_way_right" s_law_is_way_right) (D_law_right : DefInL K mg base T "_law_right" s_law_right) (D_law : DefIn K mg "law" s_law) : Callee P w K mg base T true 14 "law" ["script"] f_law := by
  have c_is_int := d_is_int (P := P) (w := w) (base := base) (T := T) G D_is_int
  have c_is_whole := d_is_whole (P := P) (w := w) (base := base) (T := T) G D_is_whole
  have c_common := d_common (P := P) (w := w) (base := base) (T := T) G D_common
  have c_rate := d_rate (P := P) (w := w) (base := base) (T := T) G D_rate c_common
  have c_is_lowest := d_is_lowest (P := P) (w := w) (base := base) (T := T) G D_is_lowest c_is_whole c_common
  have c_is_fraction := d_is_fraction (P := P) (w := w) (base := base) (T := T) G D_is_fraction c_is_lowest
  have c_plus := d_plus (P := P) (w := w) (base := base) (T := T) G D_plus c_rate
  have c_less := d_less (P := P) (w := w) (base := base) (T := T) G D_less c_rate
  have c_times := d_times (P := P) (w := w) (base := base) (T := T) G D_times c_rate
  have c_turned_sign := d_turned_sign (P := P) (w := w) (base := base) (T := T) G D_turned_sign
  have c_squared := d_squared (P := P) (w := w) (base := base) (T := T) G D_squared
  have c_plain := d_plain (P := P) (w := w) (base := base) (T := T) G D_plain
  have c_negative := d_negative (P := P) (w := w) (base := base) (T := T) G D_negative c_turned_sign
  have c_sign_of_int := d_sign_of_int (P := P) (w := w) (base := base) (T := T) G D_sign_of_int
  have c_sign_under := d_sign_under (P := P) (w := w) (base := base) (T := T) G D_sign_under c_sign_of_int
  have c_sign := d_sign (P := P) (w := w) (base := base) (T := T) G D_sign c_sign_under
  have c_sign_of_four := d_sign_of_four (P := P) (w := w) (base := base) (T := T) G D_sign_of_four c_sign_under
  have c_ints_of := d_ints_of (P := P) (w := w) (base := base) (T := T) G D_ints_of
  have c_sign_of_cross := d_sign_of_cross (P := P) (w := w) (base := base) (T := T) G D_sign_of_cross c_ints_of c_sign_of_four
  have c_sign_of_dot := d_sign_of_dot (P := P) (w := w) (base := base) (T := T) G D_sign_of_dot c_negative c_sign_of_cross
  have c_is_turn := d_is_turn (P := P) (w := w) (base := base) (T := T) G D_is_turn c_is_lowest c_squared c_plus
  have c_look_at_turn := d_look_at_turn (P := P) (w := w) (base := base) (T := T) G D_look_at_turn c_is_turn
  have c_told_turn_of := d_told_turn_of (P := P) (w := w) (base := base) (T := T) G D_told_turn_of c_rate
  have c_told_behind := d_told_behind (P := P) (w := w) (base := base) (T := T) G D_told_behind c_times c_less c_plus
  have c_lifted := d_lifted (P := P) (w := w) (base := base) (T := T) G D_lifted c_plain
  have c_half_plane := d_half_plane (P := P) (w := w) (base := base) (T := T) G D_half_plane c_sign
  have c_is_ahead := d_is_ahead (P := P) (w := w) (base := base) (T := T) G D_is_ahead c_half_plane c_sign_of_cross
  have c_is_same_way := d_is_same_way (P := P) (w := w) (base := base) (T := T) G D_is_same_way c_sign_of_cross c_sign_of_dot
  have c_is_between := d_is_between (P := P) (w := w) (base := base) (T := T) G D_is_between c_is_same_way c_is_ahead
  have c_told_from_to := d_told_from_to (P := P) (w := w) (base := base) (T := T) G D_told_from_to c_is_same_way c_is_between
  have c_is_from_to := d_is_from_to (P := P) (w := w) (base := base) (T := T) G D_is_from_to c_look_at_turn c_lifted c_told_from_to
  have c_told_quarters := d_told_quarters (P := P) (w := w) (base := base) (T := T) G D_told_quarters c_less c_told_turn_of c_told_behind
  have c_place_at := d_place_at (P := P) (w := w) (base := base) (T := T) G D_place_at c_rate c_told_quarters c_lifted c_is_ahead
  have c_turn_near := d_turn_near (P := P) (w := w) (base := base) (T := T) G D_turn_near c_is_fraction c_is_int c_lifted c_place_at c_rate c_told_quarters
  have c_law_pot := d_law_pot (P := P) (w := w) (base := base) (T := T) G D_law_pot
  have c_law_take := d_law_take (P := P) (w := w) (base := base) (T := T) G D_law_take
  have c_law_of := d_law_of (P := P) (w := w) (base := base) (T := T) G D_law_of c_law_take
  have c_law_cells := d_law_cells (P := P) (w := w) (base := base) (T := T) G D_law_cells
  have c_law_is_bool := d_law_is_bool (P := P) (w := w) (base := base) (T := T) G D_law_is_bool
  have c_law_gcd := d_law_gcd (P := P) (w := w) (base := base) (T := T) G D_law_gcd
  have c_law_rate := d_law_rate (P := P) (w := w) (base := base) (T := T) G D_law_rate c_law_gcd
  have c_law_less := d_law_less (P := P) (w := w) (base := base) (T := T) G D_law_less c_law_rate
  have c_law_times := d_law_times (P := P) (w := w) (base := base) (T := T) G D_law_times c_law_rate
  have c_law_turn_of := d_law_turn_of (P := P) (w := w) (base := base) (T := T) G D_law_turn_of c_law_rate
  have c_law_quarters := d_law_quarters (P := P) (w := w) (base := base) (T := T) G D_law_quarters c_law_less c_law_turn_of
  have c_law_spot_near := d_law_spot_near (P := P) (w := w) (base := base) (T := T) G D_law_spot_near
  have c_law_way_drawn := d_law_way_drawn (P := P) (w := w) (base := base) (T := T) G D_law_way_drawn c_law_of c_law_take c_law_rate c_law_quarters
  have c_law_is_way_right := d_law_is_way_right (P := P) (w := w) (base := base) (T := T) G D_law_is_way_right c_law_spot_near c_law_rate c_law_quarters c_turn_near c_is_from_to c_law_is_bool c_law_of c_law_times
  have c_law_right := d_law_right (P := P) (w := w) (base := base) (T := T) G D_law_right c_law_take c_law_of c_law_way_drawn c_law_is_way_right c_turn_near
  have c_law := d_law (P := P) (w := w) (base := base) (T := T) G D_law c_law_cells c_law_pot c_law_right
  exact c_law
end K18
open PySem PySem.W PyProof.Rows in
set_option maxRecDepth 100000 in
set_option maxHeartbeats 0 in
theorem PySem.Challenge.cw_elbowsexactly_k18_whole_turns_near_ways_holds : PySem.Challenge.rw_elbowsexactly_k18_whole_turns_near_ways.Holds := by
  w_on; o_law; k_head; (case hw => w_witness2)
  k_fill
  refine DL.law_walk (l := PySem.Challenge.rw_elbowsexactly_k18_whole_turns_near_ways) (n := 63) (k := 14) (x := "script") (fn := K18.f_law) rfl (by decide) rfl ⟨rfl, by decide, by decide⟩ (fun w h Y => PySem.W.km_in_of Y) ?F K18.law_true
  case F =>
    intro w mg mb mean h Y KX G GT
    have D_is_int : DL.DefOf KX mg "is_int" K18.s_is_int := by
      refine' DL.defIn_of KX G ?a ?l ?c ?k
      (case a => k_is); (case l => k_is); (case c => k_is); (case k => k_is)
    have D_is_whole : DL.DefOf KX mg "is_whole" K18.s_is_whole := by
      refine' DL.defIn_of KX G ?a ?l ?c ?k
      (case a => k_is); (case l => k_is); (case c => k_is); (case k => k_is)
    have D_common : DL.DefOf KX mg "common" K18.s_common := by
      refine' DL.defIn_of KX G ?a ?l ?c ?k
      (case a => k_is); (case l => k_is); (case c => k_is); (case k => k_is)
    have D_rate : DL.DefOf KX mg "rate" K18.s_rate := by
      refine' DL.defIn_of KX G ?a ?l ?c ?k
      (case a => k_is); (case l => k_is); (case c => k_is); (case k => k_is)
    have D_is_lowest : DL.DefOf KX mg "is_lowest" K18.s_is_lowest := by
      refine' DL.defIn_of KX G ?a ?l ?c ?k
      (case a => k_is); (case l => k_is); (case c => k_is); (case k => k_is)
    have D_is_fraction : DL.DefOf KX mg "is_fraction" K18.s_is_fraction := by
      refine' DL.defIn_of KX G ?a ?l ?c ?k
      (case a => k_is); (case l => k_is); (case c => k_is); (case k => k_is)
    have D_plus : DL.DefOf KX mg "plus" K18.s_plus := by
      refine' DL.defIn_of KX G ?a ?l ?c ?k
      (case a => k_is); (case l => k_is); (case c => k_is); (case k => k_is)
    have D_less : DL.DefOf KX mg "less" K18.s_less := by
      refine' DL.defIn_of KX G ?a ?l ?c ?k
      (case a => k_is); (case l => k_is); (case c => k_is); (case k => k_is)
    have D_times : DL.DefOf KX mg "times" K18.s_times := by
      refine' DL.defIn_of KX G ?a ?l ?c ?k
      (case a => k_is); (case l => k_is); (case c => k_is); (case k => k_is)
    have D_turned_sign : DL.DefOf KX mg "turned_sign" K18.s_turned_sign := by
      refine' DL.defIn_of KX G ?a ?l ?c ?k
      (case a => k_is); (case l => k_is); (case c => k_is); (case k => k_is)
    have D_squared : DL.DefOf KX mg "squared" K18.s_squared := by
      refine' DL.defIn_of KX G ?a ?l ?c ?k
      (case a => k_is); (case l => k_is); (case c => k_is); (case k => k_is)
    have D_plain : DL.DefOf KX mg "plain" K18.s_plain := by
      refine' DL.defIn_of KX G ?a ?l ?c ?k
      (case a => k_is); (case l => k_is); (case c => k_is); (case k => k_is)
    have D_negative : DL.DefOf KX mg "negative" K18.s_negative := by
      refine' DL.defIn_of KX G ?a ?l ?c ?k
      (case a => k_is); (case l => k_is); (case c => k_is); (case k => k_is)
    have D_sign_of_int : DL.DefOf KX mg "sign_of_int" K18.s_sign_of_int := by
      refine' DL.defIn_of KX G ?a ?l ?c ?k
      (case a => k_is); (case l => k_is); (case c => k_is); (case k => k_is)
    have D_sign_under : DL.DefOf KX mg "sign_under" K18.s_sign_under := by
      refine' DL.defIn_of KX G ?a ?l ?c ?k
      (case a => k_is); (case l => k_is); (case c => k_is); (case k => k_is)
    have D_sign : DL.DefOf KX mg "sign" K18.s_sign := by
      refine' DL.defIn_of KX G ?a ?l ?c ?k
      (case a => k_is); (case l => k_is); (case c => k_is); (case k => k_is)
    have D_sign_of_four : DL.DefOf KX mg "sign_of_four" K18.s_sign_of_four := by
      refine' DL.defIn_of KX G ?a ?l ?c ?k
      (case a => k_is); (case l => k_is); (case c => k_is); (case k => k_is)
    have D_ints_of : DL.DefOf KX mg "ints_of" K18.s_ints_of := by
      refine' DL.defIn_of KX G ?a ?l ?c ?k
      (case a => k_is); (case l => k_is); (case c => k_is); (case k => k_is)
    have D_sign_of_cross : DL.DefOf KX mg "sign_of_cross" K18.s_sign_of_cross := by
      refine' DL.defIn_of KX G ?a ?l ?c ?k
      (case a => k_is); (case l => k_is); (case c => k_is); (case k => k_is)
    have D_sign_of_dot : DL.DefOf KX mg "sign_of_dot" K18.s_sign_of_dot := by
      refine' DL.defIn_of KX G ?a ?l ?c ?k
      (case a => k_is); (case l => k_is); (case c => k_is); (case k => k_is)
    have D_is_turn : DL.DefOf KX mg "is_turn" K18.s_is_turn := by
      refine' DL.defIn_of KX G ?a ?l ?c ?k
      (case a => k_is); (case l => k_is); (case c => k_is); (case k => k_is)
    have D_look_at_turn : DL.DefOf KX mg "look_at_turn" K18.s_look_at_turn := by
      refine' DL.defIn_of KX G ?a ?l ?c ?k
      (case a => k_is); (case l => k_is); (case c => k_is); (case k => k_is)
    have D_told_turn_of : DL.DefOf KX mg "told_turn_of" K18.s_told_turn_of := by
      refine' DL.defIn_of KX G ?a ?l ?c ?k
      (case a => k_is); (case l => k_is); (case c => k_is); (case k => k_is)
    have D_told_behind : DL.DefOf KX mg "told_behind" K18.s_told_behind := by
      refine' DL.defIn_of KX G ?a ?l ?c ?k
      (case a => k_is); (case l => k_is); (case c => k_is); (case k => k_is)
    have D_lifted : DL.DefOf KX mg "lifted" K18.s_lifted := by
      refine' DL.defIn_of KX G ?a ?l ?c ?k
      (case a => k_is); (case l => k_is); (case c => k_is); (case k => k_is)
    have D_half_plane : DL.DefOf KX mg "half_plane" K18.s_half_plane := by
      refine' DL.defIn_of KX G ?a ?l ?c ?k
      (case a => k_is); (case l => k_is); (case c => k_is); (case k => k_is)
    have D_is_ahead : DL.DefOf KX mg "is_ahead" K18.s_is_ahead := by
      refine' DL.defIn_of KX G ?a ?l ?c ?k
      (case a => k_is); (case l => k_is); (case c => k_is); (case k => k_is)
    have D_is_same_way : DL.DefOf KX mg "is_same_way" K18.s_is_same_way := by
      refine' DL.defIn_of KX G ?a ?l ?c ?k
      (case a => k_is); (case l => k_is); (case c => k_is); (case k => k_is)
    have D_is_between : DL.DefOf KX mg "is_between" K18.s_is_between := by
      refine' DL.defIn_of KX G ?a ?l ?c ?k
      (case a => k_is); (case l => k_is); (case c => k_is); (case k => k_is)
    have D_told_from_to : DL.DefOf KX mg "told_from_to" K18.s_told_from_to := by
      refine' DL.defIn_of KX G ?a ?l ?c ?k
      (case a => k_is); (case l => k_is); (case c => k_is); (case k => k_is)
    have D_is_from_to : DL.DefOf KX mg "is_from_to" K18.s_is_from_to := by
      refine' DL.defIn_of KX G ?a ?l ?c ?k
      (case a => k_is); (case l => k_is); (case c => k_is); (case k => k_is)
    have D_told_quarters : DL.DefOf KX mg "told_quarters" K18.s_told_quarters := by
      refine' DL.defIn_of KX G ?a ?l ?c ?k
      (case a => k_is); (case l => k_is); (case c => k_is); (case k => k_is)
    have D_place_at : DL.DefOf KX mg "place_at" K18.s_place_at := by
      refine' DL.defIn_of KX G ?a ?l ?c ?k
      (case a => k_is); (case l => k_is); (case c => k_is); (case k => k_is)
    have D_turn_near : DL.DefOf KX mg "turn_near" K18.s_turn_near := by
      refine' DL.defIn_of KX G ?a ?l ?c ?k
      (case a => k_is); (case l => k_is); (case c => k_is); (case k => k_is)
    have D_law_pot : DL.DefOf KX mg "_law_pot" K18.s_law_pot := by
      refine' DL.defIn_of KX G ?a ?l ?c ?k
      (case a => k_is); (case l => k_is); (case c => k_is); (case k => k_is)
    have D_law_take : DL.DefOf KX mg "_law_take" K18.s_law_take := by
      refine' DL.defIn_of KX G ?a ?l ?c ?k
      (case a => k_is); (case l => k_is); (case c => k_is); (case k => k_is)
    have D_law_of : DL.DefOf KX mg "_law_of" K18.s_law_of := by
      refine' DL.defIn_of KX G ?a ?l ?c ?k
      (case a => k_is); (case l => k_is); (case c => k_is); (case k => k_is)
    have D_law_cells : DL.DefOf KX mg "_law_cells" K18.s_law_cells := by
      refine' DL.defIn_of KX G ?a ?l ?c ?k
      (case a => k_is); (case l => k_is); (case c => k_is); (case k => k_is)
    have D_law_is_bool : DL.DefOf KX mg "_law_is_bool" K18.s_law_is_bool := by
      refine' DL.defIn_of KX G ?a ?l ?c ?k
      (case a => k_is); (case l => k_is); (case c => k_is); (case k => k_is)
    have D_law_gcd : DL.DefOf KX mg "_law_gcd" K18.s_law_gcd := by
      refine' DL.defIn_of KX G ?a ?l ?c ?k
      (case a => k_is); (case l => k_is); (case c => k_is); (case k => k_is)
    have D_law_rate : DL.DefOf KX mg "_law_rate" K18.s_law_rate := by
      refine' DL.defIn_of KX G ?a ?l ?c ?k
      (case a => k_is); (case l => k_is); (case c => k_is); (case k => k_is)
    have D_law_less : DL.DefOf KX mg "_law_less" K18.s_law_less := by
      refine' DL.defIn_of KX G ?a ?l ?c ?k
      (case a => k_is); (case l => k_is); (case c => k_is); (case k => k_is)
    have D_law_times : DL.DefOf KX mg "_law_times" K18.s_law_times := by
      refine' DL.defIn_of KX G ?a ?l ?c ?k
      (case a => k_is); (case l => k_is); (case c => k_is); (case k => k_is)
    have D_law_turn_of : DL.DefOf KX mg "_law_turn_of" K18.s_law_turn_of := by
      refine' DL.defIn_of KX G ?a ?l ?c ?k
      (case a => k_is); (case l => k_is); (case c => k_is); (case k => k_is)
    have D_law_quarters : DL.DefOf KX mg "_law_quarters" K18.s_law_quarters := by
      refine' DL.defIn_of KX G ?a ?l ?c ?k
      (case a => k_is); (case l => k_is); (case c => k_is); (case k => k_is)
    have D_law_spot_near : DL.DefOf KX mg "_law_spot_near" K18.s_law_spot_near := by
      refine' DL.defIn_of KX G ?a ?l ?c ?k
      (case a => k_is); (case l => k_is); (case c => k_is); (case k => k_is)
    have D_law_way_drawn : DL.DefOf KX mg "_law_way_drawn" K18.s_law_way_drawn := by
      refine' DL.defIn_of KX G ?a ?l ?c ?k
      (case a => k_is); (case l => k_is); (case c => k_is); (case k => k_is)
    have D_law_is_way_right : DL.DefOf KX mg "_law_is_way_right" K18.s_law_is_way_right := by
      refine' DL.defIn_of KX G ?a ?l ?c ?k
      (case a => k_is); (case l => k_is); (case c => k_is); (case k => k_is)
    have L_law_right : DL.LamOf KX mg "_law_right" K18.s_law_right := by
      refine' DL.lamE_mk KX G ?a ?l ?c ?k ?t ?d ?n ?b
      (case b => exact PySem.W.km_tabs_of Y _ (List.Mem.head _)); (case a => k_is); (case l => k_is); (case c => k_is); (case k => k_is); (case t => first | k_is | kernel_rfl); (case d => first | k_is | kernel_rfl); (case n => first | k_is | kernel_rfl)
    have D_law : DL.DefOf KX mg "law" K18.s_law := by
      refine' DL.defIn_of KX G ?a ?l ?c ?k
      (case a => k_is); (case l => k_is); (case c => k_is); (case k => k_is)
    have c_MOST : DL.CstOf KX mg "MOST" K18.k_MOST := by
      refine' DL.cst_of (n := 30) KX G ?a ?e
      (case a => k_is); (case e => kernel_rfl)
    have c_ONE : DL.CstOf KX mg "ONE" K18.k_ONE := by
      refine' DL.cst_of (n := 30) KX G ?a ?e
      (case a => k_is); (case e => kernel_rfl)
    have c_QUARTER : DL.CstOf KX mg "QUARTER" K18.k_QUARTER := by
      refine' DL.cst_of (n := 30) KX G ?a ?e
      (case a => k_is); (case e => kernel_rfl)
    have c_ZERO : DL.CstOf KX mg "ZERO" K18.k_ZERO := by
      refine' DL.cst_of (n := 30) KX G ?a ?e
      (case a => k_is); (case e => kernel_rfl)
    have A_BadInt : DL.ArmOf KX PySem.Challenge.rw_elbowsexactly_k18_whole_turns_near_ways.prog "BadInt" := by
      refine' ⟨_, _, _, DL.arm_mk KX ?aC ?aD ?xL ?hb ?sa ?ga ?gg ?noN ?iC ?tC ?kC ?exC ?vC ?tyC ?hdC ?clD ?mD ?sm ?ca ?cn ?ctk ?cm ?th ?zlf ?zcd ?zlc ?zhv ?zhf ?zle ?ztop⟩
      (case aC => first | k_is | kernel_rfl); (case aD => first | k_is | kernel_rfl); (case xL => first | k_is | kernel_rfl); (case hb => decide +kernel); (case sa => first | k_is | kernel_rfl); (case ga => first | k_is | kernel_rfl); (case gg => first | k_is | kernel_rfl); (case noN => first | k_is | kernel_rfl); (case iC => first | k_is | kernel_rfl); (case tC => first | k_is | kernel_rfl); (case kC => first | k_is | kernel_rfl); (case exC => first | k_is | kernel_rfl); (case vC => first | k_is | kernel_rfl); (case tyC => first | k_is | kernel_rfl); (case hdC => first | k_is | kernel_rfl); (case clD => first | k_is | kernel_rfl); (case mD => first | k_is | kernel_rfl); (case sm => first | k_is | kernel_rfl); (case ca => first | k_is | kernel_rfl); (case cn => first | k_is | kernel_rfl); (case ctk => first | k_is | kernel_rfl); (case cm => first | k_is | kernel_rfl); (case th => first | k_is | kernel_rfl); (case zlf => first | k_is | kernel_rfl); (case zcd => first | k_is | kernel_rfl); (case zlc => first | k_is | kernel_rfl); (case zhv => rfl); (case zhf => first | rfl | decide +kernel); (case zle => first | k_is | kernel_rfl); (case ztop => first | rfl | decide +kernel)
    have A_BadTurn : DL.ArmOf KX PySem.Challenge.rw_elbowsexactly_k18_whole_turns_near_ways.prog "BadTurn" := by
      refine' ⟨_, _, _, DL.arm_mk KX ?aC ?aD ?xL ?hb ?sa ?ga ?gg ?noN ?iC ?tC ?kC ?exC ?vC ?tyC ?hdC ?clD ?mD ?sm ?ca ?cn ?ctk ?cm ?th ?zlf ?zcd ?zlc ?zhv ?zhf ?zle ?ztop⟩
      (case aC => first | k_is | kernel_rfl); (case aD => first | k_is | kernel_rfl); (case xL => first | k_is | kernel_rfl); (case hb => decide +kernel); (case sa => first | k_is | kernel_rfl); (case ga => first | k_is | kernel_rfl); (case gg => first | k_is | kernel_rfl); (case noN => first | k_is | kernel_rfl); (case iC => first | k_is | kernel_rfl); (case tC => first | k_is | kernel_rfl); (case kC => first | k_is | kernel_rfl); (case exC => first | k_is | kernel_rfl); (case vC => first | k_is | kernel_rfl); (case tyC => first | k_is | kernel_rfl); (case hdC => first | k_is | kernel_rfl); (case clD => first | k_is | kernel_rfl); (case mD => first | k_is | kernel_rfl); (case sm => first | k_is | kernel_rfl); (case ca => first | k_is | kernel_rfl); (case cn => first | k_is | kernel_rfl); (case ctk => first | k_is | kernel_rfl); (case cm => first | k_is | kernel_rfl); (case th => first | k_is | kernel_rfl); (case zlf => first | k_is | kernel_rfl); (case zcd => first | k_is | kernel_rfl); (case zlc => first | k_is | kernel_rfl); (case zhv => rfl); (case zhf => first | rfl | decide +kernel); (case zle => first | k_is | kernel_rfl); (case ztop => first | rfl | decide +kernel)
    have X_BadInt : DL.ExcOf KX mg PySem.Challenge.rw_elbowsexactly_k18_whole_turns_near_ways.prog "BadInt" := by
      refine' DL.exc_mk KX G A_BadInt ?z
      (case z => k_is)
    have X_BadTurn : DL.ExcOf KX mg PySem.Challenge.rw_elbowsexactly_k18_whole_turns_near_ways.prog "BadTurn" := by
      refine' DL.exc_mk KX G A_BadTurn ?z
      (case z => k_is)
    have HD : DL.HeardOf KX mg := by
      refine' DL.heard_mk KX G ?a ?aD ?l ?c ?k ?b ?hw
      (case a => k_is); (case aD => k_is); (case l => k_is); (case c => k_is); (case k => k_is); (case b => exact fun us hl => match us, hl with | [_], _ => rfl); (case hw => exact fun _ _ _ => rfl)
    have b_abs : mg "abs" = none := by
      refine' PySem.W.mg_none_of KX G ?a
      (case a => k_is)
    have b_all : mg "all" = none := by
      refine' PySem.W.mg_none_of KX G ?a
      (case a => k_is)
    have b_bool : mg "bool" = none := by
      refine' PySem.W.mg_none_of KX G ?a
      (case a => k_is)
    have b_int : mg "int" = none := by
      refine' PySem.W.mg_none_of KX G ?a
      (case a => k_is)
    have b_isinstance : mg "isinstance" = none := by
      refine' PySem.W.mg_none_of KX G ?a
      (case a => k_is)
    have b_len : mg "len" = none := by
      refine' PySem.W.mg_none_of KX G ?a
      (case a => k_is)
    have b_list : mg "list" = none := by
      refine' PySem.W.mg_none_of KX G ?a
      (case a => k_is)
    have b_max : mg "max" = none := by
      refine' PySem.W.mg_none_of KX G ?a
      (case a => k_is)
    have b_min : mg "min" = none := by
      refine' PySem.W.mg_none_of KX G ?a
      (case a => k_is)
    have b_range : mg "range" = none := by
      refine' PySem.W.mg_none_of KX G ?a
      (case a => k_is)
    have b_repr : mg "repr" = none := by
      refine' PySem.W.mg_none_of KX G ?a
      (case a => k_is)
    have b_sum : mg "sum" = none := by
      refine' PySem.W.mg_none_of KX G ?a
      (case a => k_is)
    have b_tuple : mg "tuple" = none := by
      refine' PySem.W.mg_none_of KX G ?a
      (case a => k_is)
    have v_BadInt : ∃ C, mg "BadInt" = some (.ref C) := by
      refine' DL.cls_mk KX G ?a
      (case a => k_is)
    have v_BadTurn : ∃ C, mg "BadTurn" = some (.ref C) := by
      refine' DL.cls_mk KX G ?a
      (case a => k_is)
    have SUB : DL.SubOf KX mg PySem.Challenge.rw_elbowsexactly_k18_whole_turns_near_ways.prog K18.sub0 := by
      refine ⟨fun c c' b e => ?_⟩
      unfold K18.sub0 at e
      split at e
      · (rename_i hh; obtain ⟨rfl, rfl⟩ := hh; cases e; refine' DL.sub_mk KX G A_BadInt ?a1 ?a ?k ?e; (case a1 => k_is); (case a => k_is); (case k => first | k_is | kernel_rfl); (case e => first | k_is | kernel_rfl))
      split at e
      · (rename_i hh; obtain ⟨rfl, rfl⟩ := hh; cases e; refine' DL.sub_mk KX G A_BadInt ?a1 ?a ?k ?e; (case a1 => k_is); (case a => k_is); (case k => first | k_is | kernel_rfl); (case e => first | k_is | kernel_rfl))
      split at e
      · (rename_i hh; obtain ⟨rfl, rfl⟩ := hh; cases e; refine' DL.sub_mk KX G A_BadInt ?a1 ?a ?k ?e; (case a1 => k_is); (case a => k_is); (case k => first | k_is | kernel_rfl); (case e => first | k_is | kernel_rfl))
      split at e
      · (rename_i hh; obtain ⟨rfl, rfl⟩ := hh; cases e; refine' DL.sub_mk KX G A_BadTurn ?a1 ?a ?k ?e; (case a1 => k_is); (case a => k_is); (case k => first | k_is | kernel_rfl); (case e => first | k_is | kernel_rfl))
      split at e
      · (rename_i hh; obtain ⟨rfl, rfl⟩ := hh; cases e; refine' DL.sub_mk KX G A_BadTurn ?a1 ?a ?k ?e; (case a1 => k_is); (case a => k_is); (case k => first | k_is | kernel_rfl); (case e => first | k_is | kernel_rfl))
      split at e
      · (rename_i hh; obtain ⟨rfl, rfl⟩ := hh; cases e; refine' DL.sub_mk KX G A_BadTurn ?a1 ?a ?k ?e; (case a1 => k_is); (case a => k_is); (case k => first | k_is | kernel_rfl); (case e => first | k_is | kernel_rfl))
      · cases e
    have GL := (⟨b_abs, b_all, b_bool, b_int, b_isinstance, b_len, b_list, b_max, b_min, b_range, b_repr, b_sum, b_tuple, c_MOST, c_ONE, c_QUARTER, c_ZERO, X_BadInt, X_BadTurn, v_BadInt, v_BadTurn, SUB, HD⟩ : K18.Gl0 PySem.Challenge.rw_elbowsexactly_k18_whole_turns_near_ways.prog _ mg)
    obtain ⟨cc, qq, L, h1, h2, h3⟩ := L_law_right.ex
    exact ⟨_, [(cc, qq)], [(qq, PySem.Str.ofString "_law_right" ++ PySem.Str.ofString ".<locals>." ++ PySem.Str.ofString "<lambda>")], (by simp), (by simpa using h3), (by simpa using h2), (by simpa using PySem.W.codeHd_of_K KX h1), fun base KB GB TB => K18.law_all GL D_is_int D_is_whole D_common D_rate D_is_lowest D_is_fraction D_plus D_less D_times D_turned_sign D_squared D_plain D_negative D_sign_of_int D_sign_under D_sign D_sign_of_four D_ints_of D_sign_of_cross D_sign_of_dot D_is_turn D_look_at_turn D_told_turn_of D_told_behind D_lifted D_half_plane D_is_ahead D_is_same_way D_is_between D_told_from_to D_is_from_to D_told_quarters D_place_at D_turn_near D_law_pot D_law_take D_law_of D_law_cells D_law_is_bool D_law_gcd D_law_rate D_law_less D_law_times D_law_turn_of D_law_quarters D_law_spot_near D_law_way_drawn D_law_is_way_right (L.def (TB (cc, qq) (by simp)) (by simp) (by simp)) D_law⟩
#print axioms PySem.Challenge.cw_elbowsexactly_k18_whole_turns_near_ways_holds


