import PyProof.Rows.All
import HandS.ForMost
import HandS.IsInst
import HandS.ForExc
import HandS.Deep
import HandS.Wide
import HandS.Style
import HandS.CallSlots
import HandS.EndTab
import HandS.Conv
import HandS.RaiseMore
import HandS.TupAny
import KE.KExcSuper
import OpenK.KCell
import KE.KExcIs
import HandS.ExcValue
import PyProof.TwoTypesSub
import PyProof.Rows.IntBool
import HandS.WideBits
import PySem.Challenge.RW_elbowsexactly_k20_whole_circles_and_line
import PyProof.ReprBulk
import Wide.FinOn
import HandS.ForSpec
set_option linter.all false
set_option autoImplicit false
/-! DLs: plain data, results and the combinators of the mirror (semantics alone). -/
namespace DL
open PySem

inductive D where
  | non
  | bl (b : Bool)
  | int (i : Int)
  | str (x : Str)
  | tup (xs : List D)
  | lst (xs : List D)
  | loc (n : Nat)
  | exo (c : Str) (v : D)
  | ty (n : String)
  | cls (c : Str)
  | fn (n : Nat)

/-- the mutable lists, by number -/
abbrev Sto := List (List D)
/-- the slots of a def -/
abbrev Env := List (Option D)

inductive R (α : Type) where
  | ok (a : α) (S : Sto)
  | exc (c : Str) (v : D) (S : Sto)
  | bad
def R.bind {α β : Type} (r : R α) (k : α → Sto → R β) : R β := match r with
  | .ok a S => k a S
  | .exc c v S => .exc c v S
  | .bad => .bad
@[simp] theorem bind_ok {α β : Type} (a : α) (S : Sto) (k : α → Sto → R β) : (R.ok a S).bind k = k a S := rfl
@[simp] theorem bind_exc {α β : Type} (c : Str) (v : D) (S : Sto) (k : α → Sto → R β) : (R.exc c v S).bind k = .exc c v S := rfl
@[simp] theorem bind_bad {α β : Type} (k : α → Sto → R β) : (R.bad : R α).bind k = .bad := rfl

abbrev EF := Env → Sto → R D
abbrev TF := Env → Sto → R Bool
abbrev AF := Env → Sto → R (List D)
abbrev FN := List D → Sto → R D

inductive RS where
  | nx (ρ : Env) (S : Sto)
  | rt (d : D) (S : Sto)
  | bk (ρ : Env) (S : Sto)
  | ct (ρ : Env) (S : Sto)
  | exc (c : Str) (v : D) (ρ : Env) (S : Sto)
  | bad
abbrev SF := Env → Sto → RS

/-! ### expressions -/
def eVar (i : Nat) : EF := fun ρ S => match ρ[i]? with
  | some (some d) => .ok d S
  | _ => .bad
def eC (d : D) : EF := fun _ S => .ok d S
def eBin (g : D → D → Sto → R D) (a b : EF) : EF := fun ρ S => (a ρ S).bind fun x S => (b ρ S).bind fun y S => g x y S
def eUn (g : D → Sto → R D) (a : EF) : EF := fun ρ S => (a ρ S).bind fun x S => g x S
def eAnd (a b : EF) : EF := fun ρ S => (a ρ S).bind fun x S => match x with
  | .bl true => b ρ S
  | .bl false => .ok (.bl false) S
  | _ => .bad
def eOr (a b : EF) : EF := fun ρ S => (a ρ S).bind fun x S => match x with
  | .bl true => .ok (.bl true) S
  | .bl false => b ρ S
  | _ => .bad
def eNot (a : EF) : EF := fun ρ S => (a ρ S).bind fun x S => match x with
  | .bl c => .ok (.bl (!c)) S
  | _ => .bad
def eIf (t : TF) (a b : EF) : EF := fun ρ S => (t ρ S).bind fun c S => match c with
  | true => a ρ S
  | false => b ρ S
def eChain (g h : D → D → Sto → R D) (a b c : EF) : EF := fun ρ S => (a ρ S).bind fun x S => (b ρ S).bind fun y S => (g x y S).bind fun k S => match k with
  | .bl true => (c ρ S).bind fun z S => h y z S
  | .bl false => .ok (.bl false) S
  | _ => .bad
/-! ### tests -/
def tOf (a : EF) : TF := fun ρ S => (a ρ S).bind fun x S => match x with
  | .bl c => .ok c S
  | _ => .bad
def tAnd (a b : TF) : TF := fun ρ S => (a ρ S).bind fun c S => match c with
  | true => b ρ S
  | false => .ok false S
def tOr (a b : TF) : TF := fun ρ S => (a ρ S).bind fun c S => match c with
  | true => .ok true S
  | false => b ρ S
def tNot (a : TF) : TF := fun ρ S => (a ρ S).bind fun c S => .ok (!c) S
def truD (S : Sto) : D → Option Bool
  | .non => some false
  | .bl b => some b
  | .int i => some (i != 0)
  | .str x => if x.length ≤ 16777216 then some (x.length != 0) else none
  | .tup xs => some (!xs.isEmpty)
  | .lst xs => some (!xs.isEmpty)
  | .loc n => (S[n]?).map fun xs => !xs.isEmpty
  | _ => none
def tTru (a : EF) : TF := fun ρ S => (a ρ S).bind fun x S => match truD S x with
  | some c => .ok c S
  | none => .bad
/-! ### arguments, displays, calls -/
def aNil : AF := fun _ S => .ok [] S
def aCons (a : EF) (r : AF) : AF := fun ρ S => (a ρ S).bind fun x S => (r ρ S).bind fun xs S => .ok (x :: xs) S
def eTup (a : AF) : EF := fun ρ S => (a ρ S).bind fun xs S => if xs.length ≤ 16777216 then .ok (.tup xs) S else .bad
def eLst (a : AF) : EF := fun ρ S => (a ρ S).bind fun xs S => if xs.length ≤ 16777216 then .ok (.lst xs) S else .bad
/-- a list that may be changed -/
def eNew (a : AF) : EF := fun ρ S => (a ρ S).bind fun xs S => if xs.length ≤ 16777216 then .ok (.loc S.length) (S ++ [xs]) else .bad
def eCall (f : FN) (a : AF) : EF := fun ρ S => (a ρ S).bind fun xs S => f xs S

/-! ### statements -/
def R.st {α : Type} (r : R α) (ρ : Env) (k : α → Sto → RS) : RS := match r with
  | .ok a S => k a S
  | .exc c v S => .exc c v ρ S
  | .bad => .bad
@[simp] theorem st_ok {α : Type} (a : α) (S : Sto) (ρ : Env) (k : α → Sto → RS) : (R.ok a S).st ρ k = k a S := rfl
@[simp] theorem st_exc {α : Type} (c : Str) (v : D) (S : Sto) (ρ : Env) (k : α → Sto → RS) : (R.exc c v S).st ρ k = .exc c v ρ S := rfl
@[simp] theorem st_bad {α : Type} (ρ : Env) (k : α → Sto → RS) : (R.bad : R α).st ρ k = .bad := rfl
def RS.then (r : RS) (k : Env → Sto → RS) : RS := match r with
  | .nx ρ S => k ρ S
  | .rt d S => .rt d S
  | .bk ρ S => .bk ρ S
  | .ct ρ S => .ct ρ S
  | .exc c v ρ S => .exc c v ρ S
  | .bad => .bad
@[simp] theorem then_nx (ρ : Env) (S : Sto) (k : Env → Sto → RS) : (RS.nx ρ S).then k = k ρ S := rfl
@[simp] theorem then_rt (d : D) (S : Sto) (k : Env → Sto → RS) : (RS.rt d S).then k = .rt d S := rfl
@[simp] theorem then_bk (ρ : Env) (S : Sto) (k : Env → Sto → RS) : (RS.bk ρ S).then k = .bk ρ S := rfl
@[simp] theorem then_ct (ρ : Env) (S : Sto) (k : Env → Sto → RS) : (RS.ct ρ S).then k = .ct ρ S := rfl
@[simp] theorem then_exc (c : Str) (v : D) (ρ : Env) (S : Sto) (k : Env → Sto → RS) : (RS.exc c v ρ S).then k = .exc c v ρ S := rfl
@[simp] theorem then_bad (k : Env → Sto → RS) : (RS.bad).then k = .bad := rfl
def sNil : SF := fun ρ S => .nx ρ S
def sSeq (a b : SF) : SF := fun ρ S => (a ρ S).then fun ρ S => b ρ S
def sBreak : SF := fun ρ S => .bk ρ S
def sCont : SF := fun ρ S => .ct ρ S
def sRet (a : EF) : SF := fun ρ S => (a ρ S).st ρ fun d S => .rt d S
def sRetN : SF := fun _ S => .rt .non S
def sExpr (a : EF) : SF := fun ρ S => (a ρ S).st ρ fun _ S => .nx ρ S
def sIf (t : TF) (a b : SF) : SF := fun ρ S => (t ρ S).st ρ fun c S => match c with
  | true => a ρ S
  | false => b ρ S
def sNever : SF := fun _ _ => .bad
/-- targets -/
abbrev TgF := D → Env → Option Env
def gSet (i : Nat) : TgF := fun d ρ => some (ρ.set i (some d))
abbrev TgsF := List D → Env → Option Env
def gsNil : TgsF := fun ds ρ => match ds with
  | [] => some ρ
  | _ => none
def gsCons (t : TgF) (r : TgsF) : TgsF := fun ds ρ => match ds with
  | d :: ds => (t d ρ).bind fun ρ => r ds ρ
  | _ => none
def gTupD (r : TgsF) : TgF := fun d ρ => match d with
  | .tup ds => r ds ρ
  | _ => none
def sAsg (g : TgF) (a : EF) : SF := fun ρ S => (a ρ S).st ρ fun d S => match g d ρ with
  | some ρ => .nx ρ S
  | none => .bad
def sSet (i : Nat) (a : EF) : SF := fun ρ S => (a ρ S).st ρ fun d S => .nx (ρ.set i (some d)) S
/-- a, b = e1, e2: two different names -/
def sPar (i j : Nat) (a : AF) : SF := fun ρ S => (a ρ S).st ρ fun ds S => match ds with
  | [x, y] => .nx ((ρ.set i (some x)).set j (some y)) S
  | _ => .bad
def sPar3 (i j k : Nat) (a : AF) : SF := fun ρ S => (a ρ S).st ρ fun ds S => match ds with
  | [x, y, z] => .nx (((ρ.set i (some x)).set j (some y)).set k (some z)) S
  | _ => .bad
/-- name op= e -/
def sAug (i : Nat) (g : D → D → Sto → R D) (a : EF) : SF := fun ρ S => match ρ[i]? with
  | some (some x) => (a ρ S).st ρ fun y S => (g x y S).st ρ fun z S => .nx (ρ.set i (some z)) S
  | _ => .bad
/-- o[i] = e, o a list of the store -/
def setD (o i v : D) (S : Sto) : Option Sto := match o, i with
  | .loc n, .int k => match S[n]? with
    | some xs => match L2.ixN xs.length k with
      | some j => some (S.set n (xs.set j v))
      | none => none
    | none => none
  | _, _ => none
def sSub (o i a : EF) : SF := fun ρ S => (a ρ S).st ρ fun v S => (o ρ S).st ρ fun o S => (i ρ S).st ρ fun i S => match setD o i v S with
  | some S => .nx ρ S
  | none => .bad
/-- raise C(e) -/
def sRaise (c : Str) (a : EF) : SF := fun ρ S => (a ρ S).st ρ fun v S => .exc c v ρ S
/-! loops -/
def wIter (t : TF) (b : SF) : Nat → Env → Sto → RS
  | 0, _, _ => .bad
  | n + 1, ρ, S => (t ρ S).st ρ fun c S => match c with
    | false => .nx ρ S
    | true => match b ρ S with
      | .nx ρ S => wIter t b n ρ S
      | .ct ρ S => wIter t b n ρ S
      | .bk ρ S => .nx ρ S
      | .rt d S => .rt d S
      | .exc c v ρ S => .exc c v ρ S
      | .bad => .bad
theorem wIter_mono {t : TF} {b : SF} : ∀ {n : Nat} {ρ : Env} {S : Sto}, wIter t b n ρ S ≠ .bad → ∀ m, n ≤ m → wIter t b m ρ S = wIter t b n ρ S
  | 0, _, _, h, _, _ => absurd rfl h
  | n + 1, ρ, S, h, m, hm => by
    obtain ⟨k, rfl⟩ : ∃ k, m = k + 1 := ⟨m - 1, by omega⟩
    unfold wIter at h ⊢
    cases e : t ρ S with
    | ok c S1 =>
      rw [e] at h
      simp only [st_ok] at h ⊢
      cases c with
      | false => rfl
      | true =>
        simp only at h ⊢
        cases e2 : b ρ S1 with
        | nx ρ2 S2 => rw [e2] at h; exact wIter_mono h k (by omega)
        | ct ρ2 S2 => rw [e2] at h; exact wIter_mono h k (by omega)
        | _ => rfl
    | exc c v S1 => rfl
    | bad => rfl
open Classical in
noncomputable def sWhile (t : TF) (b : SF) : SF := fun ρ S => if h : ∃ n, wIter t b n ρ S ≠ .bad then wIter t b (Classical.choose h) ρ S else .bad
theorem sWhile_of {t : TF} {b : SF} {ρ : Env} {S : Sto} {n : Nat} (h : wIter t b n ρ S ≠ .bad) : sWhile t b ρ S = wIter t b n ρ S := by
  have hx : ∃ n, wIter t b n ρ S ≠ .bad := ⟨n, h⟩
  unfold sWhile
  rw [dif_pos hx]
  have h2 := Classical.choose_spec hx
  rcases Nat.le_total n (Classical.choose hx) with z | z
  · exact wIter_mono h _ z
  · exact (wIter_mono h2 _ z).symm
theorem sWhile_some {t : TF} {b : SF} {ρ : Env} {S : Sto} (h : sWhile t b ρ S ≠ .bad) : ∃ n, wIter t b n ρ S = sWhile t b ρ S := by
  unfold sWhile at h ⊢
  split at h
  · rename_i hx
    exact ⟨_, by rw [dif_pos hx]⟩
  · exact absurd rfl h
/-- one turn -/
theorem sWhile_eq (t : TF) (b : SF) (ρ : Env) (S : Sto) : sWhile t b ρ S = (t ρ S).st ρ fun c S => match c with
    | false => .nx ρ S
    | true => match b ρ S with
      | .nx ρ S => sWhile t b ρ S
      | .ct ρ S => sWhile t b ρ S
      | .bk ρ S => .nx ρ S
      | .rt d S => .rt d S
      | .exc c v ρ S => .exc c v ρ S
      | .bad => .bad := by
  have key : ∀ n, wIter t b (n + 1) ρ S = (t ρ S).st ρ fun c S => match c with
    | false => .nx ρ S
    | true => match b ρ S with
      | .nx ρ S => wIter t b n ρ S
      | .ct ρ S => wIter t b n ρ S
      | .bk ρ S => .nx ρ S
      | .rt d S => .rt d S
      | .exc c v ρ S => .exc c v ρ S
      | .bad => .bad := fun n => rfl
  have one : ∀ r : RS, (∀ n, wIter t b (n + 1) ρ S = r) → sWhile t b ρ S = r := by
    intro r hr
    by_cases h : wIter t b 1 ρ S = .bad
    · by_cases h2 : sWhile t b ρ S = .bad
      · rw [h2, ← h]; exact hr 0
      · obtain ⟨n, hn⟩ := sWhile_some h2
        cases n with
        | zero => exact absurd hn.symm h2
        | succ n => rw [← hn]; exact hr n
    · rw [sWhile_of h]; exact hr 0
  have step : ∀ ρ2 S2, (∀ n, wIter t b (n + 1) ρ S = wIter t b n ρ2 S2) → sWhile t b ρ S = sWhile t b ρ2 S2 := by
    intro ρ2 S2 hr
    by_cases h : sWhile t b ρ2 S2 = .bad
    · by_cases h2 : sWhile t b ρ S = .bad
      · rw [h, h2]
      · obtain ⟨n, hn⟩ := sWhile_some h2
        cases n with
        | zero => exact absurd hn.symm h2
        | succ n =>
          rw [hr n] at hn
          have h3 : wIter t b n ρ2 S2 ≠ .bad := by rw [hn]; exact h2
          rw [sWhile_of h3, hn]
    · obtain ⟨n, hn⟩ := sWhile_some h
      have h3 : wIter t b (n + 1) ρ S ≠ .bad := by rw [hr n, hn]; exact h
      rw [sWhile_of h3, hr n, hn]
  cases e : t ρ S with
  | ok c S1 =>
    rw [e] at key
    simp only [st_ok] at key ⊢
    cases c with
    | false => exact one _ key
    | true =>
      simp only at key ⊢
      cases e2 : b ρ S1 with
      | nx ρ2 S2 => rw [e2] at key; exact step _ _ key
      | ct ρ2 S2 => rw [e2] at key; exact step _ _ key
      | _ => rw [e2] at key; exact one _ key
  | exc c v S1 => rw [e] at key; exact one _ key
  | bad => rw [e] at key; exact one _ key
def forL (g : TgF) (b : SF) : List D → Env → Sto → RS
  | [], ρ, S => .nx ρ S
  | d :: ds, ρ, S => match g d ρ with
    | none => .bad
    | some ρ => match b ρ S with
      | .nx ρ S => forL g b ds ρ S
      | .ct ρ S => forL g b ds ρ S
      | .bk ρ S => .nx ρ S
      | .rt d S => .rt d S
      | .exc c v ρ S => .exc c v ρ S
      | .bad => .bad
/-- what is walked, as data -/
def sFor (it : AF) (g : TgF) (b : SF) : SF := fun ρ S => (it ρ S).st ρ fun ds S => forL g b ds ρ S
/-- the block's own slots are forgotten -/
def wipeE (ρ : Env) : List Nat → Env
  | [] => ρ
  | v :: vs => (wipeE ρ vs).set v none
def compL (vs : List Nat) (g : TgF) (t : TF) (e : EF) (ρ : Env) : List D → Sto → R (List D)
  | [], S => .ok [] S
  | d :: ds, S => match g d (wipeE ρ vs) with
    | none => .bad
    | some ρ1 => match t ρ1 S with
      | .ok true S => match e ρ1 S with
        | .ok y S => (compL vs g t e ρ ds S).bind fun ys S => .ok (y :: ys) S
        | _ => .bad
      | .ok false S => compL vs g t e ρ ds S
      | _ => .bad
def tYes : TF := fun _ S => .ok true S
/-- a list comprehension: its items, as a list that is never changed -/
def eComp (vs : List Nat) (it : AF) (g : TgF) (t : TF) (e : EF) : EF := fun ρ S => (it ρ S).bind fun ds S => if ds.length ≤ 16777216 then (compL vs g t e ρ ds S).bind fun ys S => .ok (.lst ys) S else .bad
def start (n : Nat) (ds : List D) : Env := ds.map some ++ List.replicate (n - ds.length) none
/-- a def by its body: m parameters, n slots -/
def mkFn (m n : Nat) (b : SF) : FN := fun ds S => if ds.length = m then match b (start n ds) S with
    | .nx _ S => .ok .non S
    | .rt d S => .ok d S
    | .exc c v _ S => .exc c v S
    | _ => .bad
  else .bad
/-! lists below n alone -/
mutual
def D.low (n : Nat) : D → Bool
  | .loc m => decide (m < n)
  | .tup xs => D.lowL n xs
  | .lst xs => D.lowL n xs
  | .exo _ v => D.low n v
  | _ => true
def D.lowL (n : Nat) : List D → Bool
  | [] => true
  | x :: xs => D.low n x && D.lowL n xs
end
/-- a def whose own lists are forgotten when it is left -/
def drop (f : FN) : FN := fun ds S => match f ds S with
  | .ok d S' => if d.low S.length && (S'.take S.length).all (D.lowL S.length) then .ok d (S'.take S.length) else .bad
  | .exc c v S' => if v.low S.length && (S'.take S.length).all (D.lowL S.length) then .exc c v (S'.take S.length) else .bad
  | .bad => .bad

/-! ### operations on values -/
def iBin (f : Int → Int → Int) (x y : D) (S : Sto) : R D := match x, y with
  | .int i, .int j => .ok (.int (f i j)) S
  | _, _ => .bad
def iCmp (f : Int → Int → Bool) (x y : D) (S : Sto) : R D := match x, y with
  | .int i, .int j => .ok (.bl (f i j)) S
  | _, _ => .bad
def dAdd := iBin (· + ·)
def dSub := iBin (· - ·)
/-- together below a million bits -/
def mulOk (i j : Int) : Bool := decide (i.natAbs.log2 + j.natAbs.log2 < 1000000)
def dMul (x y : D) (S : Sto) : R D := match x, y with
  | .int i, .int j => if mulOk i j then .ok (.int (i * j)) S else .bad
  | _, _ => .bad
/-- a divisor other than 0, below 2 ^ 9000 -/
def divOk (j : Int) : Bool := decide (j ≠ 0 ∧ j.natAbs.log2 < 9000)
def dDiv (x y : D) (S : Sto) : R D := match x, y with
  | .int i, .int j => if divOk j then .ok (.int (i.fdiv j)) S else .bad
  | _, _ => .bad
def dMod (x y : D) (S : Sto) : R D := match x, y with
  | .int i, .int j => if j ≠ 0 then .ok (.int (i.fmod j)) S else .bad
  | _, _ => .bad
def dPow (x y : D) (S : Sto) : R D := match x, y with
  | .int i, .int j => if 0 ≤ j ∧ (Builtin.Int.intBits i : Int) * j ≤ 2 ^ 27 then .ok (.int (i ^ j.toNat)) S else .bad
  | _, _ => .bad
def dLt := iCmp fun i j => decide (i < j)
def dLe := iCmp fun i j => decide (i ≤ j)
def dGt := iCmp fun i j => decide (j < i)
def dGe := iCmp fun i j => decide (j ≤ i)
def b2i (b : Bool) : Int := if b then 1 else 0
/-- True - False -/
def dSubB (x y : D) (S : Sto) : R D := match x, y with
  | .bl i, .bl j => .ok (.int (b2i i - b2i j)) S
  | .int i, .int j => .ok (.int (i - j)) S
  | _, _ => .bad
def dNeg (x : D) (S : Sto) : R D := match x with
  | .int i => .ok (.int (-i)) S
  | _ => .bad
/-! as the library's data, where no list is one of the store -/
mutual
def D.pd : D → Option PyData
  | .non => some .none
  | .bl b => some (.bool b)
  | .int i => some (.int i)
  | .str x => some (.str x)
  | .tup xs => (D.pdL xs).map .tuple
  | .lst xs => (D.pdL xs).map .list
  | _ => none
def D.pdL : List D → Option (List PyData)
  | [] => some []
  | x :: xs => (D.pd x).bind fun y => (D.pdL xs).map fun ys => y :: ys
end
def eqD (x y : D) : Option Bool := x.pd.bind fun a => y.pd.bind fun b => if SeqAt.shaped a && SeqAt.shaped b then some (PyData.eqv a b) else none
def dEq (x y : D) (S : Sto) : R D := match eqD x y with
  | some c => .ok (.bl c) S
  | none => .bad
def dNe (x y : D) (S : Sto) : R D := match eqD x y with
  | some c => .ok (.bl (!c)) S
  | none => .bad
def D.isNon : D → Bool
  | .non => true
  | _ => false
def dIsN (x y : D) (S : Sto) : R D := if y.isNon then .ok (.bl x.isNon) S else .bad
def dNotN (x y : D) (S : Sto) : R D := if y.isNon then .ok (.bl (!x.isNon)) S else .bad
def dIsB (x y : D) (S : Sto) : R D := match x, y with
  | .bl b, .bl c => .ok (.bl (b == c)) S
  | _, _ => .bad
def dNotB (x y : D) (S : Sto) : R D := match x, y with
  | .bl b, .bl c => .ok (.bl (!(b == c))) S
  | _, _ => .bad
/-- x in xs, xs a list or a tuple -/
def inD (x y : D) : Option Bool := x.pd.bind fun a => y.pd.bind fun b => match b with
  | .tuple bs => if SeqAt.shaped a && SeqAt.shaped (.tuple bs) then some (bs.any fun z => PyData.eqv z a) else none
  | .list bs => if SeqAt.shaped a && SeqAt.shaped (.list bs) then some (bs.any fun z => PyData.eqv z a) else none
  | _ => none
def dIn (x y : D) (S : Sto) : R D := match inD x y with
  | some c => .ok (.bl c) S
  | none => .bad
def dNotIn (x y : D) (S : Sto) : R D := match inD x y with
  | some c => .ok (.bl (!c)) S
  | none => .bad
def dIx (x y : D) (S : Sto) : R D := match y with
  | .int i => match x with
    | .tup xs => match L2.atI xs i with
      | some d => .ok d S
      | none => .bad
    | .lst xs => match L2.atI xs i with
      | some d => .ok d S
      | none => .bad
    | .loc n => match S[n]? with
      | some xs => match L2.atI xs i with
        | some d => .ok d S
        | none => .bad
      | none => .bad
    | _ => .bad
  | _ => .bad
def lenD (S : Sto) : D → Option Nat
  | .tup xs => some xs.length
  | .lst xs => some xs.length
  | .loc n => (S[n]?).map List.length
  | .str x => if x.length ≤ 16777216 then some x.length else none
  | _ => none
def fLen : FN := fun ds S => match ds with
  | [x] => match lenD S x with
    | some n => .ok (.int n) S
    | none => .bad
  | _ => .bad
def fAbs : FN := fun ds S => match ds with
  | [.int i] => .ok (.int (if i < 0 then -i else i)) S
  | _ => .bad
def fInt : FN := fun ds S => match ds with
  | [.int i] => .ok (.int i) S
  | [.bl b] => .ok (.int (b2i b)) S
  | _ => .bad
def fMax : FN := fun ds S => match ds with
  | [.int i, .int j] => .ok (.int (if j > i then j else i)) S
  | _ => .bad
def fMin : FN := fun ds S => match ds with
  | [.int i, .int j] => .ok (.int (if j < i then j else i)) S
  | _ => .bad
/-- the items of a list or tuple -/
def items (S : Sto) : D → Option (List D)
  | .tup xs => some xs
  | .lst xs => some xs
  | .loc n => S[n]?
  | _ => none
def bools : List D → Option (List Bool)
  | [] => some []
  | .bl b :: xs => (bools xs).map (b :: ·)
  | _ :: _ => none
def intsOf : List D → Option (List Int)
  | [] => some []
  | .int b :: xs => (intsOf xs).map (b :: ·)
  | _ :: _ => none
def fAll : FN := fun ds S => match ds with
  | [.lst xs] => match bools xs with
    | some bs => .ok (.bl (bs.all id)) S
    | none => .bad
  | _ => .bad
def fAny : FN := fun ds S => match ds with
  | [.lst xs] => match bools xs with
    | some bs => .ok (.bl (bs.any id)) S
    | none => .bad
  | _ => .bad
def fSum : FN := fun ds S => match ds with
  | [.lst xs] => match intsOf xs with
    | some bs => .ok (.int bs.sum) S
    | none => .bad
  | _ => .bad
/-- the built-in type of a value -/
def tyD : D → Option String
  | .non => some "NoneType"
  | .bl _ => some "bool"
  | .int _ => some "int"
  | .str _ => some "str"
  | .tup _ => some "tuple"
  | .lst _ => some "list"
  | .loc _ => some "list"
  | _ => none
/-- isinstance(x, T), T a built-in type, or an own class by its name: sub tells which class lies under which -/
def fIsi (sub : Str → Str → Option Bool) : FN := fun ds S => match ds with
  | [x, .ty T] => match (tyD x).bind fun t => L2.kitB t T with
    | some b => .ok (.bl b) S
    | none => .bad
  | [.exo c _, .cls c'] => match sub c c' with
    | some b => .ok (.bl b) S
    | none => .bad
  | _ => .bad
/-- the ints 0 .. n - 1 of range(n) -/
def rngL : Int → Nat → List D
  | _, 0 => []
  | lo, n + 1 => .int lo :: rngL (lo + 1) n
def fRange1 : AF → AF := fun a ρ S => (a ρ S).bind fun ds S => match ds with
  | [.int j] => if -(2 ^ 62) ≤ j ∧ j < 2 ^ 62 then .ok (rngL 0 j.toNat) S else .bad
  | _ => .bad
def fRange2 : AF → AF := fun a ρ S => (a ρ S).bind fun ds S => match ds with
  | [.int i, .int j] => if -(2 ^ 62) ≤ i ∧ i < 2 ^ 62 ∧ -(2 ^ 62) ≤ j ∧ j < 2 ^ 62 then .ok (rngL i (j - i).toNat) S else .bad
  | _ => .bad
/-- a tuple, a list that is never changed, walked -/
def wTup (e : EF) : AF := fun ρ S => (e ρ S).bind fun x S => match x with
  | .tup xs => .ok xs S
  | _ => .bad
def wLst (e : EF) : AF := fun ρ S => (e ρ S).bind fun x S => match x with
  | .lst xs => .ok xs S
  | _ => .bad
/-- repr(x) -/
def fRepr : FN := fun ds S => match ds with
  | [x] => match x.pd with
    | some p => if p.showable && p.canLay0 && decide (p.shown.length ≤ 16777216) && decide (p.depth ≤ 60) then .ok (.str p.shown) S else .bad
    | none => .bad
  | _ => .bad
/-- list(range(..)), tuple(range(..)) -/
def eListRg (it : AF) : EF := fun ρ S => (it ρ S).bind fun ds S => if ds.length ≤ 16777216 then .ok (.lst ds) S else .bad
def eTupRg (it : AF) : EF := fun ρ S => (it ρ S).bind fun ds S => if ds.length ≤ 16777216 then .ok (.tup ds) S else .bad
/-- tuple(x), list(x) of a list or tuple -/
def fTuple : FN := fun ds S => match ds with
  | [x] => match items S x with
    | some xs => .ok (.tup xs) S
    | none => .bad
  | _ => .bad
def fList : FN := fun ds S => match ds with
  | [x] => match items S x with
    | some xs => .ok (.lst xs) S
    | none => .bad
  | _ => .bad
/-- x[lo:hi] of a list: a list that is never changed; of a tuple -/
def cutD (xs : List D) (lo hi : Option Int) : List D := (xs.drop (HT.sIx xs.length 0 lo)).take (HT.sIx xs.length xs.length hi - HT.sIx xs.length 0 lo)
abbrev OF := Env → Sto → R (Option Int)
def oNone : OF := fun _ S => .ok none S
def oSome (e : EF) : OF := fun ρ S => (e ρ S).bind fun x S => match x with
  | .int i => .ok (some i) S
  | _ => .bad
def eCut (e : EF) (lo hi : OF) : EF := fun ρ S => (e ρ S).bind fun x S => (lo ρ S).bind fun lo S => (hi ρ S).bind fun hi S => match x with
  | .lst xs => .ok (.lst (cutD xs lo hi)) S
  | .loc n => match S[n]? with
    | some xs => .ok (.lst (cutD xs lo hi)) S
    | none => .bad
  | .tup xs => .ok (.tup (cutD xs lo hi)) S
  | _ => .bad
/-- x[::-1] of a list -/
def eRev (e : EF) : EF := eUn (fun x S => match x with
  | .lst xs => .ok (.lst xs.reverse) S
  | .loc n => match S[n]? with
    | some xs => .ok (.lst xs.reverse) S
    | none => .bad
  | _ => .bad) e
/-- x.append(v) -/
def eAppend (o v : EF) : EF := fun ρ S => (o ρ S).bind fun o S => match o with
  | .loc n => (v ρ S).bind fun v S => match S[n]? with
    | some xs => if xs.length < 16777216 then .ok .non (S.set n (xs ++ [v])) else .bad
    | none => .bad
  | _ => .bad
/-- e.value of a caught exception -/
def eValue (sub : Str → Str → Option Bool) (e : EF) : EF := eUn (fun x S => match x with
  | .exo c v => if sub c c = some true then .ok v S else .bad
  | _ => .bad) e
/-- f(lambda: body), f being: try: return (None, call()) except C as error: return (error, None) -/
def eHeard (sub : Str → Str → Option Bool) (e : EF) : EF := fun ρ S => match e ρ S with
  | .ok d S => .ok (.tup [.non, d]) S
  | .exc c v S => if sub c "ArmError" = some true then .ok (.tup [.exo c v, .non]) S else .bad
  | .bad => .bad
end DL


set_option linter.all false
set_option autoImplicit false
/-! DLs2: further words of the mirror. -/
namespace DL
open PySem
/-- x + y of ints or bools -/
def dAddB (x y : D) (S : Sto) : R D := match x, y with
  | .int i, .int j => .ok (.int (i + j)) S
  | .bl i, .bl j => .ok (.int (b2i i + b2i j)) S
  | .int i, .bl j => .ok (.int (i + b2i j)) S
  | .bl i, .int j => .ok (.int (b2i i + j)) S
  | _, _ => .bad
/-- a list comprehension whose list is changed later -/
def eCompN (vs : List Nat) (it : AF) (g : TgF) (t : TF) (e : EF) : EF := fun ρ S => (it ρ S).bind fun ds S => if ds.length ≤ 16777216 then (compL vs g t e ρ ds S).bind fun ys S => .ok (.loc S.length) (S ++ [ys]) else .bad
/-- x.bit_length() -/
def dBits (x : D) (S : Sto) : R D := match x with
  | .int i => .ok (.int (Builtin.Int.intBits i : Nat)) S
  | _ => .bad
/-- x << y -/
def dShl (x y : D) (S : Sto) : R D := match x, y with
  | .int i, .int j => if 0 ≤ j ∧ (Builtin.Int.intBits i : Int) + j ≤ 2 ^ 27 then .ok (.int (i * 2 ^ j.toNat)) S else .bad
  | _, _ => .bad
end DL


set_option linter.all false
set_option autoImplicit false
set_option Elab.async false
set_option maxRecDepth 100000
set_option maxHeartbeats 2000000
/-! DLw: what the hand layer's values stand for, and the rules of the mirror. -/
namespace DL
open PySem PySem.Spec L2
open PyProof.Rows hiding St

/-- an exception object of the class C, its own dict at dx, its fields set as fresh ones are -/
def ExV (C : Addr) (dx a : Addr) : HO := .ext fun h => ∃ (oe : Obj) (vs : Array Value), h.get? a = some oe ∧ Zc (.ref C) (some dx) oe ∧ oe.data = .fields vs

/-- the mutable lists' addresses; those that nothing stands for just now -/
structure Bt where
  l : List Addr
  h : List Addr
/-- a list that is never changed -/
def FzL (K : PySem.W.Frag) (β : Bt) (H : Hp) (a : Addr) (xs : List V) : Prop :=
  (H a = some (.lst xs) ∧ a ∉ β.l ∧ a ∉ β.h) ∨ (∃ o, H a = some (.frz o (.lst xs))) ∨
    ∃ (o : Obj) (its : Array Value) (n : Nat), K.lookup a = some o ∧ o.cls = .type "list" ∧ o.dict = none ∧ o.data = .seq its n ∧ its.size ≤ sizeLine ∧ Vals xs its.toList
theorem FzL.sq {K : PySem.W.Frag} {β : Bt} {H : Hp} {a : Addr} {xs : List V} (h : FzL K β H a xs) : SqL K H a xs := by
  rcases h with h | h | h
  · exact .inl (.inl h.1)
  · exact .inl (.inr h)
  · exact .inr h

/-- where one stands: the written part, the module's names -/
structure Wo where
  K : PySem.W.Frag
  mg : Str → Option Value
  T : List (Addr × Str)

mutual
/-- v is d -/
def Rep (w : Wo) (β : Bt) (H : Hp) : D → V → Prop
  | .non, v => v = .non
  | .bl b, v => v = .bl b
  | .int i, v => v = .int i
  | .str x, v => v = .str x
  | .tup ds, v => ∃ a xs, v = .ref a ∧ SqT w.K H a xs ∧ RepL w β H ds xs
  | .lst ds, v => ∃ a xs, v = .ref a ∧ FzL w.K β H a xs ∧ RepL w β H ds xs
  | .loc n, v => ∃ a, v = .ref a ∧ β.l[n]? = some a
  | .exo c d, v => ∃ a C dx x, v = .ref a ∧ w.mg c = some (.ref C) ∧ H a = some (ExV C dx a) ∧ H dx = some (.xd [(("value" : Str), x)]) ∧ Rep w β H d x
  | .ty n, v => v = .ty n
  | .cls c, v => ∃ C, v = .ref C ∧ w.mg c = some (.ref C)
  | .fn _, _ => False
def RepL (w : Wo) (β : Bt) (H : Hp) : List D → List V → Prop
  | [], xs => xs = []
  | d :: ds, xs => ∃ x xr, xs = x :: xr ∧ Rep w β H d x ∧ RepL w β H ds xr
end

/-- nothing stands there, but a table of code objects perhaps -/
def NT (H : Hp) (p : Addr) : Prop := ∀ o, H p = some o → ∃ ps, o = .tbl ps
theorem NT.of {H : Hp} {p : Addr} (h : H p = none) : NT H p := fun o e => by rw [h] at e; cases e
theorem NT.lst {H : Hp} {p : Addr} {xs : List V} (n : NT H p) (h : H p = some (.lst xs)) : False := by
  obtain ⟨ps, e⟩ := n _ h
  cases e
/-- what may happen: new objects, changes at the mutable lists, tables; new hidden lists -/
structure ExtW (β : Bt) (H : Hp) (β' : Bt) (H' : Hp) : Prop where
  pre : ∃ ν, β'.l = β.l ++ ν ∧ ∀ p ∈ ν, NT H p
  hid : ∀ a ∈ β'.h, a ∈ β.h ∨ NT H a
  keep : ∀ a o, H a = some o → (∀ xs, o ≠ .lst xs) → (∀ ps, o ≠ .tbl ps) → H' a = some o
  lsts : ∀ a xs, H a = some (.lst xs) → a ∉ β.l → H' a = some (.lst xs)
  dom : ∀ a, NT H' a → NT H a
/-- what a step may do: the hidden lists are the same -/
structure Ext (β : Bt) (H : Hp) (β' : Bt) (H' : Hp) : Prop extends ExtW β H β' H' where
  heq : β'.h = β.h
instance {β β' : Bt} {H H' : Hp} : Coe (Ext β H β' H') (ExtW β H β' H') := ⟨Ext.toExtW⟩
theorem ExtW.refl (β : Bt) (H : Hp) : ExtW β H β H := ⟨⟨[], by simp, fun _ h => nomatch h⟩, fun _ h => .inl h, fun _ _ h _ _ => h, fun _ _ h _ => h, fun _ h => h⟩
theorem Ext.refl (β : Bt) (H : Hp) : Ext β H β H := ⟨.refl β H, rfl⟩
theorem ExtW.trans {β β1 β2 : Bt} {H H1 H2 : Hp} (a : ExtW β H β1 H1) (b : ExtW β1 H1 β2 H2) : ExtW β H β2 H2 := by
  obtain ⟨ν1, e1, f1⟩ := a.pre
  obtain ⟨ν2, e2, f2⟩ := b.pre
  have back : ∀ p, NT H1 p → NT H p := a.dom
  refine ⟨⟨ν1 ++ ν2, by rw [e2, e1, List.append_assoc], fun p hp => ?_⟩, fun c hc => ?_, fun c o h n1 n2 => b.keep c o (a.keep c o h n1 n2) n1 n2, fun c xs h n => b.lsts c xs (a.lsts c xs h n) fun hc => ?_, fun c h => a.dom c (b.dom c h)⟩
  · rcases List.mem_append.mp hp with z | z
    · exact f1 p z
    · exact back p (f2 p z)
  · rcases b.hid c hc with z | z
    · exact a.hid c z
    · exact .inr (back c z)
  · rw [e1] at hc
    rcases List.mem_append.mp hc with z | z
    · exact n z
    · exact (f1 c z).lst h
theorem Ext.trans {β β1 β2 : Bt} {H H1 H2 : Hp} (a : Ext β H β1 H1) (b : Ext β1 H1 β2 H2) : Ext β H β2 H2 := ⟨a.toExtW.trans b.toExtW, b.heq.trans a.heq⟩
theorem Ext.same {β : Bt} {H H' : Hp} (h : Same H H') : Ext β H β H' := ⟨⟨⟨[], by simp, fun _ h => nomatch h⟩, fun _ h => .inl h, fun a o e _ _ => h a o e, fun a xs e _ => h a _ e, fun a n o e => n o (h a o e)⟩, rfl⟩
theorem same_upd {H : Hp} {p : Addr} {o : HO} (h : H p = none) : Same H (upd H p o) := fun b u e => by
  rw [upd_ne (ne_of_none e h)]; exact e
theorem Ext.new {β : Bt} {H : Hp} {p : Addr} {o : HO} (h : H p = none) : Ext β H β (upd H p o) := .same (same_upd h)

section
variable {w : Wo} {β β' : Bt} {H H' : Hp} {a : Addr} {xs : List V} {d : D} {v : V} {ds : List D} {vs : List V}
theorem ExtW.tup (e : ExtW β H β' H') (h : SqT w.K H a xs) : SqT w.K H' a xs := by
  rcases h with (h | ⟨o, h⟩) | h
  · exact .inl (.inl (e.keep _ _ h (fun _ z => nomatch z) fun _ z => nomatch z))
  · exact .inl (.inr ⟨o, e.keep _ _ h (fun _ z => nomatch z) fun _ z => nomatch z⟩)
  · exact .inr h
theorem ExtW.fz (e : ExtW β H β' H') (h : FzL w.K β H a xs) : FzL w.K β' H' a xs := by
  rcases h with ⟨h, n, n2⟩ | ⟨o, h⟩ | h
  · refine .inl ⟨e.lsts _ _ h n, fun hc => ?_, fun hc => ?_⟩
    · obtain ⟨ν, e1, f1⟩ := e.pre
      rw [e1] at hc
      rcases List.mem_append.mp hc with z | z
      · exact n z
      · exact (f1 a z).lst h
    · rcases e.hid a hc with z | z
      · exact n2 z
      · exact z.lst h
  · exact .inr (.inl ⟨o, e.keep _ _ h (fun _ z => nomatch z) fun _ z => nomatch z⟩)
  · exact .inr (.inr h)
theorem ExtW.get (e : ExtW β H β' H') {n : Nat} (h : β.l[n]? = some a) : β'.l[n]? = some a := by
  obtain ⟨ν, e1, _⟩ := e.pre
  rw [e1, List.getElem?_append_left (List.getElem?_eq_some_iff.mp h).1]
  exact h
mutual
theorem Rep.ext (e : ExtW β H β' H') : ∀ (d : D) (v : V), Rep w β H d v → Rep w β' H' d v
  | .non, _, h => h
  | .bl _, _, h => h
  | .int _, _, h => h
  | .str _, _, h => h
  | .tup ds, _, ⟨a, xs, r, h, l⟩ => ⟨a, xs, r, e.tup h, RepL.ext e ds xs l⟩
  | .lst ds, _, ⟨a, xs, r, h, l⟩ => ⟨a, xs, r, e.fz h, RepL.ext e ds xs l⟩
  | .loc n, _, ⟨a, r, h⟩ => ⟨a, r, e.get h⟩
  | .exo c d, _, ⟨a, C, dx, x, r, h1, h2, h3, h4⟩ => ⟨a, C, dx, x, r, h1, e.keep _ _ h2 (fun _ z => by unfold ExV at z; cases z) (fun _ z => by unfold ExV at z; cases z), e.keep _ _ h3 (fun _ z => nomatch z) (fun _ z => nomatch z), Rep.ext e d x h4⟩
  | .ty _, _, h => h
  | .cls _, _, h => h
  | .fn _, _, h => h
theorem RepL.ext (e : ExtW β H β' H') : ∀ (ds : List D) (vs : List V), RepL w β H ds vs → RepL w β' H' ds vs
  | [], _, h => h
  | d :: ds, _, ⟨x, xr, r, h, l⟩ => ⟨x, xr, r, Rep.ext e d x h, RepL.ext e ds xr l⟩
end
theorem RepL.length : ∀ {ds : List D} {vs : List V}, RepL w β H ds vs → ds.length = vs.length
  | [], _, h => by subst h; rfl
  | d :: ds, _, ⟨x, xr, r, h, l⟩ => by subst r; simp [RepL.length l]
theorem RepL.get : ∀ {ds : List D} {vs : List V} {i : Nat} {d : D}, RepL w β H ds vs → ds[i]? = some d → ∃ v, vs[i]? = some v ∧ Rep w β H d v
  | [], _, _, _, _, e => by simp at e
  | d :: ds, _, 0, _, ⟨x, xr, r, h, l⟩, e => by
    simp at e; subst e; subst r; exact ⟨x, rfl, h⟩
  | d :: ds, _, i + 1, _, ⟨x, xr, r, h, l⟩, e => by
    subst r
    obtain ⟨v, h1, h2⟩ := RepL.get (i := i) l (by simpa using e)
    exact ⟨v, by simpa using h1, h2⟩
theorem RepL.set (h : Rep w β H d v) : ∀ {ds : List D} {vs : List V} (i : Nat), RepL w β H ds vs → RepL w β H (ds.set i d) (vs.set i v)
  | [], _, _, h => by subst h; exact rfl
  | d' :: ds, _, 0, ⟨x, xr, r, h', l⟩ => by subst r; exact ⟨v, xr, rfl, h, l⟩
  | d' :: ds, _, i + 1, ⟨x, xr, r, h', l⟩ => by subst r; exact ⟨x, xr.set i v, rfl, h', RepL.set h i l⟩
theorem RepL.append : ∀ {ds es : List D} {vs us : List V}, RepL w β H ds vs → RepL w β H es us → RepL w β H (ds ++ es) (vs ++ us)
  | [], _, _, _, h, l => by subst h; exact l
  | d :: ds, _, _, _, ⟨x, xr, r, h', l⟩, k => by subst r; exact ⟨x, _, rfl, h', RepL.append l k⟩
theorem RepL.mem : ∀ {ds : List D} {vs : List V}, RepL w β H ds vs → ∀ (i : Nat) (d : D), ds[i]? = some d → ∃ v, vs[i]? = some v ∧ Rep w β H d v := fun l _ _ e => l.get e

/-- the mutable lists as they stand -/
structure SOk (w : Wo) (β : Bt) (H : Hp) (S : Sto) : Prop where
  tabs : LamX.Tabs w.T H
  nodup : β.l.Nodup
  hid : ∀ a ∈ β.h, (∃ xs, H a = some (.lst xs)) ∧ a ∉ β.l
  len : β.l.length = S.length
  at_ : ∀ (n : Nat) (a : Addr) (ds : List D), β.l[n]? = some a → S[n]? = some ds → ∃ xs, H a = some (.lst xs) ∧ RepL w β H ds xs
theorem SOk.get {S : Sto} (k : SOk w β H S) {n : Nat} {a : Addr} (h : β.l[n]? = some a) : ∃ ds xs, S[n]? = some ds ∧ H a = some (.lst xs) ∧ RepL w β H ds xs := by
  have hl : n < S.length := by rw [← k.len]; exact (List.getElem?_eq_some_iff.mp h).1
  obtain ⟨xs, h1, h2⟩ := k.at_ n a S[n] h (by simp [hl])
  exact ⟨S[n], xs, by simp [hl], h1, h2⟩
theorem SOk.new {S : Sto} {p : Addr} {o : HO} (k : SOk w β H S) (h : H p = none) : SOk w β (upd H p o) S :=
  ⟨k.tabs.ext (same_upd h), k.nodup, fun a ha => ⟨(k.hid a ha).1.imp fun xs e => same_upd h _ _ e, (k.hid a ha).2⟩, k.len, fun n a ds e1 e2 => by
    obtain ⟨xs, h1, h2⟩ := k.at_ n a ds e1 e2
    exact ⟨xs, same_upd h _ _ h1, RepL.ext (Ext.new h).toExtW ds xs h2⟩⟩

/-- the slots -/
def RepE (w : Wo) (β : Bt) (H : Hp) (ρ : Env) (σ : St) : Prop := σ.length = ρ.length ∧ ∀ (i : Nat) (d : D), ρ[i]? = some (some d) → ∃ v, σ[i]? = some (some v) ∧ Rep w β H d v
theorem RepE.ext {ρ : Env} {σ : St} (k : RepE w β H ρ σ) (e : ExtW β H β' H') : RepE w β' H' ρ σ := ⟨k.1, fun i d h => by
  obtain ⟨v, h1, h2⟩ := k.2 i d h
  exact ⟨v, h1, Rep.ext e d v h2⟩⟩
theorem RepE.set {ρ : Env} {σ : St} (k : RepE w β H ρ σ) (h : Rep w β H d v) (i : Nat) : RepE w β H (ρ.set i (some d)) (σ.set i (some v)) := by
  refine ⟨by simp [k.1], fun j d' e => ?_⟩
  by_cases hj : i = j
  · subst hj
    have hl : i < ρ.length := by
      have := (List.getElem?_eq_some_iff.mp e).1
      simpa using this
    rw [List.getElem?_set_self hl] at e
    cases e
    exact ⟨v, List.getElem?_set_self (by rw [k.1]; exact hl), h⟩
  · rw [List.getElem?_set_ne hj] at e
    rw [List.getElem?_set_ne hj]
    exact k.2 j d' e
theorem RepE.unset {ρ : Env} {σ : St} (k : RepE w β H ρ σ) (i : Nat) : RepE w β H (ρ.set i none) (σ.set i none) := by
  refine ⟨by simp [k.1], fun j d' e => ?_⟩
  by_cases hj : i = j
  · subst hj
    by_cases hl : i < ρ.length
    · rw [List.getElem?_set_self hl] at e; cases e
    · rw [List.getElem?_eq_none (by simpa using hl)] at e; cases e
  · rw [List.getElem?_set_ne hj] at e
    rw [List.getElem?_set_ne hj]
    exact k.2 j d' e
theorem RepE.wipe {ρ : Env} {σ : St} (k : RepE w β H ρ σ) : ∀ vs : List Nat, RepE w β H (wipeE ρ vs) (wipe σ vs)
  | [] => k
  | v :: vs => (RepE.wipe k vs).unset v
end

/-! ### readings -/
/-- what is wanted of an exception: its class by name, its value -/
abbrev WD := WX
/-- behind a step: Q of the value, W of an exception -/
def post (w : Wo) (W : WX) (σ : St) (β : Bt) (H : Hp) (r : R D) (Q : VK) : Prop := match r with
  | .ok d S => ∀ v β' H', Ext β H β' H' → SOk w β' H' S → Rep w β' H' d v → Q v H'
  | .exc c d S => ∀ C dx v β' H', Ext β H β' H' → SOk w β' H' S → w.mg c = some (.ref C) → H' dx = some (.xd [(("value" : Str), v)]) → Rep w β' H' d v → W (.ref C) (some dx) σ H'
  | .bad => False
def postT (w : Wo) (W : WX) (σ : St) (β : Bt) (H : Hp) (r : R Bool) (Q : Bool → Hp → Prop) : Prop := match r with
  | .ok d S => ∀ β' H', Ext β H β' H' → SOk w β' H' S → Q d H'
  | .exc c d S => ∀ C dx v β' H', Ext β H β' H' → SOk w β' H' S → w.mg c = some (.ref C) → H' dx = some (.xd [(("value" : Str), v)]) → Rep w β' H' d v → W (.ref C) (some dx) σ H'
  | .bad => False
def postA (w : Wo) (W : WX) (σ : St) (β : Bt) (H : Hp) (r : R (List D)) (Q : List V → Hp → Prop) : Prop := match r with
  | .ok d S => ∀ v β' H', Ext β H β' H' → SOk w β' H' S → RepL w β' H' d v → Q v H'
  | .exc c d S => ∀ C dx v β' H', Ext β H β' H' → SOk w β' H' S → w.mg c = some (.ref C) → H' dx = some (.xd [(("value" : Str), v)]) → Rep w β' H' d v → W (.ref C) (some dx) σ H'
  | .bad => False
section
variable {w : Wo} {W : WX} {σ : St} {β β' : Bt} {H H' : Hp}
theorem post.ext {r : R D} {Q : VK} (p : post w W σ β H r Q) (e : Ext β H β' H') : post w W σ β' H' r Q := by
  cases r with
  | ok d S => exact fun v β2 H2 e2 => p v β2 H2 (e.trans e2)
  | exc c d S => exact fun C dx v β2 H2 e2 => p C dx v β2 H2 (e.trans e2)
  | bad => exact p
theorem postT.ext {r : R Bool} {Q : Bool → Hp → Prop} (p : postT w W σ β H r Q) (e : Ext β H β' H') : postT w W σ β' H' r Q := by
  cases r with
  | ok d S => exact fun β2 H2 e2 => p β2 H2 (e.trans e2)
  | exc c d S => exact fun C dx v β2 H2 e2 => p C dx v β2 H2 (e.trans e2)
  | bad => exact p
theorem postA.ext {r : R (List D)} {Q : List V → Hp → Prop} (p : postA w W σ β H r Q) (e : Ext β H β' H') : postA w W σ β' H' r Q := by
  cases r with
  | ok d S => exact fun v β2 H2 e2 => p v β2 H2 (e.trans e2)
  | exc c d S => exact fun C dx v β2 H2 e2 => p C dx v β2 H2 (e.trans e2)
  | bad => exact p
end
/-- the reading of an expression by its mirror -/
def tE (w : Wo) (W : WX) (f : EF) : TE := fun σ H Q => ∃ β ρ S, SOk w β H S ∧ RepE w β H ρ σ ∧ post w W σ β H (f ρ S) Q
def tT (w : Wo) (W : WX) (f : TF) : TT := fun σ H Q => ∃ β ρ S, SOk w β H S ∧ RepE w β H ρ σ ∧ postT w W σ β H (f ρ S) Q
def tA (w : Wo) (W : WX) (f : AF) : TA := fun σ H Q => ∃ β ρ S, SOk w β H S ∧ RepE w β H ρ σ ∧ postA w W σ β H (f ρ S) Q

section
variable {w : Wo} {W : WX} {σ : St} {β : Bt} {H : Hp} {ρ : Env} {S : Sto}
/-- the first step of two -/
theorem tE_bind {f : EF} {g : D → Sto → R D} {Q : VK} {Z : VK} (hs : SOk w β H S) (he : RepE w β H ρ σ) (h : post w W σ β H ((f ρ S).bind g) Q)
    (k : ∀ d S1 v β1 H1, Ext β H β1 H1 → SOk w β1 H1 S1 → RepE w β1 H1 ρ σ → Rep w β1 H1 d v → post w W σ β1 H1 (g d S1) Q → Z v H1) : tE w W f σ H Z := by
  refine ⟨β, ρ, S, hs, he, ?_⟩
  cases e : f ρ S with
  | ok d S1 =>
    rw [e] at h
    exact fun v β1 H1 x k1 r => k d S1 v β1 H1 x k1 (he.ext x) r (post.ext h x)
  | exc c d S1 => rw [e] at h; exact h
  | bad => rw [e] at h; exact h
theorem tE_bindT {f : EF} {g : D → Sto → R Bool} {Q : Bool → Hp → Prop} {Z : VK} (hs : SOk w β H S) (he : RepE w β H ρ σ) (h : postT w W σ β H ((f ρ S).bind g) Q)
    (k : ∀ d S1 v β1 H1, Ext β H β1 H1 → SOk w β1 H1 S1 → RepE w β1 H1 ρ σ → Rep w β1 H1 d v → postT w W σ β1 H1 (g d S1) Q → Z v H1) : tE w W f σ H Z := by
  refine ⟨β, ρ, S, hs, he, ?_⟩
  cases e : f ρ S with
  | ok d S1 =>
    rw [e] at h
    exact fun v β1 H1 x k1 r => k d S1 v β1 H1 x k1 (he.ext x) r (postT.ext h x)
  | exc c d S1 => rw [e] at h; exact h
  | bad => rw [e] at h; exact h
theorem tE_bindA {f : EF} {g : D → Sto → R (List D)} {Q : List V → Hp → Prop} {Z : VK} (hs : SOk w β H S) (he : RepE w β H ρ σ) (h : postA w W σ β H ((f ρ S).bind g) Q)
    (k : ∀ d S1 v β1 H1, Ext β H β1 H1 → SOk w β1 H1 S1 → RepE w β1 H1 ρ σ → Rep w β1 H1 d v → postA w W σ β1 H1 (g d S1) Q → Z v H1) : tE w W f σ H Z := by
  refine ⟨β, ρ, S, hs, he, ?_⟩
  cases e : f ρ S with
  | ok d S1 =>
    rw [e] at h
    exact fun v β1 H1 x k1 r => k d S1 v β1 H1 x k1 (he.ext x) r (postA.ext h x)
  | exc c d S1 => rw [e] at h; exact h
  | bad => rw [e] at h; exact h
theorem tT_bind {f : TF} {g : Bool → Sto → R D} {Q : VK} {Z : Bool → Hp → Prop} (hs : SOk w β H S) (he : RepE w β H ρ σ) (h : post w W σ β H ((f ρ S).bind g) Q)
    (k : ∀ d S1 β1 H1, Ext β H β1 H1 → SOk w β1 H1 S1 → RepE w β1 H1 ρ σ → post w W σ β1 H1 (g d S1) Q → Z d H1) : tT w W f σ H Z := by
  refine ⟨β, ρ, S, hs, he, ?_⟩
  cases e : f ρ S with
  | ok d S1 =>
    rw [e] at h
    exact fun β1 H1 x k1 => k d S1 β1 H1 x k1 (he.ext x) (post.ext h x)
  | exc c d S1 => rw [e] at h; exact h
  | bad => rw [e] at h; exact h
theorem tT_bindT {f : TF} {g : Bool → Sto → R Bool} {Q : Bool → Hp → Prop} {Z : Bool → Hp → Prop} (hs : SOk w β H S) (he : RepE w β H ρ σ) (h : postT w W σ β H ((f ρ S).bind g) Q)
    (k : ∀ d S1 β1 H1, Ext β H β1 H1 → SOk w β1 H1 S1 → RepE w β1 H1 ρ σ → postT w W σ β1 H1 (g d S1) Q → Z d H1) : tT w W f σ H Z := by
  refine ⟨β, ρ, S, hs, he, ?_⟩
  cases e : f ρ S with
  | ok d S1 =>
    rw [e] at h
    exact fun β1 H1 x k1 => k d S1 β1 H1 x k1 (he.ext x) (postT.ext h x)
  | exc c d S1 => rw [e] at h; exact h
  | bad => rw [e] at h; exact h
theorem tA_bind {f : AF} {g : List D → Sto → R D} {Q : VK} {Z : List V → Hp → Prop} (hs : SOk w β H S) (he : RepE w β H ρ σ) (h : post w W σ β H ((f ρ S).bind g) Q)
    (k : ∀ d S1 v β1 H1, Ext β H β1 H1 → SOk w β1 H1 S1 → RepE w β1 H1 ρ σ → RepL w β1 H1 d v → post w W σ β1 H1 (g d S1) Q → Z v H1) : tA w W f σ H Z := by
  refine ⟨β, ρ, S, hs, he, ?_⟩
  cases e : f ρ S with
  | ok d S1 =>
    rw [e] at h
    exact fun v β1 H1 x k1 r => k d S1 v β1 H1 x k1 (he.ext x) r (post.ext h x)
  | exc c d S1 => rw [e] at h; exact h
  | bad => rw [e] at h; exact h
theorem tA_bindA {f : AF} {g : List D → Sto → R (List D)} {Q : List V → Hp → Prop} {Z : List V → Hp → Prop} (hs : SOk w β H S) (he : RepE w β H ρ σ) (h : postA w W σ β H ((f ρ S).bind g) Q)
    (k : ∀ d S1 v β1 H1, Ext β H β1 H1 → SOk w β1 H1 S1 → RepE w β1 H1 ρ σ → RepL w β1 H1 d v → postA w W σ β1 H1 (g d S1) Q → Z v H1) : tA w W f σ H Z := by
  refine ⟨β, ρ, S, hs, he, ?_⟩
  cases e : f ρ S with
  | ok d S1 =>
    rw [e] at h
    exact fun v β1 H1 x k1 r => k d S1 v β1 H1 x k1 (he.ext x) r (postA.ext h x)
  | exc c d S1 => rw [e] at h; exact h
  | bad => rw [e] at h; exact h
/-- a value that is a scalar, or stands already -/
theorem post.val {d : D} {v : V} {Q : VK} (h : post w W σ β H (.ok d S) Q) (hs : SOk w β H S) (r : Rep w β H d v) : Q v H := h v β H (.refl _ _) hs r
theorem postT.val {c : Bool} {Q : Bool → Hp → Prop} (h : postT w W σ β H (.ok c S) Q) (hs : SOk w β H S) : Q c H := h β H (.refl _ _) hs
end

/-! ### judgements -/
def wo (X : Cx) (T : List (Addr × Str)) : Wo := ⟨X.K, X.mg, T⟩
/-- e is what its mirror says, whatever is wanted of exceptions -/
structure PX (T : List (Addr × Str)) (X : Cx) (e : Expr) (f : EF) : Prop where
  run : ∀ W, Takes X W → PE X e (tE (wo X T) W f)
structure PXT (T : List (Addr × Str)) (X : Cx) (e : Expr) (f : TF) : Prop where
  run : ∀ W, Takes X W → PT X e (tT (wo X T) W f)
structure PXW (T : List (Addr × Str)) (X : Cx) (e : Expr) (f : TF) : Prop where
  run : ∀ W, Takes X W → PW X e (tT (wo X T) W f)
structure PXA (T : List (Addr × Str)) (X : Cx) (es : List Expr) (f : AF) : Prop where
  run : ∀ W, Takes X W → PA X es (tA (wo X T) W f)
section
variable {X : Cx}
theorem PE.weak {e : Expr} {t t' : TE} (h : PE X e t) (k : ∀ σ H Q, t' σ H Q → t σ H Q) : PE X e t' := ⟨fun pins s σ H Q I q => h.run pins s σ H Q I (k σ H Q q)⟩
theorem PT.weak {e : Expr} {t t' : TT} (h : PT X e t) (k : ∀ σ H Q, t' σ H Q → t σ H Q) : PT X e t' := ⟨fun pins s σ H Q I q => h.run pins s σ H Q I (k σ H Q q)⟩
theorem PW.weak {e : Expr} {t t' : TT} (h : PW X e t) (k : ∀ σ H Q, t' σ H Q → t σ H Q) : PW X e t' := ⟨fun wh pins s σ H Q I q => h.run wh pins s σ H Q I (k σ H Q q)⟩
theorem PA.weak {e : List Expr} {t t' : TA} (h : PA X e t) (k : ∀ σ H Q, t' σ H Q → t σ H Q) : PA X e t' := ⟨fun p pins s σ H Q I q => h.run p pins s σ H Q I (k σ H Q q)⟩
theorem PS.weak {e : Stmt} {t t' : TS} (h : PS X e t) (k : ∀ D σ H, t' D σ H → t D σ H) : PS X e t' := ⟨fun pins s σ H D I q => h.run pins s σ H D I (k D σ H q)⟩
theorem PSs.weak {e : List Stmt} {t t' : TS} (h : PSs X e t) (k : ∀ D σ H, t' D σ H → t D σ H) : PSs X e t' := ⟨fun pins s σ H D I q => h.run pins s σ H D I (k D σ H q)⟩
end

section
variable {T : List (Addr × Str)} {X : Cx} {a b c : Expr} {fa fb fc : EF} {pos : Pos} {W : WX}

/-! ### names, constants -/
theorem px_of_pe {te : TE} (h : PE X a te) (k : ∀ W σ H Q, tE (wo X T) W fa σ H Q → te σ H Q) : PX T X a fa := ⟨fun W _ => PE.weak h (k W)⟩
theorem px_var (i : Nat) {x : Str} (hN : X.N[i]? = some x := by rfl) (hv : Vis X.env.scope x := by first | exact Or.inl rfl | exact Or.inr (Or.inl rfl) | exact Or.inr (Or.inr rfl)) (hd : (x == ("__debug__" : Str)) = false := by decide)
    (hcd : (x == ("__classdict__" : Str)) = false := by decide) : PX T X (.Name x pos) (eVar i) := px_of_pe (pe_var hN hv hd hcd) fun W σ H Q ⟨β, ρ, S, hs, he, h⟩ => by
  unfold eVar at h
  cases q : ρ[i]? with
  | none => rw [q] at h; exact h.elim
  | some o =>
    rw [q] at h
    cases o with
    | none => exact h.elim
    | some d =>
      obtain ⟨v, h1, h2⟩ := he.2 i d q
      exact ⟨v, h1, post.val h hs h2⟩
theorem px_const {v : V} {d : D} (h : PE X a (tC v)) (r : ∀ β H, Rep (wo X T) β H d v) : PX T X a (eC d) := px_of_pe h fun W σ H Q ⟨β, ρ, S, hs, he, h⟩ => post.val h hs (r β H)
theorem px_int {i : Int} {j : Nat} : PX T X (.Constant (.int i) j pos) (eC (.int i)) := px_const pe_int fun _ _ => rfl
theorem px_bl {i : Bool} {j : Nat} : PX T X (.Constant (.bool i) j pos) (eC (.bl i)) := px_const pe_bl fun _ _ => rfl
theorem px_non {j : Nat} : PX T X (.Constant .none j pos) (eC .non) := px_const pe_non fun _ _ => rfl
theorem px_str {x : Str} {j : Nat} : PX T X (.Constant (.str x) j pos) (eC (.str x)) := px_const pe_str fun _ _ => rfl

/-! ### two values, one value -/
/-- what an operation's reading asks is what the mirror's operation gives -/
def BinOk (T : List (Addr × Str)) (X : Cx) (r : R2) (g : D → D → Sto → R D) : Prop := ∀ (W : WX) (σ : St) (β : Bt) (H : Hp) (S : Sto) (x y : D) (v u : V) (Q : VK),
  SOk (wo X T) β H S → Rep (wo X T) β H x v → Rep (wo X T) β H y u → post (wo X T) W σ β H (g x y S) Q → r v u H Q
def UnOk (T : List (Addr × Str)) (X : Cx) (r : V → Hp → VK → Prop) (g : D → Sto → R D) : Prop := ∀ (W : WX) (σ : St) (β : Bt) (H : Hp) (S : Sto) (x : D) (v : V) (Q : VK),
  SOk (wo X T) β H S → Rep (wo X T) β H x v → post (wo X T) W σ β H (g x S) Q → r v H Q
def CallOk (T : List (Addr × Str)) (X : Cx) (r : List V → Hp → VK → Prop) (g : FN) : Prop := ∀ (W : WX) (σ : St) (β : Bt) (H : Hp) (S : Sto) (xs : List D) (vs : List V) (Q : VK),
  SOk (wo X T) β H S → RepL (wo X T) β H xs vs → post (wo X T) W σ β H (g xs S) Q → r vs H Q
theorem two {ta tb : TE} {r : R2} {g : D → D → Sto → R D} (hr : BinOk T X r g) (W : WX) {σ : St} {H : Hp} {Q : VK} (h : tE (wo X T) W (eBin g fa fb) σ H Q) : tOp r (tE (wo X T) W fa) (tE (wo X T) W fb) σ H Q := by
  obtain ⟨β, ρ, S, hs, he, h⟩ := h
  refine tE_bind hs he h fun d S1 v β1 H1 x1 k1 e1 r1 q1 => ?_
  refine tE_bind k1 e1 q1 fun d2 S2 v2 β2 H2 x2 k2 e2 r2 q2 => ?_
  exact hr W σ β2 H2 S2 d d2 v v2 Q k2 (Rep.ext x2 d v r1) r2 q2
theorem px_op {op : Operator} {r : R2} {g : D → D → Sto → R D} (ho : OpR X (binaryOp op) r) (hr : BinOk T X r g) (ha : PX T X a fa) (hb : PX T X b fb) : PX T X (.BinOp a op b pos) (eBin g fa fb) :=
  ⟨fun W t => PE.weak (pe_op ho (ha.run W t) (hb.run W t)) fun _ _ _ h => two (ta := tE (wo X T) W fa) (tb := tE (wo X T) W fb) hr W h⟩
theorem px_un {op : UnaryOp} {r : V → Hp → VK → Prop} {g : D → Sto → R D} (ho : UnR X (unaryOp op) r) (hr : UnOk T X r g) (ha : PX T X a fa) : PX T X (.UnaryOp op a pos) (eUn g fa) :=
  ⟨fun W t => PE.weak (pe_un ho (ha.run W t)) fun σ H Q ⟨β, ρ, S, hs, he, h⟩ => tE_bind hs he h fun d S1 v β1 H1 x1 k1 e1 r1 q1 => hr W σ β1 H1 S1 d v Q k1 r1 q1⟩
theorem px_cmp {op : CmpOp} {r : R2} {g : D → D → Sto → R D} (ho : OpR X (compareOp op) r) (hr : BinOk T X r g) (ha : PX T X a fa) (hb : PX T X b fb) (hm : behindInMarks op b = false) : PX T X (.Compare a [op] [b] pos) (eBin g fa fb) :=
  ⟨fun W t => PE.weak (pe_cmpR ho (ha.run W t) (hb.run W t) hm) fun _ _ _ h => two (ta := tE (wo X T) W fa) (tb := tE (wo X T) W fb) hr W h⟩
/-- a test of a value that is a bool -/
theorem test_of {t : TE} {f : EF} {σ : St} {H : Hp} {Q : Bool → Hp → Prop} (k : ∀ Q', tE (wo X T) W f σ H Q' → t σ H Q') (h : tT (wo X T) W (tOf f) σ H Q) : tTest t σ H Q := by
  obtain ⟨β, ρ, S, hs, he, h⟩ := h
  refine k _ (tE_bindT hs he h fun d S1 v β1 H1 x1 k1 e1 r1 q1 => ?_)
  cases d with
  | bl c => exact ⟨c, r1, postT.val q1 k1⟩
  | _ => exact q1.elim
theorem pxt_cmp {op : CmpOp} {r : R2} {g : D → D → Sto → R D} (ho : OpR X (compareOp op) r) (hr : BinOk T X r g) (ha : PX T X a fa) (hb : PX T X b fb) (hm : behindInMarks op b = false) : PXT T X (.Compare a [op] [b] pos) (tOf (eBin g fa fb)) :=
  ⟨fun W t => PT.weak (pt_cmpR ho (ha.run W t) (hb.run W t) hm) fun _ _ _ h => test_of (fun _ h' => two (ta := tE (wo X T) W fa) (tb := tE (wo X T) W fb) hr W h') h⟩
theorem pxt_val (ha : PX T X a fa) (he : ∀ whole, isTrue a X.env whole = (do let v ← whole; standAt a.pos; holding [v] (truthy v)) := by intro _; rfl) : PXT T X a (tOf fa) :=
  ⟨fun W t => PT.weak (pt_val (ha.run W t) he) fun σ H Q h => test_of (t := tE (wo X T) W fa) (fun _ z => z) h⟩
theorem chain {r r' : R2} {g g' : D → D → Sto → R D} (hr : BinOk T X r g) (hr' : BinOk T X r' g') {σ : St} {H : Hp} {Q : VK} (h : tE (wo X T) W (eChain g g' fa fb fc) σ H Q) : tChain r r' (tE (wo X T) W fa) (tE (wo X T) W fb) (tE (wo X T) W fc) σ H Q := by
  obtain ⟨β, ρ, S, hs, he, h⟩ := h
  refine tE_bind hs he h fun d S1 v β1 H1 x1 k1 e1 r1 q1 => ?_
  refine tE_bind k1 e1 q1 fun d2 S2 v2 β2 H2 x2 k2 e2 r2 q2 => ?_
  refine hr W σ β2 H2 S2 d d2 v v2 _ k2 (Rep.ext x2 d v r1) r2 ?_
  cases q : g d d2 S2 with
  | ok k S3 =>
    rw [q] at q2
    intro z β3 H3 x3 k3 r3
    replace q2 := post.ext (r := (R.ok k S3).bind _) q2 x3
    cases k with
    | bl c =>
      refine ⟨c, r3, ?_⟩
      cases c with
      | true =>
        simp only [if_true]
        refine tE_bind k3 (e2.ext x3) q2 fun d4 S4 v4 β4 H4 x4 k4 e4 r4 q4 => ?_
        exact hr' W σ β4 H4 S4 d2 d4 v2 v4 Q k4 (Rep.ext (x3.trans x4) d2 v2 r2) r4 q4
      | false =>
        simp only [Bool.false_eq_true, if_false]
        exact post.val q2 k3 rfl
    | _ => exact q2.elim
  | exc c' v' S3 => rw [q] at q2; exact q2
  | bad => rw [q] at q2; exact q2
end
end DL


set_option linter.all false
set_option autoImplicit false
set_option Elab.async false
set_option maxRecDepth 100000
set_option maxHeartbeats 2000000
/-! DLw2: operations, tests, arguments, displays, subscripts. -/
namespace DL
open PySem PySem.Spec L2
open PyProof.Rows hiding St b2i

section
variable {T : List (Addr × Str)} {X : Cx} {a b c : Expr} {fa fb fc : EF} {pos : Pos} {W : WX} {rest : List Expr}

theorem le_line {n : Nat} (h : n ≤ 16777216) : n ≤ sizeLine := by rw [sizeLine_eq]; exact h
/-! ### ints -/
theorem ok_iBin (f : Int → Int → Int) : BinOk T X (rI0 fun i j => .int (f i j)) (iBin f) := fun W σ β H S x y v u Q hs rx ry h => by
  cases x with
  | int i =>
    cases y with
    | int j => exact ⟨i, j, rx, ry, post.val h hs rfl⟩
    | _ => exact h.elim
  | _ => cases y <;> exact h.elim
theorem ok_iCmp (f : Int → Int → Bool) : BinOk T X (rI0 fun i j => .bl (f i j)) (iCmp f) := fun W σ β H S x y v u Q hs rx ry h => by
  cases x with
  | int i =>
    cases y with
    | int j => exact ⟨i, j, rx, ry, post.val h hs rfl⟩
    | _ => exact h.elim
  | _ => cases y <;> exact h.elim
theorem px_add (ha : PX T X a fa) (hb : PX T X b fb) : PX T X (.BinOp a .Add b pos) (eBin dAdd fa fb) := px_op op_add (ok_iBin _) ha hb
theorem px_sub (ha : PX T X a fa) (hb : PX T X b fb) : PX T X (.BinOp a .Sub b pos) (eBin dSub fa fb) := px_op op_sub (ok_iBin _) ha hb
theorem ok_mul : BinOk T X (rI CMulW fun i j => .int (i * j)) dMul := fun W σ β H S x y v u Q hs rx ry h => by
  cases x with
  | int i =>
    cases y with
    | int j =>
      unfold dMul at h
      simp only at h
      split at h
      · rename_i k
        exact ⟨i, j, rx, ry, of_decide_eq_true (p := i.natAbs.log2 + j.natAbs.log2 < 1000000) k, post.val h hs rfl⟩
      · exact h.elim
    | _ => exact h.elim
  | _ => cases y <;> exact h.elim
theorem px_mul (ha : PX T X a fa) (hb : PX T X b fb) : PX T X (.BinOp a .Mult b pos) (eBin dMul fa fb) := px_op op_mulW ok_mul ha hb
def CDivA (_ j : Int) : Prop := j ≠ 0 ∧ j.natAbs.log2 < 9000
theorem op_fdivA : OpR X (binaryOp .FloorDiv) (rI CDivA fun i j => .int (i.fdiv j)) := opI fun i j _ _ _ _ _ hc q => floordiv_int hc.1 q (.inl (PyProof.noPylong_of_log2 hc.2))
theorem ok_div : BinOk T X (rI CDivA fun i j => .int (i.fdiv j)) dDiv := fun W σ β H S x y v u Q hs rx ry h => by
  cases x with
  | int i =>
    cases y with
    | int j =>
      unfold dDiv at h
      simp only at h
      split at h
      · rename_i k
        exact ⟨i, j, rx, ry, of_decide_eq_true (p := j ≠ 0 ∧ j.natAbs.log2 < 9000) k, post.val h hs rfl⟩
      · exact h.elim
    | _ => exact h.elim
  | _ => cases y <;> exact h.elim
theorem px_div (ha : PX T X a fa) (hb : PX T X b fb) : PX T X (.BinOp a .FloorDiv b pos) (eBin dDiv fa fb) := px_op op_fdivA ok_div ha hb
theorem ok_mod : BinOk T X (rI (fun _ j => j ≠ 0) fun i j => .int (i.fmod j)) dMod := fun W σ β H S x y v u Q hs rx ry h => by
  cases x with
  | int i =>
    cases y with
    | int j =>
      unfold dMod at h
      simp only at h
      split at h
      · rename_i k
        exact ⟨i, j, rx, ry, k, post.val h hs rfl⟩
      · exact h.elim
    | _ => exact h.elim
  | _ => cases y <;> exact h.elim
theorem px_mod (ha : PX T X a fa) (hb : PX T X b fb) : PX T X (.BinOp a .Mod b pos) (eBin dMod fa fb) := px_op op_modN ok_mod ha hb
def CPowA (i j : Int) : Prop := 0 ≤ j ∧ (Builtin.Int.intBits i : Int) * j ≤ 2 ^ 27
theorem op_powA : OpR X (binaryOp .Pow) (rI CPowA fun i j => .int (i ^ j.toNat)) := opI fun i j _ _ _ _ _ hc q => pow_int hc.1 hc.2 q
theorem ok_pow : BinOk T X (rI CPowA fun i j => .int (i ^ j.toNat)) dPow := fun W σ β H S x y v u Q hs rx ry h => by
  cases x with
  | int i =>
    cases y with
    | int j =>
      unfold dPow at h
      simp only at h
      split at h
      · rename_i k
        exact ⟨i, j, rx, ry, k, post.val h hs rfl⟩
      · exact h.elim
    | _ => exact h.elim
  | _ => cases y <;> exact h.elim
theorem px_pow (ha : PX T X a fa) (hb : PX T X b fb) : PX T X (.BinOp a .Pow b pos) (eBin dPow fa fb) := px_op op_powA ok_pow ha hb
/-- x - y of ints or of bools -/
def rSubB : R2 := fun x y H Q => (∃ i j, x = .int i ∧ y = .int j ∧ Q (.int (i - j)) H) ∨ ∃ i j, x = .bl i ∧ y = .bl j ∧ Q (.int (b2i i - b2i j)) H
theorem op_subB : OpR X (binaryOp .Sub) rSubB := by
  intro pins s σ H x y v u Q I rx ry h
  rcases h with h | h
  · exact op_sub pins s σ H x y v u Q I rx ry h
  · obtain ⟨i, j, rfl, rfl, q⟩ := h
    cases (show v = Value.bool i from rx)
    cases (show u = Value.bool j from ry)
    exact sub_bool ⟨.int _, H, I.tok _, ⟨_, rfl⟩, q⟩
theorem px_subB (ha : PX T X a fa) (hb : PX T X b fb) : PX T X (.BinOp a .Sub b pos) (eBin dSubB fa fb) := px_op op_subB (fun W σ β H S x y v u Q hs rx ry h => by
  cases x with
  | int i =>
    cases y with
    | int j => exact .inl ⟨i, j, rx, ry, post.val h hs rfl⟩
    | _ => exact h.elim
  | bl i =>
    cases y with
    | bl j => exact .inr ⟨i, j, rx, ry, post.val h hs rfl⟩
    | _ => exact h.elim
  | _ => cases y <;> exact h.elim) ha hb
theorem px_neg (ha : PX T X a fa) : PX T X (.UnaryOp .USub a pos) (eUn dNeg fa) := px_un un_neg (fun W σ β H S x v Q hs rx h => by
  cases x with
  | int i => exact ⟨i, rx, post.val h hs rfl⟩
  | _ => exact h.elim) ha

/-! ### data compared -/
mutual
theorem dp_of {w : Wo} {β : Bt} {H : Hp} : ∀ (d : D) (v : V) (p : PyData), Rep w β H d v → d.pd = some p → Dp w.K H v p
  | .non, _, _, r, e => by simp only [D.pd, Option.some.injEq] at e; subst e; subst r; exact .non
  | .bl b, _, _, r, e => by simp only [D.pd, Option.some.injEq] at e; subst e; subst r; exact .bl b
  | .int b, _, _, r, e => by simp only [D.pd, Option.some.injEq] at e; subst e; subst r; exact .int b
  | .str b, _, _, r, e => by simp only [D.pd, Option.some.injEq] at e; subst e; subst r; exact .str b
  | .tup ds, _, _, ⟨a, xs, r, h, l⟩, e => by
    simp only [D.pd, Option.map_eq_some_iff] at e
    obtain ⟨ps, e1, rfl⟩ := e
    subst r
    exact .tup h (dpL_of ds xs ps l e1)
  | .lst ds, _, _, ⟨a, xs, r, h, l⟩, e => by
    simp only [D.pd, Option.map_eq_some_iff] at e
    obtain ⟨ps, e1, rfl⟩ := e
    subst r
    exact .lst h.sq (dpL_of ds xs ps l e1)
  | .loc _, _, _, _, e => by simp [D.pd] at e
  | .exo _ _, _, _, _, e => by simp [D.pd] at e
  | .ty _, _, _, _, e => by simp [D.pd] at e
  | .cls _, _, _, _, e => by simp [D.pd] at e
  | .fn _, _, _, _, e => by simp [D.pd] at e
theorem dpL_of {w : Wo} {β : Bt} {H : Hp} : ∀ (ds : List D) (vs : List V) (ps : List PyData), RepL w β H ds vs → D.pdL ds = some ps → DpAll w.K H vs ps
  | [], _, _, r, e => by simp only [D.pdL, Option.some.injEq] at e; subst e; subst r; exact .nil
  | d :: ds, _, _, ⟨x, xr, r, h, l⟩, e => by
    simp only [D.pdL, Option.bind_eq_some_iff, Option.map_eq_some_iff] at e
    obtain ⟨p, e1, ps, e2, rfl⟩ := e
    subst r
    exact .cons (dp_of d x p h e1) (dpL_of ds xr ps l e2)
end
theorem ok_eq : BinOk T X (rEqD X.K) dEq := fun W σ β H S x y v u Q hs rx ry h => by
  unfold dEq eqD at h
  cases ex : x.pd with
  | none => rw [ex] at h; exact h.elim
  | some p =>
    cases ey : y.pd with
    | none => rw [ex, ey] at h; exact h.elim
    | some q =>
      rw [ex, ey] at h
      simp only [Option.bind_some] at h
      split at h
      · rename_i c e
        split at e
        · rename_i k
          cases e
          rw [Bool.and_eq_true] at k
          exact ⟨p, q, dp_of x v p rx ex, dp_of y u q ry ey, k.1, k.2, post.val h hs rfl⟩
        · cases e
      · exact h.elim
theorem ok_ne : BinOk T X (rNeD X.K) dNe := fun W σ β H S x y v u Q hs rx ry h => by
  unfold dNe eqD at h
  cases ex : x.pd with
  | none => rw [ex] at h; exact h.elim
  | some p =>
    cases ey : y.pd with
    | none => rw [ex, ey] at h; exact h.elim
    | some q =>
      rw [ex, ey] at h
      simp only [Option.bind_some] at h
      split at h
      · rename_i c e
        split at e
        · rename_i k
          cases e
          rw [Bool.and_eq_true] at k
          exact ⟨p, q, dp_of x v p rx ex, dp_of y u q ry ey, k.1, k.2, post.val h hs rfl⟩
        · cases e
      · exact h.elim
def rInQ (K : PySem.W.Frag) (neg : Bool) : R2 := fun x y H Q => ∃ d ds, Dp K H x d ∧ (Dp K H y (.list ds) ∧ SeqAt.shaped (.list ds) = true ∨ Dp K H y (.tuple ds) ∧ SeqAt.shaped (.tuple ds) = true) ∧ SeqAt.shaped d = true ∧ Q (.bl (neg != (ds.any fun z => PyData.eqv z d))) H
theorem room_in {A : Around} {ds : List PyData} {d : PyData} (h : SeqAt.shaped d = true) (hu : A.units + 65 < cLine) : A.units + 1 + min (PyData.depthAll ds) d.depth < cLine := by
  have h1 := SeqAt.depth_of_shaped h
  have h2 : min (PyData.depthAll ds) d.depth ≤ d.depth := Nat.min_le_right _ _
  omega
theorem op_inQ (hu : X.A.units + 65 < cLine) : OpR X (compareOp .In) (rInQ X.K false) := by
  intro pins s σ H x y v u Q I rx ry h
  obtain ⟨d, ds, hd, he, sd, q⟩ := h
  obtain ⟨as, r1⟩ := Dp.reads I d x v hd rx
  rcases he with ⟨he, se⟩ | ⟨he, se⟩
  · obtain ⟨bs, r2⟩ := Dp.reads I (.list ds) y u he ry
    exact SeqAt.in_list_reads r2 r1 (SeqAt.canLay_of_shaped se) (SeqAt.canLay_of_shaped sd) (room_in sd hu) ⟨.bl _, H, I, rfl, by simpa using q⟩
  · obtain ⟨bs, r2⟩ := Dp.reads I (.tuple ds) y u he ry
    exact SeqAt.in_tuple_reads r2 r1 (SeqAt.canLay_of_shaped se) (SeqAt.canLay_of_shaped sd) (room_in sd hu) ⟨.bl _, H, I, rfl, by simpa using q⟩
theorem op_notInQ (hu : X.A.units + 65 < cLine) : OpR X (compareOp .NotIn) (rInQ X.K true) := by
  intro pins s σ H x y v u Q I rx ry h
  obtain ⟨d, ds, hd, he, sd, q⟩ := h
  obtain ⟨as, r1⟩ := Dp.reads I d x v hd rx
  rcases he with ⟨he, se⟩ | ⟨he, se⟩
  · obtain ⟨bs, r2⟩ := Dp.reads I (.list ds) y u he ry
    exact SeqAt.notIn_list_reads r2 r1 (SeqAt.canLay_of_shaped se) (SeqAt.canLay_of_shaped sd) (room_in sd hu) ⟨.bl _, H, I, rfl, by simpa using q⟩
  · obtain ⟨bs, r2⟩ := Dp.reads I (.tuple ds) y u he ry
    exact SeqAt.notIn_tuple_reads r2 r1 (SeqAt.canLay_of_shaped se) (SeqAt.canLay_of_shaped sd) (room_in sd hu) ⟨.bl _, H, I, rfl, by simpa using q⟩
theorem in_facts {β : Bt} {H : Hp} {x y : D} {v u : V} {c : Bool} (rx : Rep (wo X T) β H x v) (ry : Rep (wo X T) β H y u) (h : inD x y = some c) :
    ∃ d ds, Dp X.K H v d ∧ (Dp X.K H u (.list ds) ∧ SeqAt.shaped (.list ds) = true ∨ Dp X.K H u (.tuple ds) ∧ SeqAt.shaped (.tuple ds) = true) ∧ SeqAt.shaped d = true ∧ c = ds.any fun z => PyData.eqv z d := by
  unfold inD at h
  simp only [Option.bind_eq_some_iff] at h
  obtain ⟨p, ex, q, ey, h⟩ := h
  have hx := dp_of x v p rx ex
  have hy := dp_of y u q ry ey
  cases q with
  | tuple bs =>
    simp only at h
    split at h
    · rename_i k
      rw [Bool.and_eq_true] at k
      cases h
      exact ⟨p, bs, hx, .inr ⟨hy, k.2⟩, k.1, rfl⟩
    · cases h
  | list bs =>
    simp only at h
    split at h
    · rename_i k
      rw [Bool.and_eq_true] at k
      cases h
      exact ⟨p, bs, hx, .inl ⟨hy, k.2⟩, k.1, rfl⟩
    · cases h
  | _ => cases h
theorem ok_in : BinOk T X (rInQ X.K false) dIn := fun W σ β H S x y v u Q hs rx ry h => by
  unfold dIn at h
  cases e : inD x y with
  | none => rw [e] at h; exact h.elim
  | some c =>
    rw [e] at h
    obtain ⟨d, ds, h1, h2, h3, rfl⟩ := in_facts rx ry e
    exact ⟨d, ds, h1, h2, h3, post.val h hs (by simp [Rep])⟩
theorem ok_notIn : BinOk T X (rInQ X.K true) dNotIn := fun W σ β H S x y v u Q hs rx ry h => by
  unfold dNotIn at h
  cases e : inD x y with
  | none => rw [e] at h; exact h.elim
  | some c =>
    rw [e] at h
    obtain ⟨d, ds, h1, h2, h3, rfl⟩ := in_facts rx ry e
    exact ⟨d, ds, h1, h2, h3, post.val h hs (by simp [Rep])⟩
theorem rep_non {w : Wo} {β : Bt} {H : Hp} {d : D} {v : V} (r : Rep w β H d v) : decide (v = .non) = d.isNon := by
  cases d with
  | non => subst r; rfl
  | bl b => subst r; rfl
  | int b => subst r; rfl
  | str b => subst r; rfl
  | tup b => obtain ⟨a, xs, r, _⟩ := r; subst r; rfl
  | lst b => obtain ⟨a, xs, r, _⟩ := r; subst r; rfl
  | loc b => obtain ⟨a, r, _⟩ := r; subst r; rfl
  | exo b c => obtain ⟨a, _, _, _, r, _⟩ := r; subst r; rfl
  | ty b => subst r; rfl
  | cls b => obtain ⟨C, r, _⟩ := r; subst r; rfl
  | fn b => exact r.elim
theorem ok_isN : BinOk T X (fun x y H Q => y = .non ∧ Q (.bl (decide (x = .non))) H) dIsN := fun W σ β H S x y v u Q hs rx ry h => by
  unfold dIsN at h
  split at h
  · rename_i k
    cases y with
    | non => exact ⟨ry, post.val h hs (by rw [rep_non rx]; rfl)⟩
    | _ => cases k
  · exact h.elim
theorem ok_notN : BinOk T X (fun x y H Q => y = .non ∧ Q (.bl (!decide (x = .non))) H) dNotN := fun W σ β H S x y v u Q hs rx ry h => by
  unfold dNotN at h
  split at h
  · rename_i k
    cases y with
    | non => exact ⟨ry, post.val h hs (by rw [rep_non rx]; rfl)⟩
    | _ => cases k
  · exact h.elim
theorem ok_isB : BinOk T X rIsB dIsB := fun W σ β H S x y v u Q hs rx ry h => by
  cases x with
  | bl i =>
    cases y with
    | bl j => exact ⟨i, j, rx, ry, post.val h hs (by rw [Bool.beq_eq_decide_eq]; rfl)⟩
    | _ => exact h.elim
  | _ => cases y <;> exact h.elim
theorem ok_notB : BinOk T X rNotB dNotB := fun W σ β H S x y v u Q hs rx ry h => by
  cases x with
  | bl i =>
    cases y with
    | bl j => exact ⟨i, j, rx, ry, post.val h hs (by rw [Bool.beq_eq_decide_eq]; rfl)⟩
    | _ => exact h.elim
  | _ => cases y <;> exact h.elim

/-! ### and, or, not, if, chains -/
theorem px_one {op} {f : EF} (h : PX T X a f) : PX T X (.BoolOp op [a] pos) f := ⟨fun W t => pe_one (h.run W t)⟩
theorem px_and (ha : PX T X a fa) (hb : PX T X (.BoolOp .And (b :: rest) pos) fb) : PX T X (.BoolOp .And (a :: b :: rest) pos) (eAnd fa fb) :=
  ⟨fun W t => PE.weak (pe_and (ha.run W t) (hb.run W t)) fun σ H Q ⟨β, ρ, S, hs, he, h⟩ => tE_bind hs he h fun d S1 v β1 H1 x1 k1 e1 r1 q1 => by
    cases d with
    | bl c =>
      refine ⟨c, r1, ?_⟩
      cases c with
      | true => simp only [if_true]; exact ⟨β1, ρ, S1, k1, e1, q1⟩
      | false => simp only [Bool.false_eq_true, if_false]; exact post.val q1 k1 rfl
    | _ => exact q1.elim⟩
theorem px_or (ha : PX T X a fa) (hb : PX T X (.BoolOp .Or (b :: rest) pos) fb) : PX T X (.BoolOp .Or (a :: b :: rest) pos) (eOr fa fb) :=
  ⟨fun W t => PE.weak (pe_or (ha.run W t) (hb.run W t)) fun σ H Q ⟨β, ρ, S, hs, he, h⟩ => tE_bind hs he h fun d S1 v β1 H1 x1 k1 e1 r1 q1 => by
    cases d with
    | bl c =>
      refine ⟨c, r1, ?_⟩
      cases c with
      | true => simp only [if_true]; exact post.val q1 k1 rfl
      | false => simp only [Bool.false_eq_true, if_false]; exact ⟨β1, ρ, S1, k1, e1, q1⟩
    | _ => exact q1.elim⟩
theorem px_not (ha : PX T X a fa) : PX T X (.UnaryOp .Not a pos) (eNot fa) :=
  ⟨fun W t => PE.weak (pe_not (ha.run W t)) fun σ H Q ⟨β, ρ, S, hs, he, h⟩ => tE_bind hs he h fun d S1 v β1 H1 x1 k1 e1 r1 q1 => by
    cases d with
    | bl c => exact ⟨c, r1, post.val q1 k1 rfl⟩
    | _ => exact q1.elim⟩
theorem px_ifExp {t : TF} (hc : PXT T X c t) (ha : PX T X a fa) (hb : PX T X b fb) : PX T X (.IfExp c a b pos) (eIf t fa fb) :=
  ⟨fun W tk => PE.weak (pe_ifExp (hc.run W tk) (ha.run W tk) (hb.run W tk)) fun σ H Q ⟨β, ρ, S, hs, he, h⟩ => tT_bind hs he h fun d S1 β1 H1 x1 k1 e1 q1 => by
    cases d with
    | true => simp only [if_true]; exact ⟨β1, ρ, S1, k1, e1, q1⟩
    | false => simp only [Bool.false_eq_true, if_false]; exact ⟨β1, ρ, S1, k1, e1, q1⟩⟩
theorem px_chain {op op' : CmpOp} {r r' : R2} {g g' : D → D → Sto → R D} (ho : OpR X (compareOp op) r) (ho' : OpR X (compareOp op') r') (hr : BinOk T X r g) (hr' : BinOk T X r' g') (ha : PX T X a fa) (hb : PX T X b fb) (hc : PX T X c fc)
    (hm : lastMarks [op, op'] [b, c] = false := by with_unfolding_all rfl) : PX T X (.Compare a [op, op'] [b, c] pos) (eChain g g' fa fb fc) :=
  ⟨fun W t => PE.weak (pe_chain ho ho' (ha.run W t) (hb.run W t) (hc.run W t) hm) fun _ _ _ h => chain hr hr' h⟩
theorem pxt_chain {op op' : CmpOp} {r r' : R2} {g g' : D → D → Sto → R D} (ho : OpR X (compareOp op) r) (ho' : OpR X (compareOp op') r') (hr : BinOk T X r g) (hr' : BinOk T X r' g') (ha : PX T X a fa) (hb : PX T X b fb) (hc : PX T X c fc)
    (hm : lastMarks [op, op'] [b, c] = false := by with_unfolding_all rfl) : PXT T X (.Compare a [op, op'] [b, c] pos) (tOf (eChain g g' fa fb fc)) :=
  ⟨fun W t => PT.weak (pt_chain ho ho' (ha.run W t) (hb.run W t) (hc.run W t) hm) fun _ _ _ h => test_of (fun _ h' => chain hr hr' h') h⟩
/-! tests -/
variable {ta tb : TF}
theorem PXW.t (h : PXW T X a ta) : PXT T X a ta := ⟨fun W t => (h.run W t).pt⟩
theorem pxw_and1 (h : PXT T X a ta) : PXW T X (.BoolOp .And [a] pos) ta := ⟨fun W t => pw_and1 (h.run W t)⟩
theorem pxw_or1 (h : PXT T X a ta) : PXW T X (.BoolOp .Or [a] pos) ta := ⟨fun W t => pw_or1 (h.run W t)⟩
theorem pxw_and (ha : PXT T X a ta) (hb : PXW T X (.BoolOp .And (b :: rest) pos) tb) : PXW T X (.BoolOp .And (a :: b :: rest) pos) (DL.tAnd ta tb) :=
  ⟨fun W t => PW.weak (pw_and (ha.run W t) (hb.run W t)) fun σ H Q ⟨β, ρ, S, hs, he, h⟩ => tT_bindT hs he h fun d S1 β1 H1 x1 k1 e1 q1 => by
    cases d with
    | true => simp only [if_true]; exact ⟨β1, ρ, S1, k1, e1, q1⟩
    | false => simp only [Bool.false_eq_true, if_false]; exact postT.val q1 k1⟩
theorem pxw_or (ha : PXT T X a ta) (hb : PXW T X (.BoolOp .Or (b :: rest) pos) tb) : PXW T X (.BoolOp .Or (a :: b :: rest) pos) (DL.tOr ta tb) :=
  ⟨fun W t => PW.weak (pw_or (ha.run W t) (hb.run W t)) fun σ H Q ⟨β, ρ, S, hs, he, h⟩ => tT_bindT hs he h fun d S1 β1 H1 x1 k1 e1 q1 => by
    cases d with
    | true => simp only [if_true]; exact postT.val q1 k1
    | false => simp only [Bool.false_eq_true, if_false]; exact ⟨β1, ρ, S1, k1, e1, q1⟩⟩
theorem pxt_not (ha : PXT T X a ta) : PXT T X (.UnaryOp .Not a pos) (DL.tNot ta) :=
  ⟨fun W t => PT.weak (pt_not (ha.run W t)) fun σ H Q ⟨β, ρ, S, hs, he, h⟩ => tT_bindT hs he h fun d S1 β1 H1 x1 k1 e1 q1 => postT.val q1 k1⟩
theorem RepL.isEmpty {w : Wo} {β : Bt} {H : Hp} {ds : List D} {vs : List V} (l : RepL w β H ds vs) : (!vs.isEmpty) = !ds.isEmpty := by
  cases ds with
  | nil => subst l; rfl
  | cons d ds => obtain ⟨x, xr, r, _⟩ := l; subst r; rfl
theorem truV_of {β : Bt} {H : Hp} {S : Sto} {d : D} {v : V} {k : Bool} (hs : SOk (wo X T) β H S) (r : Rep (wo X T) β H d v) (h : truD S d = some k) : TruV X.K v H k := by
  cases d with
  | non => subst r; cases h; rfl
  | bl b => subst r; cases h; rfl
  | int b => subst r; cases h; rfl
  | str b =>
    subst r
    have h' : (if b.length ≤ 16777216 then some (b.length != 0) else none) = some k := h
    by_cases hz : b.length ≤ 16777216
    · rw [if_pos hz] at h'
      cases h'
      refine ⟨le_line hz, ?_⟩
      rw [Bool.eq_iff_iff]
      simp
    · rw [if_neg hz] at h'
      cases h'
  | tup b => obtain ⟨a, xs, rfl, h1, l⟩ := r; cases h; exact .inr (.inl ⟨xs, h1, l.isEmpty.symm⟩)
  | lst b => obtain ⟨a, xs, rfl, h1, l⟩ := r; cases h; exact .inl ⟨xs, h1.sq, l.isEmpty.symm⟩
  | loc n =>
    obtain ⟨a, rfl, h1⟩ := r
    obtain ⟨ds, xs, h2, h3, l⟩ := hs.get h1
    simp only [truD, h2, Option.map_some, Option.some.injEq] at h
    subst h
    exact .inl ⟨xs, .of h3, l.isEmpty.symm⟩
  | _ => cases h
theorem pxt_truth (ha : PX T X a fa) (he : ∀ whole, isTrue a X.env whole = (do let v ← whole; standAt a.pos; holding [v] (truthy v)) := by intro _; rfl) : PXT T X a (tTru fa) :=
  ⟨fun W t => PT.weak (pt_truth (ha.run W t) he) fun σ H Q ⟨β, ρ, S, hs, he, h⟩ => tE_bindT hs he h fun d S1 v β1 H1 x1 k1 e1 r1 q1 => by
    cases e : truD S1 d with
    | none => rw [e] at q1; exact q1.elim
    | some k => rw [e] at q1; exact ⟨k, truV_of k1 r1 e, postT.val q1 k1⟩⟩

/-! ### arguments, displays -/
variable {es : List Expr} {ga : AF} {e : Expr}
theorem pxa_nil : PXA T X [] aNil := ⟨fun W t => PA.weak pa_nil fun σ H Q ⟨β, ρ, S, hs, he, h⟩ => h [] β H (.refl _ _) hs rfl⟩
theorem pxa_cons (ha : PX T X e fa) (hr : PXA T X es ga) (hs : starEach (e :: es) X.env = (false, eval e X.env) :: starEach es X.env := by rfl) : PXA T X (e :: es) (aCons fa ga) :=
  ⟨fun W t => PA.weak (pa_cons (ha.run W t) (hr.run W t) hs) fun σ H Q ⟨β, ρ, S, hs, he, h⟩ => tE_bindA hs he h fun d S1 v β1 H1 x1 k1 e1 r1 q1 =>
    tA_bindA k1 e1 q1 fun ds S2 vs β2 H2 x2 k2 e2 r2 q2 => q2 (v :: vs) β2 H2 (.refl _ _) k2 ⟨v, vs, rfl, Rep.ext x2 d v r1, r2⟩⟩
theorem px_tup {k : Nat} (h : PXA T X es ga) : PX T X (.Tuple es k pos) (eTup ga) :=
  ⟨fun W t => PE.weak (pe_tup (h.run W t)) fun σ H Q ⟨β, ρ, S, hs, he, h⟩ => tA_bind hs he h fun ds S1 vs β1 H1 x1 k1 e1 r1 q1 => by
    split at q1
    · rename_i hz
      exact ⟨le_line (by rw [← r1.length]; exact hz), fun p hp => q1 (.ref p) β1 _ (.new hp) (k1.new hp) ⟨p, vs, rfl, .of upd_same, RepL.ext (Ext.new hp).toExtW ds vs r1⟩⟩
    · exact q1.elim⟩
theorem notin_of {w : Wo} {β : Bt} {H : Hp} {S : Sto} {p : Addr} (k : SOk w β H S) (h : H p = none) : p ∉ β.l ∧ p ∉ β.h := by
  refine ⟨fun hm => ?_, fun hm => by
    obtain ⟨xs, e⟩ := (k.hid p hm).1
    rw [h] at e
    cases e⟩
  obtain ⟨n, hn⟩ := List.getElem?_of_mem hm
  obtain ⟨_, _, _, e, _⟩ := k.get hn
  rw [h] at e
  cases e
theorem px_lst (h : PXA T X es ga) : PX T X (.List es pos) (eLst ga) :=
  ⟨fun W t => PE.weak (pe_lst (h.run W t)) fun σ H Q ⟨β, ρ, S, hs, he, h⟩ => tA_bind hs he h fun ds S1 vs β1 H1 x1 k1 e1 r1 q1 => by
    split at q1
    · rename_i hz
      exact ⟨le_line (by rw [← r1.length]; exact hz), fun p hp => q1 (.ref p) β1 _ (.new hp) (k1.new hp) ⟨p, vs, rfl, .inl ⟨upd_same, notin_of k1 hp⟩, RepL.ext (Ext.new hp).toExtW ds vs r1⟩⟩
    · exact q1.elim⟩
/-- a new mutable list -/
theorem Ext.newLoc {β : Bt} {H : Hp} {p : Addr} {o : HO} (h : H p = none) : Ext β H ⟨β.l ++ [p], β.h⟩ (upd H p o) :=
  ⟨⟨⟨[p], rfl, fun q hq => by rw [List.mem_singleton.mp hq]; exact .of h⟩, fun _ h => .inl h, (Ext.new (β := β) h).keep, (Ext.new h).lsts, (Ext.new (β := β) h).dom⟩, rfl⟩
theorem SOk.newLoc {w : Wo} {β : Bt} {H : Hp} {S : Sto} {p : Addr} {ds : List D} {vs : List V} (k : SOk w β H S) (h : H p = none) (r : RepL w β H ds vs) : SOk w ⟨β.l ++ [p], β.h⟩ (upd H p (.lst vs)) (S ++ [ds]) := by
  have x : Ext β H ⟨β.l ++ [p], β.h⟩ (upd H p (.lst vs)) := Ext.newLoc h
  refine ⟨k.tabs.ext (same_upd h), ?_, fun a ha => ⟨(k.hid a ha).1.imp fun xs e => same_upd h _ _ e, fun z => ?_⟩, by simp [k.len], fun n a es e1 e2 => ?_⟩
  · rw [List.nodup_append]
    exact ⟨k.nodup, by simp, fun a ha b hb => by rw [List.mem_singleton.mp hb]; exact fun z => (notin_of k h).1 (z ▸ ha)⟩
  · rcases List.mem_append.mp z with z | z
    · exact (k.hid a ha).2 z
    · rw [List.mem_singleton.mp z] at ha
      exact (notin_of k h).2 ha
  · by_cases hn : n < β.l.length
    · have e1 : (β.l ++ [p])[n]? = some a := e1
      rw [List.getElem?_append_left hn] at e1
      rw [List.getElem?_append_left (by rw [← k.len]; exact hn)] at e2
      obtain ⟨xs, h1, h2⟩ := k.at_ n a es e1 e2
      exact ⟨xs, same_upd h _ _ h1, RepL.ext x es xs h2⟩
    · have e1 : (β.l ++ [p])[n]? = some a := e1
      rw [List.getElem?_append_right (by omega)] at e1
      rw [List.getElem?_append_right (by rw [← k.len]; omega)] at e2
      have hn0 : n - β.l.length = 0 := by
        have := (List.getElem?_eq_some_iff.mp e1).1
        simp at this; omega
      rw [hn0] at e1
      rw [← k.len, hn0] at e2
      simp at e1 e2
      subst e1; subst e2
      exact ⟨vs, upd_same, RepL.ext x ds vs r⟩
theorem px_new (h : PXA T X es ga) : PX T X (.List es pos) (eNew ga) :=
  ⟨fun W t => PE.weak (pe_lst (h.run W t)) fun σ H Q ⟨β, ρ, S, hs, he, h⟩ => tA_bind hs he h fun ds S1 vs β1 H1 x1 k1 e1 r1 q1 => by
    split at q1
    · rename_i hz
      exact ⟨le_line (by rw [← r1.length]; exact hz), fun p hp => q1 (.ref p) ⟨β1.l ++ [p], β1.h⟩ _ (.newLoc hp) (k1.newLoc hp r1) ⟨p, rfl, by show (β1.l ++ [p])[S1.length]? = some p; rw [← k1.len]; simp⟩⟩
    · exact q1.elim⟩

/-! ### subscripts -/
theorem atI_rep {w : Wo} {β : Bt} {H : Hp} {ds : List D} {vs : List V} {i : Int} {d : D} (l : RepL w β H ds vs) (h : atI ds i = some d) : ∃ v, atI vs i = some v ∧ Rep w β H d v := by
  unfold atI at h ⊢
  rw [l.length] at h
  cases e : ixN vs.length i with
  | none => rw [e] at h; cases h
  | some j =>
    rw [e] at h
    exact l.get h
theorem px_ix (ha : PX T X a fa) (hb : PX T X b fb) (hs : PlainIx b := by exact fun _ _ => rfl) : PX T X (.Subscript a b pos) (eBin dIx fa fb) :=
  ⟨fun W t => PE.weak (pe_ix (IxR.or ix_tup ix_list) (ha.run W t) (hb.run W t) hs) fun σ H Q h => two (X := X) (ta := tE (wo X T) W fa) (tb := tE (wo X T) W fb) (g := dIx) (fun W σ β H S x y v u Q hs rx ry h => by
    cases y with
    | int i =>
      subst ry
      cases x with
      | tup ds =>
        obtain ⟨p, xs, rfl, h1, l⟩ := rx
        simp only [dIx] at h
        cases e : atI ds i with
        | none => rw [e] at h; exact h.elim
        | some d =>
          rw [e] at h
          obtain ⟨z, h2, h3⟩ := atI_rep l e
          exact .inl ⟨p, xs, i, z, rfl, rfl, h1, h2, post.val h hs h3⟩
      | lst ds =>
        obtain ⟨p, xs, rfl, h1, l⟩ := rx
        simp only [dIx] at h
        cases e : atI ds i with
        | none => rw [e] at h; exact h.elim
        | some d =>
          rw [e] at h
          obtain ⟨z, h2, h3⟩ := atI_rep l e
          exact .inr ⟨p, xs, i, z, rfl, rfl, h1.sq, h2, post.val h hs h3⟩
      | loc n =>
        obtain ⟨p, rfl, h1⟩ := rx
        obtain ⟨ds, xs, e1, h2, l⟩ := hs.get h1
        simp only [dIx, e1] at h
        cases e : atI ds i with
        | none => rw [e] at h; exact h.elim
        | some d =>
          rw [e] at h
          obtain ⟨z, h3, h4⟩ := atI_rep l e
          exact .inr ⟨p, xs, i, z, rfl, rfl, .of h2, h3, post.val h hs h4⟩
      | _ => exact h.elim
    | _ => exact h.elim) W h⟩

/-! ### built-ins -/
theorem px_blt {id : String} {x : Str} {r : List V → Hp → VK → Prop} {g : FN} {p : Pos} (hc : CallR X (.builtin id) r) (hk : CallOk T X r g) (hg : Gl X x) (hm : X.mg x = none) (hv : bootBuiltins x = some (.builtin id)) (ha : PXA T X (e :: es) ga)
    (hn : x ≠ "__name__" := by decide) (hdb : (x == ("__debug__" : Str)) = false := by decide) (he : starEach (e :: es) X.env = (false, eval e X.env) :: starEach es X.env := by rfl) (hpl : (backTo pos (starEach es X.env)).any (·.1) = false := by rfl) :
    PX T X (.Call (.Name x p) (e :: es) [] pos) (eCall g ga) :=
  ⟨fun W t => PE.weak (pe_callB hc hg hm hv (ha.run W t) hn hdb he hpl) fun σ H Q ⟨β, ρ, S, hs, he, h⟩ => tA_bind hs he h fun ds S1 vs β1 H1 x1 k1 e1 r1 q1 => hk W σ β1 H1 S1 ds vs Q k1 r1 q1⟩
theorem px_bty {id : String} {x : Str} {r : List V → Hp → VK → Prop} {g : FN} {p : Pos} (hc : CallR X (.type id) r) (hk : CallOk T X r g) (hg : Gl X x) (hm : X.mg x = none) (hv : bootBuiltins x = some (.type id)) (ha : PXA T X (e :: es) ga)
    (hn : x ≠ "__name__" := by decide) (hdb : (x == ("__debug__" : Str)) = false := by decide) (he : starEach (e :: es) X.env = (false, eval e X.env) :: starEach es X.env := by rfl) (hpl : (backTo pos (starEach es X.env)).any (·.1) = false := by rfl) :
    PX T X (.Call (.Name x p) (e :: es) [] pos) (eCall g ga) :=
  ⟨fun W t => PE.weak (pe_callTy hc hg hm hv (ha.run W t) hn hdb he hpl) fun σ H Q ⟨β, ρ, S, hs, he, h⟩ => tA_bind hs he h fun ds S1 vs β1 H1 x1 k1 e1 r1 q1 => hk W σ β1 H1 S1 ds vs Q k1 r1 q1⟩
theorem RepL.one {w : Wo} {β : Bt} {H : Hp} {d : D} {vs : List V} (l : RepL w β H [d] vs) : ∃ v, vs = [v] ∧ Rep w β H d v := by
  obtain ⟨x, xr, rfl, r, e⟩ := l
  have e' : xr = [] := e
  subst e'
  exact ⟨x, rfl, r⟩
theorem RepL.two {w : Wo} {β : Bt} {H : Hp} {d e : D} {vs : List V} (l : RepL w β H [d, e] vs) : ∃ v u, vs = [v, u] ∧ Rep w β H d v ∧ Rep w β H e u := by
  obtain ⟨x, xr, rfl, r, l⟩ := l
  obtain ⟨u, rfl, r2⟩ := RepL.one l
  exact ⟨x, u, rfl, r, r2⟩
theorem ok_abs : CallOk T X (fun xs H Q => ∃ i, xs = [.int i] ∧ Q (.int (if i < 0 then -i else i)) H) fAbs := fun W σ β H S xs vs Q hs l h => by
  unfold fAbs at h
  split at h
  · obtain ⟨v, rfl, r⟩ := RepL.one l
    exact ⟨_, by rw [show v = _ from r], post.val h hs rfl⟩
  · exact h.elim
theorem ok_int : CallOk T X (fun xs H Q => (∃ i, xs = [.int i] ∧ Q (.int i) H) ∨ ∃ k, xs = [.bl k] ∧ Q (.int (if k then 1 else 0)) H) fInt := fun W σ β H S xs vs Q hs l h => by
  unfold fInt at h
  split at h
  · obtain ⟨v, rfl, r⟩ := RepL.one l
    exact .inl ⟨_, by rw [show v = _ from r], post.val h hs rfl⟩
  · obtain ⟨v, rfl, r⟩ := RepL.one l
    exact .inr ⟨_, by rw [show v = _ from r], post.val h hs rfl⟩
  · exact h.elim
theorem ok_max : CallOk T X (fun xs H Q => ∃ i j, xs = [.int i, .int j] ∧ Q (.int (if j > i then j else i)) H) fMax := fun W σ β H S xs vs Q hs l h => by
  unfold fMax at h
  split at h
  · obtain ⟨v, u, rfl, r, r2⟩ := RepL.two l
    exact ⟨_, _, by rw [show v = _ from r, show u = _ from r2], post.val h hs rfl⟩
  · exact h.elim
theorem ok_min : CallOk T X (fun xs H Q => ∃ i j, xs = [.int i, .int j] ∧ Q (.int (if j < i then j else i)) H) fMin := fun W σ β H S xs vs Q hs l h => by
  unfold fMin at h
  split at h
  · obtain ⟨v, u, rfl, r, r2⟩ := RepL.two l
    exact ⟨_, _, by rw [show v = _ from r, show u = _ from r2], post.val h hs rfl⟩
  · exact h.elim
theorem lenV_of {β : Bt} {H : Hp} {S : Sto} {d : D} {v : V} {n : Nat} (hs : SOk (wo X T) β H S) (r : Rep (wo X T) β H d v) (h : lenD S d = some n) : LenV X.K v H n := by
  cases d with
  | str b =>
    subst r
    have h' : (if b.length ≤ 16777216 then some b.length else none) = some n := h
    by_cases hz : b.length ≤ 16777216
    · rw [if_pos hz] at h'
      cases h'
      exact ⟨le_line hz, rfl⟩
    · rw [if_neg hz] at h'
      cases h'
  | tup b => obtain ⟨a, xs, rfl, h1, l⟩ := r; cases h; exact .inr ⟨xs, h1, l.length⟩
  | lst b => obtain ⟨a, xs, rfl, h1, l⟩ := r; cases h; exact .inl ⟨xs, h1.sq, l.length⟩
  | loc n =>
    obtain ⟨a, rfl, h1⟩ := r
    obtain ⟨ds, xs, h2, h3, l⟩ := hs.get h1
    simp only [lenD, h2, Option.map_some, Option.some.injEq] at h
    subst h
    exact .inl ⟨xs, .of h3, l.length⟩
  | _ => cases h
theorem ok_len : CallOk T X (fun xs H Q => ∃ x n, xs = [x] ∧ LenV X.K x H n ∧ Q (.int n) H) fLen := fun W σ β H S xs vs Q hs l h => by
  unfold fLen at h
  split at h
  · split at h
    · rename_i d n e
      obtain ⟨v, rfl, r⟩ := RepL.one l
      exact ⟨v, n, rfl, lenV_of hs r e, post.val h hs rfl⟩
    · exact h.elim
  · exact h.elim
theorem repL_bools {w : Wo} {β : Bt} {H : Hp} : ∀ (ds : List D) (vs : List V) (bs : List Bool), RepL w β H ds vs → bools ds = some bs → vs = bs.map V.bl
  | [], vs, bs, l, e => by
    have e' : [] = bs := Option.some.inj e
    subst e'
    exact l
  | d :: ds, vs, bs, l, e => by
    obtain ⟨x, xr, rfl, h, l⟩ := l
    cases d with
    | bl b =>
      simp only [bools, Option.map_eq_some_iff] at e
      obtain ⟨cs, e1, rfl⟩ := e
      rw [show x = _ from h, repL_bools ds xr cs l e1]
      rfl
    | _ => cases e
theorem repL_ints {w : Wo} {β : Bt} {H : Hp} : ∀ (ds : List D) (vs : List V) (bs : List Int), RepL w β H ds vs → intsOf ds = some bs → vs = bs.map V.int
  | [], vs, bs, l, e => by
    have e' : [] = bs := Option.some.inj e
    subst e'
    exact l
  | d :: ds, vs, bs, l, e => by
    obtain ⟨x, xr, rfl, h, l⟩ := l
    cases d with
    | int b =>
      simp only [intsOf, Option.map_eq_some_iff] at e
      obtain ⟨cs, e1, rfl⟩ := e
      rw [show x = _ from h, repL_ints ds xr cs l e1]
      rfl
    | _ => cases e
theorem ok_all : CallOk T X (rAll X.K) fAll := fun W σ β H S xs vs Q hs l h => by
  unfold fAll at h
  split at h
  · split at h
    · rename_i ds bs e
      obtain ⟨v, rfl, a, ys, rfl, r, l⟩ := RepL.one l
      exact ⟨a, bs, rfl, by rw [← repL_bools _ _ _ l e]; exact r.sq, post.val h hs rfl⟩
    · exact h.elim
  · exact h.elim
theorem ok_any : CallOk T X (rAny X.K) fAny := fun W σ β H S xs vs Q hs l h => by
  unfold fAny at h
  split at h
  · split at h
    · rename_i ds bs e
      obtain ⟨v, rfl, a, ys, rfl, r, l⟩ := RepL.one l
      exact ⟨a, bs, rfl, by rw [← repL_bools _ _ _ l e]; exact r.sq, post.val h hs rfl⟩
    · exact h.elim
  · exact h.elim
theorem ok_sum : CallOk T X (rSum X.K) fSum := fun W σ β H S xs vs Q hs l h => by
  unfold fSum at h
  split at h
  · split at h
    · rename_i ds bs e
      obtain ⟨v, rfl, a, ys, rfl, r, l⟩ := RepL.one l
      exact ⟨a, bs, rfl, by rw [← repL_ints _ _ _ l e]; exact r.sq, post.val h hs rfl⟩
    · exact h.elim
  · exact h.elim
end
end DL


set_option linter.all false
set_option autoImplicit false
set_option Elab.async false
set_option maxRecDepth 100000
set_option maxHeartbeats 2000000
/-! DLw3: statements, targets, loops, comprehensions, defs and their calls. -/
namespace DL
open PySem PySem.Spec L2
open PyProof.Rows hiding St b2i

/-- behind a statement -/
def postS (w : Wo) (W : WX) (β : Bt) (H : Hp) (r : RS) (D : Ends) : Prop := match r with
  | .nx ρ S => ∀ σ' β' H', Ext β H β' H' → SOk w β' H' S → RepE w β' H' ρ σ' → D.nx σ' H'
  | .bk ρ S => ∀ σ' β' H', Ext β H β' H' → SOk w β' H' S → RepE w β' H' ρ σ' → D.bk σ' H'
  | .ct ρ S => ∀ σ' β' H', Ext β H β' H' → SOk w β' H' S → RepE w β' H' ρ σ' → D.ct σ' H'
  | .rt d S => ∀ v β' H', Ext β H β' H' → SOk w β' H' S → Rep w β' H' d v → D.rt v H'
  | .exc c d ρ S => ∀ C dx v σ' β' H', Ext β H β' H' → SOk w β' H' S → RepE w β' H' ρ σ' → w.mg c = some (.ref C) → H' dx = some (.xd [(("value" : Str), v)]) → Rep w β' H' d v → W (.ref C) (some dx) σ' H'
  | .bad => False
section
variable {w : Wo} {W : WX} {β β' : Bt} {H H' : Hp} {r : RS} {D D' : Ends}
theorem postS.ext (p : postS w W β H r D) (e : Ext β H β' H') : postS w W β' H' r D := by
  cases r with
  | nx ρ S => exact fun σ β2 H2 e2 => p σ β2 H2 (e.trans e2)
  | bk ρ S => exact fun σ β2 H2 e2 => p σ β2 H2 (e.trans e2)
  | ct ρ S => exact fun σ β2 H2 e2 => p σ β2 H2 (e.trans e2)
  | rt d S => exact fun v β2 H2 e2 => p v β2 H2 (e.trans e2)
  | exc c d ρ S => exact fun C dx v σ β2 H2 e2 => p C dx v σ β2 H2 (e.trans e2)
  | bad => exact p
end
def tS (w : Wo) (W : WX) (g : SF) : TS := fun D σ H => ∃ β ρ S, SOk w β H S ∧ RepE w β H ρ σ ∧ postS w W β H (g ρ S) D
section
variable {w : Wo} {W : WX} {σ : St} {β : Bt} {H : Hp} {ρ : Env} {S : Sto} {Y : Ends}
theorem tE_st {f : EF} {g : D → Sto → RS} {Z : VK} (hs : SOk w β H S) (he : RepE w β H ρ σ) (h : postS w W β H ((f ρ S).st ρ g) Y)
    (k : ∀ d S1 v β1 H1, Ext β H β1 H1 → SOk w β1 H1 S1 → RepE w β1 H1 ρ σ → Rep w β1 H1 d v → postS w W β1 H1 (g d S1) Y → Z v H1) : tE w W f σ H Z := by
  refine ⟨β, ρ, S, hs, he, ?_⟩
  cases e : f ρ S with
  | ok d S1 =>
    rw [e] at h
    exact fun v β1 H1 x k1 r => k d S1 v β1 H1 x k1 (he.ext x) r (postS.ext h x)
  | exc c d S1 =>
    rw [e] at h
    exact fun C dx v β1 H1 x k1 => h C dx v σ β1 H1 x k1 (he.ext x)
  | bad => rw [e] at h; exact h
theorem tT_st {f : TF} {g : Bool → Sto → RS} {Z : Bool → Hp → Prop} (hs : SOk w β H S) (he : RepE w β H ρ σ) (h : postS w W β H ((f ρ S).st ρ g) Y)
    (k : ∀ d S1 β1 H1, Ext β H β1 H1 → SOk w β1 H1 S1 → RepE w β1 H1 ρ σ → postS w W β1 H1 (g d S1) Y → Z d H1) : tT w W f σ H Z := by
  refine ⟨β, ρ, S, hs, he, ?_⟩
  cases e : f ρ S with
  | ok d S1 =>
    rw [e] at h
    exact fun β1 H1 x k1 => k d S1 β1 H1 x k1 (he.ext x) (postS.ext h x)
  | exc c d S1 =>
    rw [e] at h
    exact fun C dx v β1 H1 x k1 => h C dx v σ β1 H1 x k1 (he.ext x)
  | bad => rw [e] at h; exact h
theorem tA_st {f : AF} {g : List D → Sto → RS} {Z : List V → Hp → Prop} (hs : SOk w β H S) (he : RepE w β H ρ σ) (h : postS w W β H ((f ρ S).st ρ g) Y)
    (k : ∀ d S1 v β1 H1, Ext β H β1 H1 → SOk w β1 H1 S1 → RepE w β1 H1 ρ σ → RepL w β1 H1 d v → postS w W β1 H1 (g d S1) Y → Z v H1) : tA w W f σ H Z := by
  refine ⟨β, ρ, S, hs, he, ?_⟩
  cases e : f ρ S with
  | ok d S1 =>
    rw [e] at h
    exact fun v β1 H1 x k1 r => k d S1 v β1 H1 x k1 (he.ext x) r (postS.ext h x)
  | exc c d S1 =>
    rw [e] at h
    exact fun C dx v β1 H1 x k1 => h C dx v σ β1 H1 x k1 (he.ext x)
  | bad => rw [e] at h; exact h
theorem postS.nx_ (h : postS w W β H (.nx ρ S) Y) (hs : SOk w β H S) (he : RepE w β H ρ σ) : Y.nx σ H := h σ β H (.refl _ _) hs he
end
structure PXS (T : List (Addr × Str)) (X : Cx) (s : Stmt) (g : SF) : Prop where
  run : ∀ W, Takes X W → PS X s (tS (wo X T) W g)
structure PXSs (T : List (Addr × Str)) (X : Cx) (s : List Stmt) (g : SF) : Prop where
  run : ∀ W, Takes X W → PSs X s (tS (wo X T) W g)
/-- a target's reading: the slots out of ws stay -/
def Outof (ws : List Nat) (σ σ' : St) : Prop := σ'.length = σ.length ∧ ∀ i, i ∉ ws → σ'[i]? = σ[i]?
def tG (w : Wo) (g : TgF) (ws : List Nat) : TG := fun v σ H Q => ∃ β d ρ ρ', Rep w β H d v ∧ RepE w β H ρ σ ∧ g d ρ = some ρ' ∧ ∀ σ', RepE w β H ρ' σ' → Outof ws σ σ' → Q σ' H
def tGs (w : Wo) (g : TgsF) (ws : List Nat) : TGs := fun v σ H Q => ∃ β d ρ ρ', RepL w β H d v ∧ RepE w β H ρ σ ∧ g d ρ = some ρ' ∧ ∀ σ', RepE w β H ρ' σ' → Outof ws σ σ' → Q σ' H
structure PXG (T : List (Addr × Str)) (X : Cx) (tg : Expr) (g : TgF) (ws : List Nat) : Prop where
  run : PG X tg (tG (wo X T) g ws)
structure PXGs (T : List (Addr × Str)) (X : Cx) (tg : List Expr) (g : TgsF) (ws : List Nat) : Prop where
  run : PGs X tg (tGs (wo X T) g ws)
theorem PG.weak {X : Cx} {e : Expr} {t t' : TG} (h : PG X e t) (k : ∀ v σ H Q, t' v σ H Q → t v σ H Q) : PG X e t' := ⟨fun pins s σ H v u Q I r q => h.run pins s σ H v u Q I r (k v σ H Q q)⟩
theorem PGs.weak {X : Cx} {e : List Expr} {t t' : TGs} (h : PGs X e t) (k : ∀ v σ H Q, t' v σ H Q → t v σ H Q) : PGs X e t' := ⟨fun pins s σ H v u Q I r q => h.run pins s σ H v u Q I r (k v σ H Q q)⟩

section
variable {T : List (Addr × Str)} {X : Cx} {a b c e : Expr} {fa fb fc : EF} {ta : TF} {ga gb : SF} {pos : Pos} {st : Stmt} {rest sa sb : List Stmt}

/-! ### blocks -/
theorem pxs_nil : PXSs T X [] sNil := ⟨fun W t => PSs.weak pss_nil fun D σ H ⟨β, ρ, S, hs, he, h⟩ => h.nx_ hs he⟩
theorem pxs_cons (h1 : PXS T X st ga) (h2 : PXSs T X rest gb) : PXSs T X (st :: rest) (sSeq ga gb) :=
  ⟨fun W t => PSs.weak (pss_cons (h1.run W t) (h2.run W t)) fun D σ H ⟨β, ρ, S, hs, he, h⟩ => by
    refine ⟨β, ρ, S, hs, he, ?_⟩
    unfold sSeq at h
    cases q : ga ρ S with
    | nx ρ1 S1 => rw [q] at h; exact fun σ' β' H' x k r => ⟨β', ρ1, S1, k, r, postS.ext h x⟩
    | bk ρ1 S1 => rw [q] at h; exact h
    | ct ρ1 S1 => rw [q] at h; exact h
    | rt d S1 => rw [q] at h; exact h
    | exc c d ρ1 S1 => rw [q] at h; exact h
    | bad => rw [q] at h; exact h⟩
theorem pxs_one (h1 : PXS T X st ga) : PXSs T X [st] ga := ⟨fun W t => pss_one (h1.run W t)⟩
theorem px_doc {x : Str} {j : Nat} {pos' : Pos} : PXS T X (.Expr (.Constant (.str x) j pos) pos') sNil := ⟨fun W t => PS.weak ps_doc fun D σ H ⟨β, ρ, S, hs, he, h⟩ => h.nx_ hs he⟩
theorem px_pass : PXS T X (.Pass pos) sNil := ⟨fun W t => PS.weak ps_pass fun D σ H ⟨β, ρ, S, hs, he, h⟩ => h.nx_ hs he⟩
theorem px_break : PXS T X (.Break pos) sBreak := ⟨fun W t => PS.weak ps_break fun D σ H ⟨β, ρ, S, hs, he, h⟩ => h σ β H (.refl _ _) hs he⟩
theorem px_continue : PXS T X (.Continue pos) sCont := ⟨fun W t => PS.weak ps_continue fun D σ H ⟨β, ρ, S, hs, he, h⟩ => h σ β H (.refl _ _) hs he⟩
theorem px_expr (ha : PX T X e fa) (hs : swapsWith e none pos.line X.env = pure false := by rfl) : PXS T X (.Expr e pos) (sExpr fa) :=
  ⟨fun W t => PS.weak (ps_expr (ha.run W t) hs) fun D σ H ⟨β, ρ, S, hs, he, h⟩ => tE_st hs he h fun d S1 v β1 H1 x1 k1 e1 r1 q1 => q1.nx_ k1 e1⟩
theorem px_ret (ha : PX T X e fa) : PXS T X (.Return (some e) pos) (sRet fa) :=
  ⟨fun W t => PS.weak (ps_ret (ha.run W t)) fun D σ H ⟨β, ρ, S, hs, he, h⟩ => tE_st hs he h fun d S1 v β1 H1 x1 k1 e1 r1 q1 => q1 v β1 H1 (.refl _ _) k1 r1⟩
theorem px_retN : PXS T X (.Return none pos) sRetN := ⟨fun W t => PS.weak ps_retN fun D σ H ⟨β, ρ, S, hs, he, h⟩ => h .non β H (.refl _ _) hs rfl⟩
theorem px_if {t : Expr} (hc : PXT T X t ta) (ha : PXSs T X sa ga) (hb : PXSs T X sb gb) : PXS T X (.If t sa sb pos) (sIf ta ga gb) :=
  ⟨fun W t => PS.weak (ps_if (hc.run W t) (ha.run W t) (hb.run W t)) fun D σ H ⟨β, ρ, S, hs, he, h⟩ => tT_st hs he h fun d S1 β1 H1 x1 k1 e1 q1 => by
    cases d with
    | true => simp only [if_true]; exact ⟨β1, ρ, S1, k1, e1, q1⟩
    | false => simp only [Bool.false_eq_true, if_false]; exact ⟨β1, ρ, S1, k1, e1, q1⟩⟩
theorem px_never : PXS T X st sNever := ⟨fun W t => PS.weak ps_never fun D σ H ⟨β, ρ, S, hs, he, h⟩ => h⟩
theorem pxs_never : PXSs T X sa sNever := ⟨fun W t => PSs.weak pss_never fun D σ H ⟨β, ρ, S, hs, he, h⟩ => h⟩

/-! ### targets, assignments -/
theorem pxg_name (i : Nat) {x : Str} (hN : X.N.Nodup) (hi : X.N[i]? = some x := by rfl) (hx : Loc X.env.scope x := by first | exact Or.inl rfl | exact Or.inr rfl) (hf : X.fn x = true ∨ X.env.scope.names.lookup x = some .local := by first | exact .inl rfl | exact .inr rfl | assumption) : PXG T X (.Name x pos) (gSet i) [i] :=
  ⟨PG.weak (pg_name hN hi hx hf) fun v σ H Q ⟨β, d, ρ, ρ', r, he, e, k⟩ => by
    cases e
    exact k _ (he.set r i) ⟨by simp, fun j hj => List.getElem?_set_ne (fun z => hj (by rw [z]; exact List.mem_singleton.mpr rfl))⟩⟩
theorem pxgs_nil : PXGs T X [] gsNil [] := ⟨PGs.weak pgs_nil fun v σ H Q ⟨β, d, ρ, ρ', r, he, e, k⟩ => by
  cases d with
  | nil => cases e; exact ⟨r, k _ he ⟨rfl, fun _ _ => rfl⟩⟩
  | cons x xs => cases e⟩
theorem pxgs_cons {es : List Expr} {g : TgF} {gs : TgsF} {ws us : List Nat} (h1 : PXG T X e g ws) (h2 : PXGs T X es gs us) (hs : (assignEach (e :: es) X.env).map (·.2) = assign e X.env :: (assignEach es X.env).map (·.2) := by rfl) : PXGs T X (e :: es) (gsCons g gs) (ws ++ us) := by
  refine ⟨PGs.weak (pgs_cons h1.run h2.run hs) fun v σ H Q ⟨β, d, ρ, ρ', r, he, e, k⟩ => ?_⟩
  cases d with
  | nil => cases e
  | cons x xs =>
    obtain ⟨z, zr, rfl, r1, r2⟩ := r
    simp only [gsCons, Option.bind_eq_some_iff] at e
    obtain ⟨ρ1, e1, e2⟩ := e
    refine ⟨z, zr, rfl, β, x, ρ, ρ1, r1, he, e1, fun σ1 he1 o1 => ⟨β, xs, ρ1, ρ', r2, he1, e2, fun σ2 he2 o2 => k σ2 he2 ⟨o2.1.trans o1.1, fun i hi => ?_⟩⟩⟩
    rw [List.mem_append, not_or] at hi
    exact (o2.2 i hi.2).trans (o1.2 i hi.1)
theorem pxg_tup {es : List Expr} {k : Nat} {gs : TgsF} {n : Nat} {ws : List Nat} (hc : X.calm = true) (h : PXGs T X es gs ws) (hl : ∀ ds ρ ρ', gs ds ρ = some ρ' → ds.length = n)
    (hn : (assignEach es X.env).length = n := by rfl) (hst : (assignEach es X.env).findIdx? (·.1) = none := by rfl) : PXG T X (.Tuple es k pos) (gTupD gs) ws :=
  ⟨PG.weak (pg_tup hc h.run hn hst) fun v σ H Q ⟨β, d, ρ, ρ', r, he, e, k⟩ => by
    cases d with
    | tup ds =>
      obtain ⟨a, xs, rfl, h1, l⟩ := r
      exact ⟨a, xs, rfl, h1, by rw [← l.length]; exact hl ds ρ ρ' e, β, ds, ρ, ρ', l, he, e, k⟩
    | _ => cases e⟩
theorem gsl_nil : ∀ ds ρ ρ', gsNil ds ρ = some ρ' → ds.length = 0 := fun ds ρ ρ' e => by
  cases ds with
  | nil => rfl
  | cons x xs => cases e
theorem gsl_cons {g : TgF} {gs : TgsF} {n : Nat} (h : ∀ ds ρ ρ', gs ds ρ = some ρ' → ds.length = n) : ∀ ds ρ ρ', gsCons g gs ds ρ = some ρ' → ds.length = n + 1 := fun ds ρ ρ' e => by
  cases ds with
  | nil => cases e
  | cons x xs =>
    simp only [gsCons, Option.bind_eq_some_iff] at e
    obtain ⟨ρ1, _, e2⟩ := e
    rw [List.length_cons, h xs ρ1 ρ' e2]
theorem px_set (i : Nat) {x : Str} {pos' : Pos} (hN : X.N.Nodup) (he : PX T X e fa) (hi : X.N[i]? = some x := by rfl) (hx : Loc X.env.scope x := by first | exact Or.inl rfl | exact Or.inr rfl) (hs : swapsWith e (some (.Name x pos')) pos.line X.env = pure false := by rfl)
    (hf : X.fn x = true ∨ X.env.scope.names.lookup x = some .local := by first | exact .inl rfl | exact .inr rfl | assumption) : PXS T X (.Assign [.Name x pos'] e pos) (sSet i fa) :=
  ⟨fun W t => PS.weak (ps_set hN hi hx (he.run W t) hs hf) fun D σ H ⟨β, ρ, S, hs, he, h⟩ => tE_st hs he h fun d S1 v β1 H1 x1 k1 e1 r1 q1 => q1.nx_ k1 (e1.set r1 i)⟩
theorem px_asg {tg : Expr} {g : TgF} {ws : List Nat} (he : PX T X e fa) (hg : PXG T X tg g ws) (hs : swapsWithSole [tg] e pos.line X.env = pure false := by rfl) (hw : swappedStores [tg] e X.env = pure none := by rfl)
    (h1 : (assignEach [tg] X.env).map (·.2) = [assign tg X.env] := by rfl) : PXS T X (.Assign [tg] e pos) (sAsg g fa) :=
  ⟨fun W t => PS.weak (ps_asg (he.run W t) hg.run hs hw h1) fun D σ H ⟨β, ρ, S, hs, he, h⟩ => tE_st hs he h fun d S1 v β1 H1 x1 s1 e1 r1 q1 => by
    cases q : g d ρ with
    | none => rw [q] at q1; exact q1.elim
    | some ρ' =>
      rw [q] at q1
      exact ⟨β1, d, ρ, ρ', r1, e1, q, fun σ' he' _ => q1.nx_ s1 he'⟩⟩
theorem px_par (i j : Nat) {x y : Str} {px py pt pt2 : Pos} {kt k2 : Nat} {ga : AF} (hc : X.calm = true) (hN : X.N.Nodup) (hij : i ≠ j) (ha : PXA T X [a, b] ga) (hi : X.N[i]? = some x := by rfl) (hj : X.N[j]? = some y := by rfl)
    (hx : X.env.scope.names.lookup x = some .local := by rfl) (hy : X.env.scope.names.lookup y = some .local := by rfl)
    (hw : swappedStores [.Tuple [.Name x px, .Name y py] kt pt] (.Tuple [a, b] k2 pt2) X.env = pure (some [x, y]) := by rfl)
    (hs : swapsWithSole [.Tuple [.Name x px, .Name y py] kt pt] (.Tuple [a, b] k2 pt2) pos.line X.env = pure false := by rfl) :
    PXS T X (.Assign [.Tuple [.Name x px, .Name y py] kt pt] (.Tuple [a, b] k2 pt2) pos) (sPar i j ga) :=
  ⟨fun W t => PS.weak (ps_par hc hN hi hj hij hx hy (ha.run W t) hw hs) fun D σ H ⟨β, ρ, S, hs, he, h⟩ => tA_st hs he h fun ds S1 vs β1 H1 x1 k1 e1 r1 q1 => by
    match ds, r1, q1 with
    | [d1, d2], r1, q1 =>
      obtain ⟨v, u, rfl, r, r'⟩ := RepL.two r1
      exact ⟨v, u, rfl, q1.nx_ k1 ((e1.set r i).set r' j)⟩
    | [], _, q1 => exact q1.elim
    | [_], _, q1 => exact q1.elim
    | _ :: _ :: _ :: _, _, q1 => exact q1.elim⟩
theorem RepL.three {w : Wo} {β : Bt} {H : Hp} {d e f : D} {vs : List V} (l : RepL w β H [d, e, f] vs) : ∃ v u z, vs = [v, u, z] ∧ Rep w β H d v ∧ Rep w β H e u ∧ Rep w β H f z := by
  obtain ⟨x, xr, rfl, r, l⟩ := l
  obtain ⟨u, z, rfl, r2, r3⟩ := RepL.two l
  exact ⟨x, u, z, rfl, r, r2, r3⟩
theorem px_par3 (i j l : Nat) {x y z : Str} {px py pz pt pt2 : Pos} {kt k2 : Nat} {ga : AF} (hc : X.calm = true) (hN : X.N.Nodup) (hij : i ≠ j) (hil : i ≠ l) (hjl : j ≠ l) (ha : PXA T X [a, b, c] ga) (hi : X.N[i]? = some x := by rfl) (hj : X.N[j]? = some y := by rfl) (hl : X.N[l]? = some z := by rfl)
    (hx : X.env.scope.names.lookup x = some .local := by rfl) (hy : X.env.scope.names.lookup y = some .local := by rfl) (hz : X.env.scope.names.lookup z = some .local := by rfl)
    (hw : swappedStores [.Tuple [.Name x px, .Name y py, .Name z pz] kt pt] (.Tuple [a, b, c] k2 pt2) X.env = pure (some [x, y, z]) := by rfl)
    (hs : swapsWithSole [.Tuple [.Name x px, .Name y py, .Name z pz] kt pt] (.Tuple [a, b, c] k2 pt2) pos.line X.env = pure false := by rfl) :
    PXS T X (.Assign [.Tuple [.Name x px, .Name y py, .Name z pz] kt pt] (.Tuple [a, b, c] k2 pt2) pos) (sPar3 i j l ga) :=
  ⟨fun W t => PS.weak (ps_par3 hc hN hi hj hl hij hil hjl hx hy hz (ha.run W t) hw hs) fun D σ H ⟨β, ρ, S, hs, he, h⟩ => tA_st hs he h fun ds S1 vs β1 H1 x1 k1 e1 r1 q1 => by
    match ds, r1, q1 with
    | [d1, d2, d3], r1, q1 =>
      obtain ⟨v, u, z, rfl, r, r', r''⟩ := RepL.three r1
      exact ⟨v, u, z, rfl, q1.nx_ k1 (((e1.set r i).set r' j).set r'' l)⟩
    | [], _, q1 => exact q1.elim
    | [_], _, q1 => exact q1.elim
    | [_, _], _, q1 => exact q1.elim
    | _ :: _ :: _ :: _ :: _, _, q1 => exact q1.elim⟩
/-- name op= e -/
theorem px_aug (i : Nat) {x : Str} {op : Operator} {ti : TIp} {g : D → D → Sto → R D} {pos' : Pos} (hN : X.N.Nodup) (he : PX T X e fa) (ho : PIp X op ti) (hr : BinOk T X ti g) (hi : X.N[i]? = some x := by rfl) (hx : Loc X.env.scope x := by first | exact Or.inl rfl | exact Or.inr rfl)
    (hf : X.fn x = true ∨ X.env.scope.names.lookup x = some .local := by first | exact .inl rfl | exact .inr rfl | assumption) : PXS T X (.AugAssign (.Name x pos') op e pos) (sAug i g fa) :=
  ⟨fun W t => PS.weak (ps_aug hN hi hx (he.run W t) ho hf) fun D σ H ⟨β, ρ, S, hs, he, h⟩ => by
    unfold sAug at h
    cases q : ρ[i]? with
    | none => rw [q] at h; exact h.elim
    | some o =>
      cases o with
      | none => rw [q] at h; exact h.elim
      | some d0 =>
        rw [q] at h
        obtain ⟨v0, h1, h2⟩ := he.2 i d0 q
        refine ⟨v0, h1, tE_st hs he h fun d S1 v β1 H1 x1 k1 e1 r1 q1 => ?_⟩
        refine hr W σ β1 H1 S1 d0 d v0 v _ k1 (Rep.ext x1 d0 v0 h2) r1 ?_
        cases q2 : g d0 d S1 with
        | ok z S2 =>
          rw [q2] at q1
          exact fun u β2 H2 x2 k2 r2 => (postS.ext q1 x2).nx_ k2 ((e1.ext x2).set r2 i)
        | exc c' v' S2 =>
          rw [q2] at q1
          exact fun C dx u β2 H2 x2 k2 => q1 C dx u σ β2 H2 x2 k2 (e1.ext x2)
        | bad => rw [q2] at q1; exact q1⟩
/-- a list of the store changes -/
theorem Ext.chg {β : Bt} {H : Hp} {p : Addr} {xs ys : List V} (h : H p = some (.lst xs)) (hp : p ∈ β.l) : Ext β H β (upd H p (.lst ys)) :=
  ⟨⟨⟨[], by simp, fun _ z => nomatch z⟩, fun _ h => .inl h, fun a o e n1 n2 => by
    have ne : a ≠ p := fun z => by
      rw [z, h] at e
      exact n1 xs (Option.some.inj e).symm
    rw [upd_ne ne]; exact e, fun a zs e n => by
    have ne : a ≠ p := fun z => n (z ▸ hp)
    rw [upd_ne ne]; exact e, fun a n o e => by
    by_cases z : a = p
    · obtain ⟨ps, q⟩ := n (.lst ys) (by rw [z, upd_same])
      cases q
    · exact n o (by rw [upd_ne z]; exact e)⟩, rfl⟩
theorem TabS.chg {H : Hp} {P p : Addr} {q : Str} {xs ys : List V} (t : LamX.TabS H P q) (h : H p = some (.lst xs)) : LamX.TabS (upd H p (.lst ys)) P q := by
  obtain ⟨ps, h1, h2, h3⟩ := t
  have ne : P ≠ p := fun z => by
    rw [z, h] at h1
    cases h1
  refine ⟨ps, by rw [upd_ne ne]; exact h1, h2, fun pos cv hc => ?_⟩
  obtain ⟨c, e1, e2⟩ := h3 pos cv hc
  refine ⟨c, e1, ?_⟩
  have ne2 : c ≠ p := fun z => by
    rw [z, h] at e2
    unfold LamX.CodeO at e2
    cases e2
  rw [upd_ne ne2]; exact e2
theorem SOk.chg {w : Wo} {β : Bt} {H : Hp} {S : Sto} {n : Nat} {p : Addr} {xs ys : List V} {ds : List D} (k : SOk w β H S) (hn : β.l[n]? = some p) (h : H p = some (.lst xs)) (r : RepL w β H ds ys) : SOk w β (upd H p (.lst ys)) (S.set n ds) := by
  have x : Ext β H β (upd H p (.lst ys)) := Ext.chg h (List.mem_of_getElem? hn)
  refine ⟨fun q hq => TabS.chg (k.tabs q hq) h, k.nodup, fun a ha => ⟨(k.hid a ha).1.imp fun zs e => x.lsts a zs e (k.hid a ha).2, (k.hid a ha).2⟩, by rw [List.length_set]; exact k.len, fun m a es e1 e2 => ?_⟩
  by_cases hm : n = m
  · subst hm
    have ea : p = a := Option.some.inj (hn.symm.trans e1)
    subst ea
    have hl : n < S.length := by
      have := (List.getElem?_eq_some_iff.mp e2).1
      simpa using this
    rw [List.getElem?_set_self hl] at e2
    cases e2
    exact ⟨ys, upd_same, RepL.ext x _ ys r⟩
  · rw [List.getElem?_set_ne hm] at e2
    obtain ⟨zs, h1, h2⟩ := k.at_ m a es e1 e2
    have ne : a ≠ p := fun z => by
      subst z
      exact hm ((List.getElem?_inj (List.getElem?_eq_some_iff.mp hn).1 k.nodup).mp (hn.trans e1.symm))
    exact ⟨zs, by rw [upd_ne ne]; exact h1, RepL.ext x es zs h2⟩
theorem px_sub_set {o i : Expr} {fo fi : EF} {p1 : Pos} (he : PX T X e fa) (ho : PX T X o fo) (hi : PX T X i fi) (hs : swapsWithSole [.Subscript o i p1] e pos.line X.env = pure false := by rfl) (hw : swappedStores [.Subscript o i p1] e X.env = pure none := by rfl)
    (h1 : (assignEach [.Subscript o i p1] X.env).map (·.2) = [assign (.Subscript o i p1) X.env] := by rfl)
    (has : ∀ v, assign (.Subscript o i p1) X.env v = (do
      let ov ← holding [v] (eval o X.env)
      let iv ← holding [v, ov] (eval i X.env)
      standAt p1
      holding [v, ov, iv] (setItem ov iv v)
      release [v, ov, iv] []) := by intro _; rfl) : PXS T X (.Assign [.Subscript o i p1] e pos) (sSub fo fi fa) :=
  ⟨fun W t => PS.weak (ps_asg (he.run W t) (pg_sub (ho.run W t) (hi.run W t) set_list has) hs hw h1) fun D σ H ⟨β, ρ, S, hs, he, h⟩ => tE_st hs he h fun d S1 v β1 H1 x1 k1 e1 r1 q1 =>
    tE_st k1 e1 q1 fun d2 S2 v2 β2 H2 x2 k2 e2 r2 q2 => tE_st k2 e2 q2 fun d3 S3 v3 β3 H3 x3 k3 e3 r3 q3 => by
      have r1' := Rep.ext (x2.trans x3).toExtW d v r1
      have r2' := Rep.ext x3.toExtW d2 v2 r2
      cases d2 with
      | loc n =>
        cases d3 with
        | int k =>
          obtain ⟨p, rfl, hn⟩ := r2'
          obtain ⟨ds, xs, g1, g2, l⟩ := k3.get hn
          simp only [setD, g1] at q3
          cases g3 : ixN ds.length k with
          | none => rw [g3] at q3; exact q3.elim
          | some j =>
            rw [g3] at q3
            exact ⟨p, xs, k, j, rfl, r3, g2, by rw [← l.length]; exact g3, q3 σ β3 _ (.chg g2 (List.mem_of_getElem? hn)) (k3.chg hn g2 (RepL.set r1' j l)) (e3.ext (Ext.chg g2 (List.mem_of_getElem? hn)).toExtW)⟩
        | _ => exact q3.elim
      | _ => cases d3 <;> exact q3.elim⟩

/-! ### while -/
theorem px_while {t : Expr} {body : List Stmt} (hp : PassesOwn (model X.prog X.w) X.A X.env X.xe) (hc : PXT T X t ta) (hb : PXSs T X body ga) : PXS T X (.While t body [] pos) (sWhile ta ga) :=
  ⟨fun W tk => PS.weak (ps_while hp (hc.run W tk) (hb.run W tk)) fun D σ H ⟨β, ρ, S, hs, he, h⟩ => by
    have hne : sWhile ta ga ρ S ≠ .bad := fun z => by rw [z] at h; exact h
    obtain ⟨n, hn⟩ := sWhile_some hne
    rw [← hn] at h
    refine ⟨fun m σ H => ∃ β ρ S, SOk (wo X T) β H S ∧ RepE (wo X T) β H ρ σ ∧ postS (wo X T) W β H (wIter ta ga m ρ S) D, ⟨n, β, ρ, S, hs, he, h⟩, fun m σ1 H1 ⟨β1, ρ1, S1, k1, e1, q1⟩ => ?_⟩
    cases m with
    | zero => exact q1.elim
    | succ m =>
      unfold wIter at q1
      refine tT_st k1 e1 q1 fun d S2 β2 H2 x2 k2 e2 q2 => ?_
      cases d with
      | false => simp only [Bool.false_eq_true, if_false]; exact q2.nx_ k2 e2
      | true =>
        simp only [if_true]
        refine ⟨fun σ' H' => ∃ β ρ S, SOk (wo X T) β H' S ∧ RepE (wo X T) β H' ρ σ' ∧ postS (wo X T) W β H' (wIter ta ga m ρ S) D, fun σ' H' z => ⟨m, Nat.lt_succ_self m, z⟩, β2, ρ1, S2, k2, e2, ?_⟩
        simp only at q2
        cases q3 : ga ρ1 S2 with
        | nx ρ3 S3 => rw [q3] at q2; exact fun σ3 β3 H3 x3 k3 e3 => ⟨β3, ρ3, S3, k3, e3, postS.ext q2 x3⟩
        | ct ρ3 S3 => rw [q3] at q2; exact fun σ3 β3 H3 x3 k3 e3 => ⟨β3, ρ3, S3, k3, e3, postS.ext q2 x3⟩
        | bk ρ3 S3 => rw [q3] at q2; exact q2
        | rt d3 S3 => rw [q3] at q2; exact q2
        | exc c3 d3 ρ3 S3 => rw [q3] at q2; exact q2
        | bad => rw [q3] at q2; exact q2⟩
end

/-! ### what is walked -/
/-- the turns of J yield what ds stands for, whatever new comes in between -/
structure Walks (w : Wo) (J : It) (β : Bt) (H : Hp) (ds : List D) : Prop where
  go : ∀ (i : Nat) (d : D), ds[i]? = some d → ∀ β' H', ExtW β H β' H' → J.go i H'
  yld : ∀ (i : Nat) (d : D), ds[i]? = some d → ∀ β' H', ExtW β H β' H' → ∀ x H'', J.yld i H' x H'' → Same H' H'' ∧ Rep w β' H'' d x
  stop : ∀ β' H', ExtW β H β' H' → J.stop ds.length H'
theorem SOk.same {w : Wo} {β : Bt} {H H' : Hp} {S : Sto} (k : SOk w β H S) (h : Same H H') : SOk w β H' S :=
  ⟨k.tabs.ext h, k.nodup, fun a ha => ⟨(k.hid a ha).1.imp fun xs e => h _ _ e, (k.hid a ha).2⟩, k.len, fun n a ds e1 e2 => by
    obtain ⟨xs, h1, h2⟩ := k.at_ n a ds e1 e2
    exact ⟨xs, h _ _ h1, RepL.ext (Ext.same h).toExtW ds xs h2⟩⟩
theorem Walks.ext {w : Wo} {J : It} {β β' : Bt} {H H' : Hp} {ds : List D} (k : Walks w J β H ds) (e : ExtW β H β' H') : Walks w J β' H' ds :=
  ⟨fun i d q β2 H2 e2 => k.go i d q β2 H2 (e.trans e2), fun i d q β2 H2 e2 => k.yld i d q β2 H2 (e.trans e2), fun β2 H2 e2 => k.stop β2 H2 (e.trans e2)⟩
/-- the same for a heap in which one more list may change, that was not there -/
def postI (w : Wo) (W : WX) (σ : St) (β : Bt) (H : Hp) (r : R (List D)) (Z : It → Hp → Prop) : Prop := match r with
  | .ok ds S => ∀ J β' H', Ext β H β' H' → SOk w β' H' S → Walks w J β' H' ds → Z J H'
  | .exc c d S => ∀ C dx v β' H', Ext β H β' H' → SOk w β' H' S → w.mg c = some (.ref C) → H' dx = some (.xd [(("value" : Str), v)]) → Rep w β' H' d v → W (.ref C) (some dx) σ H'
  | .bad => False
def tI (w : Wo) (W : WX) (it : AF) : TI := fun σ H Z => ∃ β ρ S, SOk w β H S ∧ RepE w β H ρ σ ∧ postI w W σ β H (it ρ S) Z
structure PXI (T : List (Addr × Str)) (X : Cx) (tg iter : Expr) (it : AF) : Prop where
  run : ∀ W, Takes X W → PI X tg iter (tI (wo X T) W it)
theorem PI.weak {X : Cx} {tg e : Expr} {t t' : TI} (h : PI X tg e t) (k : ∀ σ H Z, t' σ H Z → t σ H Z) : PI X tg e t' := ⟨fun pins s σ H Z I q => h.run pins s σ H Z I (k σ H Z q)⟩
section
variable {T : List (Addr × Str)} {X : Cx} {tg a b e : Expr} {fa : EF} {pos : Pos}
theorem walks_lst {w : Wo} {β : Bt} {H : Hp} {p : Addr} {xs : List V} {ds : List D} (h : FzL w.K β H p xs) (l : RepL w β H ds xs) : Walks w (Itl w.K p) β H ds :=
  ⟨fun i d q β' H' x => by
    obtain ⟨v, h1, _⟩ := l.get q
    exact ⟨xs, v, (x.fz h).sq, h1⟩, fun i d q β' H' x v H'' y => by
    obtain ⟨e, y⟩ := y
    subst e
    obtain ⟨u, h1, h2⟩ := l.get q
    have e2 : some u = some v := h1.symm.trans (y xs (x.fz h).sq)
    rw [← Option.some.inj e2]
    exact ⟨fun _ _ z => z, Rep.ext x d u h2⟩, fun β' H' x => ⟨xs, (x.fz h).sq, by rw [l.length]; exact Nat.le_refl _⟩⟩
theorem rngL_get : ∀ (n : Nat) (lo : Int) (i : Nat) (d : D), (rngL lo n)[i]? = some d → i < n ∧ d = .int (lo + i)
  | 0, _, _, _, e => by simp [rngL] at e
  | n + 1, lo, 0, d, e => by
    simp [rngL] at e
    exact ⟨by omega, by rw [← e]; simp⟩
  | n + 1, lo, i + 1, d, e => by
    simp only [rngL, List.getElem?_cons_succ] at e
    obtain ⟨h1, h2⟩ := rngL_get n (lo + 1) i d e
    exact ⟨by omega, by rw [h2]; congr 1; omega⟩
theorem rngL_length : ∀ (n : Nat) (lo : Int), (rngL lo n).length = n
  | 0, _ => rfl
  | n + 1, lo => by simp [rngL, rngL_length n]
theorem walks_rng {w : Wo} {β : Bt} {H : Hp} {lo : Int} {n : Nat} : Walks w (Itr lo n) β H (rngL lo n) :=
  ⟨fun i d q β' H' x => (rngL_get n lo i d q).1, fun i d q β' H' x v H'' y => by
    obtain ⟨e, y⟩ := y
    subst e
    subst y
    rw [(rngL_get n lo i d q).2]
    exact ⟨fun _ _ z => z, rfl⟩, fun β' H' x => by rw [rngL_length]; exact Nat.le_refl n⟩
/-- a tuple -/
theorem pxi_tup (ha : PX T X a fa) : PXI T X tg a (wTup fa) := ⟨fun W t => PI.weak (pi_tup (ha.run W t)) fun σ H Z ⟨β, ρ, S, hs, he, h⟩ => by
  refine ⟨β, ρ, S, hs, he, ?_⟩
  unfold wTup at h
  cases q : fa ρ S with
  | ok d S1 =>
    rw [q] at h
    cases d with
    | tup ds =>
      intro v β1 H1 x1 k1 r1
      obtain ⟨p, xs, rfl, h1, l⟩ := r1
      exact ⟨p, rfl, ⟨xs, h1⟩, h _ β1 H1 x1 k1 ⟨fun i d q β' H' x => by
        obtain ⟨v, g1, _⟩ := l.get q
        exact ⟨xs, v, x.tup h1, g1⟩, fun i d q β' H' x v H'' y => by
        obtain ⟨e, y⟩ := y
        subst e
        obtain ⟨u, g1, g2⟩ := l.get q
        have e2 : some u = some v := g1.symm.trans (y xs (x.tup h1))
        rw [← Option.some.inj e2]
        exact ⟨fun _ _ z => z, Rep.ext x d u g2⟩, fun β' H' x => ⟨xs, x.tup h1, by rw [l.length]; exact Nat.le_refl _⟩⟩⟩
    | _ => exact h.elim
  | exc c d S1 => rw [q] at h; exact h
  | bad => rw [q] at h; exact h⟩
/-- a list that is never changed -/
theorem pxi_lst (ha : PX T X a fa) : PXI T X tg a (wLst fa) := ⟨fun W t => PI.weak (pi_list (ha.run W t)) fun σ H Z ⟨β, ρ, S, hs, he, h⟩ => by
  refine ⟨β, ρ, S, hs, he, ?_⟩
  unfold wLst at h
  cases q : fa ρ S with
  | ok d S1 =>
    rw [q] at h
    cases d with
    | lst ds =>
      intro v β1 H1 x1 k1 r1
      obtain ⟨p, xs, rfl, h1, l⟩ := r1
      exact ⟨p, rfl, ⟨xs, h1.sq⟩, h _ β1 H1 x1 k1 (walks_lst (w := wo X T) h1 l)⟩
    | _ => exact h.elim
  | exc c d S1 => rw [q] at h; exact h
  | bad => rw [q] at h; exact h⟩
theorem pxi_range1 {p : Pos} {ga : AF} (hg : Gl X "range") (hm : X.mg "range" = none) (ha : PXA T X [a] ga) (hs : starEach [a] X.env = [(false, eval a X.env)] := by rfl) : PXI T X tg (.Call (.Name "range" p) [a] [] pos) (fRange1 ga) :=
  ⟨fun W t => PI.weak (pi_range1 hg hm (ha.run W t) hs) fun σ H Z ⟨β, ρ, S, hs, he, h⟩ => by
    refine ⟨β, ρ, S, hs, he, ?_⟩
    unfold fRange1 at h
    cases q : ga ρ S with
    | ok ds S1 =>
      rw [q] at h
      simp only [bind_ok] at h
      intro vs β1 H1 x1 k1 r1
      split at h
      · rename_i j
        obtain ⟨v, rfl, r⟩ := RepL.one r1
        split at h
        · rename_i hj
          refine ⟨j, by rw [show v = _ from r], hj.1, hj.2, h _ β1 H1 x1 k1 ?_⟩
          exact walks_rng
        · exact h.elim
      · exact h.elim
    | exc c d S1 => rw [q] at h; exact h
    | bad => rw [q] at h; exact h⟩
theorem pxi_range2 {p : Pos} {ga : AF} (hg : Gl X "range") (hm : X.mg "range" = none) (ha : PXA T X [a, b] ga) (hs : starEach [a, b] X.env = [(false, eval a X.env), (false, eval b X.env)] := by rfl) (hs2 : starEach [b] X.env = [(false, eval b X.env)] := by rfl) :
    PXI T X tg (.Call (.Name "range" p) [a, b] [] pos) (fRange2 ga) :=
  ⟨fun W t => PI.weak (pi_range2 hg hm (ha.run W t) hs hs2) fun σ H Z ⟨β, ρ, S, hs, he, h⟩ => by
    refine ⟨β, ρ, S, hs, he, ?_⟩
    unfold fRange2 at h
    cases q : ga ρ S with
    | ok ds S1 =>
      rw [q] at h
      simp only [bind_ok] at h
      intro vs β1 H1 x1 k1 r1
      split at h
      · rename_i i j
        obtain ⟨v, u, rfl, r, r2⟩ := RepL.two r1
        split at h
        · rename_i hj
          refine ⟨i, j, by rw [show v = _ from r, show u = _ from r2], hj, h _ β1 H1 x1 k1 ?_⟩
          exact walks_rng
        · exact h.elim
      · exact h.elim
    | exc c d S1 => rw [q] at h; exact h
    | bad => rw [q] at h; exact h⟩
/-! ### for -/
theorem px_for {iter : Expr} {body : List Stmt} {it : AF} {g : TgF} {gb : SF} (hp : PassesOwn (model X.prog X.w) X.A X.env X.xe) (hc : X.calm = true) {ws : List Nat} (hi : PXI T X tg iter it) (hg : PXG T X tg g ws) (hb : PXSs T X body gb)
    (hs : ∀ x, foldedSetIterable iter X.env x = pure x := by intro _; rfl) : PXS T X (.For tg iter body [] pos) (sFor it g gb) := by
  refine ⟨fun W tk => PS.weak (ps_for hp hc (hi.run W tk) hg.run (hb.run W tk) hs) fun D σ H ⟨β, ρ, S, hs, he, h⟩ => ?_⟩
  refine ⟨β, ρ, S, hs, he, ?_⟩
  unfold sFor at h
  cases q : it ρ S with
  | exc c d S1 => rw [q] at h; exact fun C dx v β1 H1 x k => h C dx v σ β1 H1 x k (he.ext x)
  | bad => rw [q] at h; exact h
  | ok ds S1 =>
    rw [q] at h
    intro J β1 H1 x1 k1 wk
    have h1 : postS (wo X T) W β1 H1 (forL g gb ds ρ S1) D := postS.ext h x1
    refine ⟨fun i m σ' H' => m = ds.length - i ∧ i ≤ ds.length ∧ ∃ β' ρ' S', Ext β1 H1 β' H' ∧ SOk (wo X T) β' H' S' ∧ RepE (wo X T) β' H' ρ' σ' ∧ postS (wo X T) W β' H' (forL g gb (ds.drop i) ρ' S') D,
      ⟨ds.length, by simp, Nat.zero_le _, β1, ρ, S1, .refl _ _, k1, he.ext x1, by simpa using h1⟩, ?_⟩
    rintro i m σ2 H2 ⟨rfl, hi2, β2, ρ2, S2, x2, k2, e2, q2⟩
    by_cases hlt : i < ds.length
    · have hd : ds[i]? = some ds[i] := List.getElem?_eq_getElem hlt
      rw [List.drop_eq_getElem_cons hlt] at q2
      simp only [forL] at q2
      cases qg : g ds[i] ρ2 with
      | none => rw [qg] at q2; exact q2.elim
      | some ρ3 =>
        rw [qg] at q2
        simp only at q2
        refine .inr ⟨wk.go i _ hd β2 H2 x2.toExtW, fun σ' H' => ∃ β' ρ' S', Ext β1 H1 β' H' ∧ SOk (wo X T) β' H' S' ∧ RepE (wo X T) β' H' ρ' σ' ∧ postS (wo X T) W β' H' (forL g gb (ds.drop (i + 1)) ρ' S') D,
          fun σ' H' z => ⟨ds.length - (i + 1), by omega, rfl, hlt, z⟩, fun x H' y => ?_⟩
        obtain ⟨sm, rx⟩ := wk.yld i _ hd β2 H2 x2.toExtW x H' y
        have xs : Ext β2 H2 β2 H' := .same sm
        refine ⟨β2, ds[i], ρ2, ρ3, rx, e2.ext xs.toExtW, qg, fun σ3 e3 _ => ⟨β2, ρ3, S2, k2.same sm, e3, ?_⟩⟩
        cases q3 : gb ρ3 S2 with
        | nx ρ4 S4 => rw [q3] at q2; exact fun σ4 β4 H4 x4 k4 e4 => ⟨β4, ρ4, S4, (x2.trans xs).trans x4, k4, e4, postS.ext q2 (xs.trans x4)⟩
        | ct ρ4 S4 => rw [q3] at q2; exact fun σ4 β4 H4 x4 k4 e4 => ⟨β4, ρ4, S4, (x2.trans xs).trans x4, k4, e4, postS.ext q2 (xs.trans x4)⟩
        | bk ρ4 S4 => rw [q3] at q2; exact postS.ext q2 xs
        | rt d4 S4 => rw [q3] at q2; exact postS.ext q2 xs
        | exc c4 d4 ρ4 S4 => rw [q3] at q2; exact postS.ext q2 xs
        | bad => rw [q3] at q2; exact q2
    · have e0 : i = ds.length := by omega
      subst e0
      rw [List.drop_length] at q2
      exact .inl ⟨wk.stop β2 H2 x2.toExtW, q2.nx_ k2 e2⟩
end
end DL


set_option linter.all false
set_option autoImplicit false
set_option Elab.async false
set_option maxRecDepth 100000
set_option maxHeartbeats 2000000
/-! DLw4: comprehensions; defs, their calls. -/
namespace DL
open PySem PySem.Spec L2
open PyProof.Rows hiding St b2i

section
variable {w : Wo} {β β' : Bt} {H H' : Hp} {p : Addr} {acc ys : List V}
/-! ### a hidden list changes -/
theorem FzL.hid {K : PySem.W.Frag} {a : Addr} {xs : List V} (hp : p ∈ β.h) (h : FzL K β H a xs) (hl : H p = some (.lst acc)) : FzL K β (upd H p (.lst ys)) a xs := by
  rcases h with ⟨h, n, n2⟩ | ⟨o, h⟩ | h
  · exact .inl ⟨by rw [upd_ne (fun z : a = p => n2 (z ▸ hp))]; exact h, n, n2⟩
  · exact .inr (.inl ⟨o, by rw [upd_ne (fun z => by rw [z, hl] at h; cases h)]; exact h⟩)
  · exact .inr (.inr h)
theorem SqT.chg {K : PySem.W.Frag} {a : Addr} {xs : List V} (h : SqT K H a xs) (hl : H p = some (.lst acc)) : SqT K (upd H p (.lst ys)) a xs := by
  rcases h with (h | ⟨o, h⟩) | h
  · exact .inl (.inl (by rw [upd_ne (fun z => by rw [z, hl] at h; cases h)]; exact h))
  · exact .inl (.inr ⟨o, by rw [upd_ne (fun z => by rw [z, hl] at h; cases h)]; exact h⟩)
  · exact .inr h
mutual
theorem Rep.hid (hp : p ∈ β.h) (hl : H p = some (.lst acc)) : ∀ (d : D) (v : V), Rep w β H d v → Rep w β (upd H p (.lst ys)) d v
  | .non, _, h => h
  | .bl _, _, h => h
  | .int _, _, h => h
  | .str _, _, h => h
  | .tup ds, _, ⟨a, xs, r, h, l⟩ => ⟨a, xs, r, SqT.chg h hl, RepL.hid hp hl ds xs l⟩
  | .lst ds, _, ⟨a, xs, r, h, l⟩ => ⟨a, xs, r, FzL.hid hp h hl, RepL.hid hp hl ds xs l⟩
  | .loc n, _, h => h
  | .exo c d, _, ⟨a, C, dx, x, r, h1, h2, h3, h4⟩ => ⟨a, C, dx, x, r, h1, by rw [upd_ne (fun z => by rw [z, hl] at h2; unfold ExV at h2; cases h2)]; exact h2, by rw [upd_ne (fun z => by rw [z, hl] at h3; cases h3)]; exact h3, Rep.hid hp hl d x h4⟩
  | .ty _, _, h => h
  | .cls _, _, h => h
  | .fn _, _, h => h
theorem RepL.hid (hp : p ∈ β.h) (hl : H p = some (.lst acc)) : ∀ (ds : List D) (vs : List V), RepL w β H ds vs → RepL w β (upd H p (.lst ys)) ds vs
  | [], _, h => h
  | d :: ds, _, ⟨x, xr, r, h, l⟩ => ⟨x, xr, r, Rep.hid hp hl d x h, RepL.hid hp hl ds xr l⟩
end
theorem SOk.hide {S : Sto} (k : SOk w β H S) (hp : p ∈ β.h) (hl : H p = some (.lst acc)) : SOk w β (upd H p (.lst ys)) S := by
  have np := (k.hid p hp).2
  refine ⟨fun q hq => TabS.chg (k.tabs q hq) hl, k.nodup, fun a ha => ⟨?_, (k.hid a ha).2⟩, k.len, fun n a ds e1 e2 => ?_⟩
  · by_cases z : a = p
    · exact ⟨ys, by rw [z, upd_same]⟩
    · obtain ⟨zs, e⟩ := (k.hid a ha).1
      exact ⟨zs, by rw [upd_ne z]; exact e⟩
  · obtain ⟨xs, h1, h2⟩ := k.at_ n a ds e1 e2
    refine ⟨xs, ?_, RepL.hid hp hl ds xs h2⟩
    rw [upd_ne (fun z : a = p => np (z ▸ List.mem_of_getElem? e1))]
    exact h1
theorem RepE.hide {ρ : Env} {σ : St} (k : RepE w β H ρ σ) (hp : p ∈ β.h) (hl : H p = some (.lst acc)) : RepE w β (upd H p (.lst ys)) ρ σ := ⟨k.1, fun i d h => by
  obtain ⟨v, h1, h2⟩ := k.2 i d h
  exact ⟨v, h1, Rep.hid hp hl d v h2⟩⟩
theorem wipe_of {σ σ' : St} : ∀ {vs : List Nat} {ws : List Nat}, Outof ws σ σ' → (∀ i ∈ ws, i ∈ vs) → wipe σ' vs = wipe σ vs := by
  intro vs ws o hw
  have key : ∀ (us : List Nat) (τ : St) (i : Nat), (wipe τ us)[i]? = if i ∈ us then (if i < τ.length then some none else none) else τ[i]? := by
    intro us
    induction us with
    | nil => intro τ i; simp [wipe]
    | cons u us ih =>
      intro τ i
      unfold wipe
      by_cases hu : u = i
      · subst hu
        by_cases hl : u < (wipe τ us).length
        · rw [List.getElem?_set_self hl]
          rw [wipe_length] at hl
          simp [hl]
        · rw [List.getElem?_eq_none (by simpa using hl)]
          rw [wipe_length] at hl
          simp [hl]
      · rw [List.getElem?_set_ne hu, ih]
        have : (i ∈ u :: us) ↔ i ∈ us := by simp [Ne.symm hu]
        simp only [this]
  apply List.ext_getElem?
  intro i
  rw [key, key]
  split
  · rw [o.1]
  · rename_i h
    exact o.2 i (fun z => h (hw i z))
end

section
variable {T : List (Addr × Str)} {X : Cx} {elt tg iter : Expr} {ifs : List Expr} {scope : Scope} {own : List (Str × Nat)} {pos : Pos} {it : AF} {g : TgF} {t : TF} {f : EF} {ws : List Nat}
/-- tests of a clause -/
structure PXTs (T : List (Addr × Str)) (X : Cx) (ifs : List Expr) (t : TF) : Prop where
  run : ∀ W, Takes X W → PTs X ifs (tT (wo X T) W t)
theorem PTs.weak {X : Cx} {e : List Expr} {t t' : TT} (h : PTs X e t) (k : ∀ σ H Q, t' σ H Q → t σ H Q) : PTs X e t' := ⟨fun pins s σ H Q I q => h.run pins s σ H Q I (k σ H Q q)⟩
theorem pxts_nil : PXTs T X [] DL.tYes := ⟨fun W _ => PTs.weak pts_nil fun σ H Q ⟨β, ρ, S, hs, he, h⟩ => postT.val h hs⟩
theorem pxts_one {c : Expr} (h : PXT T X c t) : PXTs T X [c] t := ⟨fun W tk => pts_one (h.run W tk)⟩
abbrev noW : WX := fun _ _ _ _ => False
theorem takesNo {X : Cx} : Takes X noW := fun _ _ x => by
  obtain ⟨_, _, _, _, _, _, _, _, _, _, _, _, _, _, _, _, z⟩ := x
  exact z.elim
theorem comp_read {W : WX} {vs : List Nat} (hw : ∀ i ∈ ws, i ∈ vs) {σ : St} {H : Hp} {Q : VK} (h : tE (wo X T) W (eComp vs it g t f) σ H Q) :
    tLc (tI (wo X T) W it) (tG (wo X T) g ws) (tT (wo X T) noW t) (tE (wo X T) noW f) vs σ H Q := by
  obtain ⟨β, ρ, S, hs, he, h⟩ := h
  refine ⟨β, ρ, S, hs, he, ?_⟩
  unfold eComp at h
  cases q : it ρ S with
  | exc c d S1 => rw [q] at h; exact h
  | bad => rw [q] at h; exact h
  | ok ds S1 =>
    rw [q] at h
    simp only [bind_ok] at h
    intro J β1 H1 x1 k1 wk D hD
    split at h
    · rename_i hz
      have h1 := post.ext h x1
      have nD := notin_of k1 hD
      -- the state of the turns
      refine ⟨fun i m H' => m = ds.length - i ∧ i ≤ ds.length ∧ ∃ (β' : Bt) (S' : Sto) (ys : List DL.D) (acc : List V), β'.h = D :: β1.h ∧ Ext β1 H1 ⟨β'.l, β1.h⟩ H' ∧ SOk (wo X T) β' H' S' ∧ RepE (wo X T) β' H' ρ σ ∧
        H' D = some (.lst acc) ∧ RepL (wo X T) β' H' ys acc ∧ acc.length ≤ i ∧ post (wo X T) W σ β1 H1 ((compL vs g t f ρ (ds.drop i) S').bind fun zs S => .ok (.lst (ys ++ zs)) S) Q, ?_, ?_⟩
      · -- start
        have xn : Ext β1 H1 β1 (upd H1 D (.lst [])) := Ext.new hD
        have xw : ExtW β1 H1 ⟨β1.l, D :: β1.h⟩ (upd H1 D (.lst [])) := ⟨⟨[], by simp, fun _ z => nomatch z⟩, fun a ha => by
          rcases List.mem_cons.mp ha with z | z
          · exact .inr (by rw [z]; exact .of hD)
          · exact .inl z, xn.keep, xn.lsts, xn.dom⟩
        refine ⟨ds.length, by simp, Nat.zero_le _, ⟨β1.l, D :: β1.h⟩, S1, [], [], rfl, xn, ⟨k1.tabs.ext (same_upd hD), k1.nodup, fun a ha => ?_, k1.len, fun n a es e1 e2 => ?_⟩, (he.ext x1.toExtW).ext xw, upd_same, rfl, Nat.le_refl _, ?_⟩
        · rcases List.mem_cons.mp ha with z | z
          · rw [z, upd_same]; exact ⟨⟨[], rfl⟩, nD.1⟩
          · exact ⟨(k1.hid a z).1.imp fun zs e => xn.lsts a zs e (k1.hid a z).2, (k1.hid a z).2⟩
        · obtain ⟨xs, g1, g2⟩ := k1.at_ n a es e1 e2
          exact ⟨xs, same_upd hD _ _ g1, RepL.ext xw es xs g2⟩
        · simpa using h1
      · rintro i m H2 ⟨rfl, hi, β2, S2, ys, acc, hh, x2, k2, e2, hacc, racc, hle, q2⟩
        have mD : D ∈ β2.h := by rw [hh]; exact List.mem_cons_self
        have nD2 := (k2.hid D mD).2
        have w2 : ExtW β1 H1 β2 H2 := ⟨x2.pre, fun a ha => by
          rw [hh] at ha
          rcases List.mem_cons.mp ha with z | z
          · exact .inr (by rw [z]; exact .of hD)
          · exact .inl z, x2.keep, x2.lsts, x2.dom⟩
        by_cases hlt : i < ds.length
        · have hd : ds[i]? = some ds[i] := List.getElem?_eq_getElem hlt
          rw [List.drop_eq_getElem_cons hlt] at q2
          simp only [compL] at q2
          cases qg : g ds[i] (wipeE ρ vs) with
          | none => rw [qg] at q2; exact q2.elim
          | some ρ3 =>
            rw [qg] at q2
            simp only at q2
            refine .inr ⟨wk.go i _ hd β2 H2 w2, fun H' => i + 1 ≤ ds.length ∧ ∃ (β' : Bt) (S' : Sto) (ys : List DL.D) (acc : List V), β'.h = D :: β1.h ∧ Ext β1 H1 ⟨β'.l, β1.h⟩ H' ∧ SOk (wo X T) β' H' S' ∧ RepE (wo X T) β' H' ρ σ ∧
              H' D = some (.lst acc) ∧ RepL (wo X T) β' H' ys acc ∧ acc.length ≤ i + 1 ∧ post (wo X T) W σ β1 H1 ((compL vs g t f ρ (ds.drop (i + 1)) S').bind fun zs S => .ok (.lst (ys ++ zs)) S) Q,
              fun H' z => ⟨ds.length - (i + 1), by omega, rfl, z⟩, fun x H' y => ?_⟩
            obtain ⟨sm, rx⟩ := wk.yld i _ hd β2 H2 w2 x H' y
            have xs : Ext β2 H2 β2 H' := .same sm
            have xs' : Ext ⟨β2.l, β1.h⟩ H2 ⟨β2.l, β1.h⟩ H' := .same sm
            refine ⟨β2, ds[i], wipeE ρ vs, ρ3, rx, (e2.ext xs.toExtW).wipe vs, qg, fun σ3 e3 o3 => ?_⟩
            have hwp : wipe (wipe σ vs) vs = wipe σ vs := by
              refine wipe_of (ws := vs) ⟨wipe_length σ vs, fun j hj => ?_⟩ fun _ h => h
              exact wipe_out hj
            refine ⟨(wipe_of o3 hw).trans hwp, β2, ρ3, S2, k2.same sm, e3, ?_⟩
            have cont : ∀ (β4 : Bt) (H4 : Hp) (S4 : Sto), Ext β2 H' β4 H4 → β4.h = D :: β1.h ∧ Ext β1 H1 ⟨β4.l, β1.h⟩ H4 ∧ H4 D = some (.lst acc) ∧ RepE (wo X T) β4 H4 ρ σ ∧ Ext ⟨β2.l, β1.h⟩ H2 ⟨β4.l, β1.h⟩ H4 := fun β4 H4 S4 x4 => by
              have x24 := xs.trans x4
              have y4 : Ext ⟨β2.l, β1.h⟩ H2 ⟨β4.l, β1.h⟩ H4 := ⟨⟨x24.pre, fun a ha => .inl ha, x24.keep, x24.lsts, x24.dom⟩, rfl⟩
              exact ⟨x4.heq.trans hh, x2.trans y4, x24.lsts D acc hacc nD2, e2.ext x24.toExtW, y4⟩
            cases qt : t ρ3 S2 with
            | exc c d S3 => rw [qt] at q2; exact q2.elim
            | bad => rw [qt] at q2; exact q2.elim
            | ok b S3 =>
              rw [qt] at q2
              intro β3 H3 x3 k3
              cases b with
              | false =>
                simp only [Bool.false_eq_true, if_false]
                simp only at q2
                obtain ⟨a1, a2, a3, a4, a5⟩ := cont β3 H3 S3 x3
                exact ⟨hlt, β3, S3, ys, acc, a1, a2, k3, a4, a3, RepL.ext (xs.trans x3).toExtW ys acc racc, by omega, q2⟩
              | true =>
                simp only [if_true]
                simp only at q2
                refine ⟨β3, ρ3, S3, k3, e3.ext x3.toExtW, ?_⟩
                cases qf : f ρ3 S3 with
                | exc c d S4 => rw [qf] at q2; exact q2.elim
                | bad => rw [qf] at q2; exact q2.elim
                | ok y0 S4 =>
                  rw [qf] at q2
                  simp only at q2
                  intro v β4 H4 x4 k4 r4
                  obtain ⟨a1, a2, a3, a4, a5⟩ := cont β4 H4 S4 (x3.trans x4)
                  have m4 : D ∈ β4.h := by rw [a1]; exact List.mem_cons_self
                  have racc4 := RepL.ext (xs.trans (x3.trans x4)).toExtW ys acc racc
                  have nD4 := (k4.hid D m4).2
                  -- the list with one item more
                  have xu : Ext β1 H1 ⟨β4.l, β1.h⟩ (upd H4 D (.lst (acc ++ [v]))) := ⟨⟨a2.pre, fun a ha => .inl ha, fun a o e n1 n2 => by
                      rw [upd_ne (ne_of_none e hD)]; exact a2.keep a o e n1 n2, fun a zs e n => by
                      rw [upd_ne (ne_of_none e hD)]; exact a2.lsts a zs e n, fun a n o e => by
                      by_cases z : a = D
                      · rw [z, hD] at e; cases e
                      · exact a2.dom a (fun o e => n o (by rw [upd_ne z]; exact e)) o e⟩, rfl⟩
                  refine ⟨acc, a3, ?_, hlt, β4, S4, ys ++ [y0], acc ++ [v], a1, xu, k4.hide m4 a3, a4.hide m4 a3, upd_same, RepL.append (RepL.hid m4 a3 ys acc racc4) ⟨v, [], rfl, Rep.hid m4 a3 y0 v r4, rfl⟩, by simp; omega, ?_⟩
                  · rw [sizeLine_eq]; omega
                  · have q3 := q2
                    have eq : ((compL vs g t f ρ (ds.drop (i + 1)) S4).bind fun ys' S => .ok (y0 :: ys') S).bind (fun zs S => R.ok (DL.D.lst (ys ++ zs)) S) = (compL vs g t f ρ (ds.drop (i + 1)) S4).bind fun zs S => R.ok (DL.D.lst (ys ++ [y0] ++ zs)) S := by
                      cases compL vs g t f ρ (ds.drop (i + 1)) S4 <;> simp
                    rw [← eq]
                    exact q3
        · have e0 : i = ds.length := by omega
          subst e0
          rw [List.drop_length] at q2
          simp only [compL, bind_ok, List.append_nil] at q2
          have wf : ExtW β2 H2 ⟨β2.l, β1.h⟩ H2 := ⟨⟨[], by simp, fun _ z => nomatch z⟩, fun a ha => .inl (by rw [hh]; exact List.mem_cons_of_mem _ ha), fun _ _ e _ _ => e, fun _ _ e _ => e, fun _ e => e⟩
          refine .inl ⟨wk.stop β2 H2 w2, q2 (.ref D) ⟨β2.l, β1.h⟩ H2 x2 ⟨k2.tabs, k2.nodup, fun a ha => k2.hid a (by rw [hh]; exact List.mem_cons_of_mem _ ha), k2.len, fun n a es e1 e2 => ?_⟩ ⟨D, acc, rfl, .inl ⟨hacc, nD2, nD.2⟩, RepL.ext wf ys acc racc⟩⟩
          obtain ⟨xs, g1, g2⟩ := k2.at_ n a es e1 e2
          exact ⟨xs, g1, RepL.ext wf es xs g2⟩
    · exact h.elim
end
end DL


set_option linter.all false
set_option autoImplicit false
set_option Elab.async false
set_option maxRecDepth 100000
set_option maxHeartbeats 2000000
/-! DLw5: comprehensions as rules; defs and calls; forgetting lists. -/
namespace DL
open PySem PySem.Spec L2
open PyProof.Rows hiding St b2i

section
variable {T : List (Addr × Str)} {X : Cx} {elt tg iter : Expr} {ifs : List Expr} {scope : Scope} {own : List (Str × Nat)} {pos : Pos} {it : AF} {g : TgF} {t : TF} {f : EF} {ws : List Nat}
theorem px_comp (hc : X.calm = true) (hN : X.N.Nodup) (hi : PXI T X tg iter it) (ok : BlkOk X.N X.env.scope scope own)
    (hg : ∀ (s : Shared) (H : Hp) (C : Addr) (cl : List (Str × Addr)) (fp : List Addr), PXG T (X.blk s H scope (compEnvC scope cl C X.env) fp) tg g ws)
    (ht : ∀ (s : Shared) (H : Hp) (C : Addr) (cl : List (Str × Addr)) (fp : List Addr), PXTs T (X.blk s H scope (compEnvC scope cl C X.env) fp) ifs t)
    (he : ∀ (s : Shared) (H : Hp) (C : Addr) (cl : List (Str × Addr)) (fp : List Addr), PX T (X.blk s H scope (compEnvC scope cl C X.env) fp) elt f)
    (hw : ∀ i ∈ ws, i ∈ own.map (·.2)) (hs : ∀ x, foldedSetIterable iter X.env x = pure x := by intro _; rfl) : PX T X (.ListComp elt [⟨tg, iter, ifs, 0⟩] scope pos) (eComp (own.map (·.2)) it g t f) :=
  ⟨fun W tk => PE.weak (pe_lc hc hN (hi.run W tk) ok (fun s H C cl fp => (hg s H C cl fp).run) (fun s H C cl fp => (ht s H C cl fp).run noW takesNo) (fun s H C cl fp => (he s H C cl fp).run noW takesNo) hs) fun σ H Q h => comp_read hw h⟩
/-- name = [..] on one line -/
theorem px_setComp (i : Nat) {y : Str} {py spos : Pos} (hc : X.calm = true) (hN : X.N.Nodup) (hi : PXI T X tg iter it) (ok : BlkOk X.N X.env.scope scope own)
    (hg : ∀ (s : Shared) (H : Hp) (C : Addr) (cl : List (Str × Addr)) (fp : List Addr), PXG T (X.blk s H scope (compEnvC scope cl C X.env) fp) tg g ws)
    (ht : ∀ (s : Shared) (H : Hp) (C : Addr) (cl : List (Str × Addr)) (fp : List Addr), PXTs T (X.blk s H scope (compEnvC scope cl C X.env) fp) ifs t)
    (he : ∀ (s : Shared) (H : Hp) (C : Addr) (cl : List (Str × Addr)) (fp : List Addr), PX T (X.blk s H scope (compEnvC scope cl C X.env) fp) elt f)
    (hw : ∀ i ∈ ws, i ∈ own.map (·.2)) (hsw : swapsWith (.ListComp elt [⟨tg, iter, ifs, 0⟩] scope pos) (some (.Name y py)) spos.line X.env = pure true)
    (hy : X.N[i]? = some y := by rfl) (hyl : X.env.scope.names.lookup y = some .local := by rfl) (hs : ∀ x, foldedSetIterable iter X.env x = pure x := by intro _; rfl) :
    PXS T X (.Assign [.Name y py] (.ListComp elt [⟨tg, iter, ifs, 0⟩] scope pos) spos) (sSet i (eComp (own.map (·.2)) it g t f)) :=
  ⟨fun W tk => PS.weak (ps_setLc hc hN hy hyl hsw (hi.run W tk) ok (fun s H C cl fp => (hg s H C cl fp).run) (fun s H C cl fp => (ht s H C cl fp).run noW takesNo) (fun s H C cl fp => (he s H C cl fp).run noW takesNo) hs)
    fun D σ H ⟨β, ρ, S, hs, he, h⟩ => comp_read hw (tE_st hs he h fun d S1 v β1 H1 x1 k1 e1 r1 q1 => q1.nx_ k1 (e1.set r1 i))⟩
end

/-! ### defs -/
def postF (w : Wo) (β : Bt) (H : Hp) (r : R D) (Q : VK) (E : XK) : Prop := match r with
  | .ok d S => ∀ v β' H', Ext β H β' H' → SOk w β' H' S → Rep w β' H' d v → Q v H'
  | .exc c d S => ∀ C dx v β' H', Ext β H β' H' → SOk w β' H' S → w.mg c = some (.ref C) → H' dx = some (.xd [(("value" : Str), v)]) → Rep w β' H' d v → E (.ref C) (some dx) H'
  | .bad => False
def spD (w : Wo) (fn : FN) : Sp := fun vs H Q E => ∃ β ds S, SOk w β H S ∧ RepL w β H ds vs ∧ postF w β H (fn ds S) Q E
/-- a def's promise, where no repr is under way -/
structure FnG (P : Program) (w : World) (K : PySem.W.Frag) (mg : Str → Option Value) (base : Heap) (T : List (Addr × Str)) (gd : Bool) (k : Nat) (f : Addr) (fd : FuncData) (ps : List Str) (fn : FN) : Prop where
  len : ∀ ds S, fn ds S ≠ .bad → ds.length = ps.length
  run : ∀ (A : Around) (outer : List PySem.Env) (s : Shared) (H : Hp) (args : Args) (us : List Value) (vs : List V) (Q : VK) (E : XK), (gd = true → A.guards = some []) → Room k A → Env0 P w K mg base A outer s H → BindsTo s fd args (ps.zip us) → Vals vs us → spD ⟨K, mg, T⟩ fn vs H Q E →
    codeAny (model P w) A (.call (.ref f) args) (CR (L2.CX P w) outer P w H s Q E) s
theorem FnG.mono {P : Program} {w : World} {K : PySem.W.Frag} {mg : Str → Option Value} {base : Heap} {T : List (Addr × Str)} {gd : Bool} {j k : Nat} {f : Addr} {fd : FuncData} {ps : List Str} {fn : FN} (F : FnG P w K mg base T gd j f fd ps fn) (h : j ≤ k) : FnG P w K mg base T gd k f fd ps fn :=
  ⟨F.len, fun A outer s H args us vs Q E hg hr => F.run A outer s H args us vs Q E hg (hr.mono h)⟩
theorem rep_start {w : Wo} {β : Bt} {H : Hp} {n : Nat} {N : List Str} {ds : List D} {vs : List V} (hn : N.length = n) (l : RepL w β H ds vs) : RepE w β H (DL.start n ds) (L2.start N vs) := by
  have hl := l.length
  unfold DL.start L2.start
  rw [hn, ← hl]
  refine ⟨by simp [hl], fun i d e => ?_⟩
  by_cases hi : i < ds.length
  · rw [List.getElem?_append_left (by simpa using hi)] at e
    rw [List.getElem?_append_left (by simp; omega)]
    rw [List.getElem?_map] at e ⊢
    cases q : ds[i]? with
    | none => rw [q] at e; cases e
    | some d' =>
      rw [q] at e
      cases e
      obtain ⟨v, h1, h2⟩ := l.get q
      exact ⟨v, by rw [h1]; rfl, h2⟩
  · rw [List.getElem?_append_right (by simpa using hi)] at e
    have := List.mem_of_getElem? e
    rw [List.mem_replicate] at this
    cases this.2
section
variable {P : Program} {w : World} {K : PySem.W.Frag} {mg : Str → Option Value} {base : Heap} {T : List (Addr × Str)}
/-- a def by its body's mirror -/
theorem fnG_of {gd : Bool} {k : Nat} {f : Addr} {name qual : Str} {st : Stmt} {oc : Value} {od an : Option Addr} {osl : Array (Option Value)} {kV doc pm cdv ct : Value} {N ps : List Str} {m n : Nat} {g : SF}
    (lk : K.lookup f = some ⟨oc, od, .func (PySem.W.fnOf name qual (defArgs st) (defBody st) (defScope st) .none kV doc pm an cdv ct), osl⟩) (hcd : PySem.W.codeIn K cdv qual = true) (Sc : FnScope N ps (defScope st)) (hm : ps.length = m) (hn : N.length = n)
    (body : ∀ (A : Around) (outer : List PySem.Env) (s : Shared) (H : Hp) (E : XK), (gd = true → A.guards = some []) → Room k (A.deeper (envOfC qual (defScope st) s.heap.objs.size f cdv)) → PXSs T (cxOf (L2.CX P w) P w K mg base N qual (defScope st) f cdv A outer s H E) (defBody st) g) :
    FnG P w K mg base T gd (k + 1) f (PySem.W.fnOf name qual (defArgs st) (defBody st) (defScope st) .none kV doc pm an cdv ct) ps (mkFn m n g) := by
  have len : ∀ ds S, mkFn m n g ds S ≠ .bad → ds.length = m := fun ds S h => by
    unfold mkFn at h
    by_cases z : ds.length = m
    · exact z
    · rw [if_neg z] at h; exact absurd rfl h
  refine ⟨fun ds S h => (len ds S h).trans hm.symm, fun A outer s H args us vs Q E hg hr e0 hb r hs => ?_⟩
  obtain ⟨β, ds, S, hs, l, h⟩ := hs
  have hd : ds.length = m := len ds S fun z => by rw [z] at h; exact h
  refine LamX.run_ofS lk hcd Sc hr e0 hb r (by rw [← l.length, hd, hm]) fun hr' => ?_
  refine ⟨_, (body A outer s H E hg hr').run (fun cls d _ H => E cls d H) (takes_of rfl rfl rfl rfl), β, DL.start n ds, S, hs, rep_start hn l, ?_⟩
  unfold mkFn at h
  rw [if_pos hd] at h
  show postS ⟨K, mg, T⟩ _ β H (g (DL.start n ds) S) _
  cases q : g (DL.start n ds) S with
  | nx ρ S1 => rw [q] at h; exact fun σ' β' H' x k1 _ => h .non β' H' x k1 rfl
  | rt d S1 => rw [q] at h; exact h
  | exc c d ρ S1 => rw [q] at h; exact fun C dx v σ' β' H' x k1 _ => h C dx v β' H' x k1
  | bk ρ S1 => rw [q] at h; exact h.elim
  | ct ρ S1 => rw [q] at h; exact h.elim
  | bad => rw [q] at h; exact h.elim

/-! forgetting lists -/
theorem low_get {β : Bt} {n m : Nat} {a : Addr} (h : β.l[m]? = some a) (hm : m < n) : (β.l.take n)[m]? = some a := by
  rw [List.getElem?_take, if_pos hm]; exact h
theorem FzL.low {K : PySem.W.Frag} {β : Bt} {H : Hp} {a : Addr} {xs : List V} (n : Nat) (h : FzL K β H a xs) : FzL K ⟨β.l.take n, β.h⟩ H a xs := by
  rcases h with ⟨h, n1, n2⟩ | h
  · exact .inl ⟨h, fun z => n1 (List.mem_of_mem_take z), n2⟩
  · exact .inr h
mutual
theorem Rep.low {w : Wo} {β : Bt} {H : Hp} {n : Nat} : ∀ (d : D) (v : V), d.low n = true → Rep w β H d v → Rep w ⟨β.l.take n, β.h⟩ H d v
  | .non, _, _, h => h
  | .bl _, _, _, h => h
  | .int _, _, _, h => h
  | .str _, _, _, h => h
  | .tup ds, _, z, ⟨a, xs, r, h, l⟩ => ⟨a, xs, r, h, RepL.low ds xs (by simpa [D.low] using z) l⟩
  | .lst ds, _, z, ⟨a, xs, r, h, l⟩ => ⟨a, xs, r, FzL.low n h, RepL.low ds xs (by simpa [D.low] using z) l⟩
  | .loc m, _, z, ⟨a, r, h⟩ => ⟨a, r, low_get h (by simpa [D.low] using z)⟩
  | .exo c d, _, z, ⟨a, C, dx, x, r, h1, h2, h3, h4⟩ => ⟨a, C, dx, x, r, h1, h2, h3, Rep.low d x (by simpa [D.low] using z) h4⟩
  | .ty _, _, _, h => h
  | .cls _, _, _, h => h
  | .fn _, _, _, h => h
theorem RepL.low {w : Wo} {β : Bt} {H : Hp} {n : Nat} : ∀ (ds : List D) (vs : List V), D.lowL n ds = true → RepL w β H ds vs → RepL w ⟨β.l.take n, β.h⟩ H ds vs
  | [], _, _, h => h
  | d :: ds, _, z, ⟨x, xr, r, h, l⟩ => by
    simp only [D.lowL, Bool.and_eq_true] at z
    exact ⟨x, xr, r, Rep.low d x z.1 h, RepL.low ds xr z.2 l⟩
end
theorem SOk.low {w : Wo} {β : Bt} {H : Hp} {S : Sto} {n : Nat} (k : SOk w β H S) (hn : n ≤ S.length) (h : (S.take n).all (D.lowL n) = true) : SOk w ⟨β.l.take n, β.h⟩ H (S.take n) := by
  refine ⟨k.tabs, k.nodup.sublist (List.take_sublist n β.l), fun a ha => ⟨(k.hid a ha).1, fun z => (k.hid a ha).2 (List.mem_of_mem_take z)⟩, by simp [k.len], fun m a ds e1 e2 => ?_⟩
  have e1 : (β.l.take n)[m]? = some a := e1
  rw [List.getElem?_take] at e1
  split at e1
  · rename_i hm
    have hd : ds ∈ S.take n := List.mem_of_getElem? e2
    rw [List.getElem?_take, if_pos hm] at e2
    obtain ⟨xs, h1, h2⟩ := k.at_ m a ds e1 e2
    exact ⟨xs, h1, RepL.low ds xs (List.all_eq_true.mp h ds hd) h2⟩
  · cases e1
theorem Ext.low {β β' : Bt} {H H' : Hp} (e : Ext β H β' H') : Ext β H ⟨β'.l.take β.l.length, β'.h⟩ H' := by
  obtain ⟨ν, e1, f1⟩ := e.pre
  refine ⟨⟨⟨[], ?_, fun _ z => nomatch z⟩, e.hid, e.keep, e.lsts, e.dom⟩, e.heq⟩
  show β'.l.take β.l.length = β.l ++ []
  rw [e1]; simp
theorem Ext.len {β β' : Bt} {H H' : Hp} (e : Ext β H β' H') : β.l.length ≤ β'.l.length := by
  obtain ⟨ν, e1, _⟩ := e.pre
  rw [e1]; simp
theorem FnG.drop {gd : Bool} {k : Nat} {f : Addr} {fd : FuncData} {ps : List Str} {fn : FN} (F : FnG P w K mg base T gd k f fd ps fn) : FnG P w K mg base T gd k f fd ps (DL.drop fn) := by
  refine ⟨fun ds S h => F.len ds S fun z => h (by unfold DL.drop; rw [z]), fun A outer s H args us vs Q E hg hr e0 hb r hs => F.run A outer s H args us vs Q E hg hr e0 hb r ?_⟩
  obtain ⟨β, ds, S, hs, l, h⟩ := hs
  refine ⟨β, ds, S, hs, l, ?_⟩
  unfold DL.drop at h
  cases q : fn ds S with
  | ok d S1 =>
    rw [q] at h
    simp only at h
    split at h
    · rename_i z
      rw [Bool.and_eq_true] at z
      intro v β' H' x k1 r1
      have hl : S.length ≤ S1.length := by rw [← hs.len, ← k1.len]; exact x.len
      refine h v ⟨β'.l.take S.length, β'.h⟩ H' ?_ (k1.low hl z.2) (Rep.low d v z.1 r1)
      rw [← hs.len]
      exact x.low
    · exact h.elim
  | exc c d S1 =>
    rw [q] at h
    simp only at h
    split at h
    · rename_i z
      rw [Bool.and_eq_true] at z
      intro C dx v β' H' x k1 m1 m2 r1
      have hl : S.length ≤ S1.length := by rw [← hs.len, ← k1.len]; exact x.len
      refine h C dx v ⟨β'.l.take S.length, β'.h⟩ H' ?_ (k1.low hl z.2) m1 m2 (Rep.low d v z.1 r1)
      rw [← hs.len]
      exact x.low
    · exact h.elim
  | bad => rw [q] at h; exact h.elim
end

/-! ### calls -/
section
variable {T : List (Addr × Str)} {X : Cx} {gd : Bool} {k : Nat} {f : Addr} {fd : FuncData} {ps : List Str} {fn : FN} {x : Str} {p pos : Pos} {e : Expr} {es : List Expr} {ga : AF} {E : XK}
theorem run_fnG {pins : List (Addr × Obj)} {σ : St} {H : Hp} {s : Shared} {Q : VK} {us : List Value} {vs : List V} (F : FnG X.prog X.w X.K X.mg X.base T gd k f fd ps fn) (hr : Room k X.A) (hgd : gd = true → X.A.guards = some []) (hb : L2.Binds X.K fd ps []) (hx : PassesAt (L2.CX X.prog X.w) X σ E)
    (I : Inv X pins σ H s) (r : Vals vs us) (h : spD (wo X T) fn vs H Q E) : wpAny (model X.prog X.w) X.A (call (.ref f) us) (EP X pins σ Q) X.xe s := by
  have hl : us.length = ps.length := by
    obtain ⟨β, ds, S, hs, l, h⟩ := h
    rw [← r.length, ← l.length]
    exact F.len ds S fun z => by rw [z] at h; exact h
  have b := hb s us I.kIn (by rw [List.append_nil]; exact hl)
  rw [List.append_nil] at b
  refine wpAny_call (codeAny_mono (F.run X.A X.stack s H ⟨us, []⟩ us vs Q E hgd hr I.env0 b r h) fun r s' hq => ?_)
  match r, hq with
  | .error e, hq => exact hx pins H s e s' I hq
  | .ok (.ret u), hq => exact I.after hq
theorem px_call (F : FnG X.prog X.w X.K X.mg X.base T gd k f fd ps fn) (hr : Room k X.A) (hgd : gd = true → X.A.guards = some []) (hm : X.mg x = some (.ref f)) (hk : PySem.W.keepIn X.K (.ref f) = true) (hb : L2.Binds X.K fd ps [])
    (ha : PXA T X (e :: es) ga) (hg : Gl X x := by rfl) (hdb : (x == ("__debug__" : Str)) = false := by decide) (he : starEach (e :: es) X.env = (false, eval e X.env) :: starEach es X.env := by rfl) (hpl : (backTo pos (starEach es X.env)).any (·.1) = false := by rfl) :
    PX T X (.Call (.Name x p) (e :: es) [] pos) (eCall fn ga) := by
  refine ⟨fun W t => ⟨fun pins s σ H Q I h => ?_⟩⟩
  refine wpAny_Call_Name_kw (ld_glob I hg hm ?_ hdb)
  obtain ⟨β, ρ, S, hs, he', h⟩ := h
  have ha' := (ha.run W t).run pos pins s σ H (fun vs H1 => spD (wo X T) fn vs H1 Q (WE W σ)) I (tA_bind hs he' h fun ds S1 vs β1 H1 x1 k1 e1 r1 q1 => ⟨β1, ds, S1, k1, r1, by
    cases q : fn ds S1 with
    | ok d S2 => rw [q] at q1; exact q1
    | exc c d S2 => rw [q] at q1; exact q1
    | bad => rw [q] at q1; exact q1⟩)
  refine PySem.W.callWith_K (h₀ := X.base) I.ok.mod.kin hk (thn ha' fun us s1 ⟨vs, H1, I1, r, q⟩ => ⟨I1.kIn, ?_⟩) he hpl
  exact run_fnG F hr hgd hb (passAt t σ) I1 r q
end
end DL


set_option linter.all false
set_option autoImplicit false
set_option Elab.async false
set_option maxRecDepth 100000
set_option maxHeartbeats 2000000
/-! DLw6: built-ins: repr, isinstance, list(range), tuple, slices, append; names of the module. -/
namespace DL
open PySem PySem.Spec L2
open PyProof.Rows hiding St b2i

section
variable {T : List (Addr × Str)} {X : Cx} {a b c e : Expr} {fa fb fc : EF} {pos p : Pos} {ga : AF} {es : List Expr}

/-! ### repr -/
def rReprD (K : PySem.W.Frag) : List V → Hp → VK → Prop := fun xs H Q => ∃ x d, xs = [x] ∧ Dp K H x d ∧ d.showable = true ∧ d.canLay0 = true ∧ d.shown.length ≤ sizeLine ∧ d.depth ≤ 60 ∧ Q (.str d.shown) H
theorem call_reprD (hg : X.A.guards = some []) (hu : X.A.units + 64 < cLine) : CallR X (.builtin "repr") (rReprD X.K) := by
  intro pins s σ H xs us Q I r h
  obtain ⟨x, d, rfl, hd, h1, h2, h3, h4, q⟩ := h
  obtain ⟨u, rfl, rx⟩ := vals1 r
  obtain ⟨as, rd⟩ := Dp.reads I d x u hd rx
  cases hd with
  | non =>
    cases (show u = Value.none from rx)
    exact PySem.P.repr_of_none ⟨.str _, H, I.tok _, ⟨_, rfl⟩, q⟩
  | bl b =>
    cases (show u = Value.bool b from rx)
    exact PySem.P.repr_of_bool ⟨.str _, H, I.tok _, ⟨s.toks, by simp only [PyData.shown]⟩, q⟩
  | int i =>
    obtain ⟨t, rfl⟩ := rx
    exact PySem.P.repr_of_int (of_decide_eq_true (by simpa [PyData.showable] using h1)) ⟨.str _, H, I.tok _, ⟨s.toks, by simp only [PyData.shown]⟩, q⟩
  | str z =>
    obtain ⟨t, rfl⟩ := rx
    exact PySem.P.repr_of_str ⟨.str _, H, I.tok _, ⟨s.toks, by simp only [PyData.shown]⟩, q⟩ (by simpa [PyData.shown] using h3)
  | lst hs ha =>
    cases (show u = Value.ref _ from rx)
    exact repr_of_reads' rd h1 (PyData.noDict_hsm (PyData.hasDict_of_canLay _ h2)) hg (by omega) (fun _ _ z => z) (fun h' u tk hk => ⟨.str _, H, I.kept (t' := tk) hk, ⟨u, rfl⟩, q⟩) h3
  | tup hs ha =>
    cases (show u = Value.ref _ from rx)
    exact repr_of_reads' rd h1 (PyData.noDict_hsm (PyData.hasDict_of_canLay _ h2)) hg (by omega) (fun _ _ z => z) (fun h' u tk hk => ⟨.str _, H, I.kept (t' := tk) hk, ⟨u, rfl⟩, q⟩) h3
theorem ok_repr : CallOk T X (rReprD X.K) fRepr := fun W σ β H S xs vs Q hs l h => by
  match xs, l, h with
  | [], _, h => exact h.elim
  | _ :: _ :: _, _, h => exact h.elim
  | [x], l, h =>
    simp only [fRepr] at h
    cases ep : x.pd with
    | none => rw [ep] at h; exact h.elim
    | some p =>
      rw [ep] at h
      simp only at h
      split at h
      · rename_i z
        obtain ⟨v, rfl, r⟩ := RepL.one l
        simp only [Bool.and_eq_true, decide_eq_true_eq] at z
        exact ⟨v, p, rfl, dp_of x v p r ep, z.1.1.1, z.1.1.2, le_line z.1.2, z.2, post.val h hs rfl⟩
      · exact h.elim

/-! ### isinstance -/
/-- what is asked of the classes by name: which lie under which -/
def SubOk (X : Cx) (sub : Str → Str → Option Bool) : Prop := ∀ c c' b C C', sub c c' = some b → X.mg c = some (.ref C) → X.mg c' = some (.ref C') → PySem.W.kitOne X.K (.ref C) (.ref C') = some b
/-- isinstance(x, T) of a value that is no exception -/
def fIs (t : String) : FN := fun ds S => match ds with
  | [x, .ty T] => match (tyD x).bind fun t => L2.kitB t T with
    | some b => .ok (.bl b) S
    | none => .bad
  | _ => .bad
theorem tyX_of {β : Bt} {H : Hp} {S : Sto} {d : D} {v : V} {t : String} (hs : SOk (wo X T) β H S) (r : Rep (wo X T) β H d v) (h : tyD d = some t) : TyX X.K H v (.type t) := by
  cases d with
  | non => cases h; cases (show v = _ from r); exact .base .non
  | bl b => cases h; cases (show v = _ from r); exact .base (.bl b)
  | int b => cases h; cases (show v = _ from r); exact .base (.int b)
  | str b => cases h; cases (show v = _ from r); exact .base (.str b)
  | tup ds =>
    cases h
    obtain ⟨a, xs, rfl, h1, l⟩ := r
    rcases h1 with (h1 | ⟨o, h1⟩) | ⟨o, its, n, h1, h2, _⟩
    · exact .base (.tup h1)
    · exact .fTuple h1
    · exact .kTuple h1 h2
  | lst ds =>
    cases h
    obtain ⟨a, xs, rfl, h1, l⟩ := r
    rcases h1 with ⟨h1, _⟩ | ⟨o, h1⟩ | ⟨o, its, n, h1, h2, _⟩
    · exact .base (.lst h1)
    · exact .base (.frz h1)
    · exact .kList h1 h2
  | loc n =>
    cases h
    obtain ⟨a, rfl, h1⟩ := r
    obtain ⟨ds, xs, h2, h3, l⟩ := hs.get h1
    exact .base (.lst h3)
  | _ => cases h
theorem ok_isi (sub : Str → Str → Option Bool) (nosub : ∀ c c', sub c c' = none) : CallOk T X (rIsi X.K) (fIsi sub) := fun W σ β H S xs vs Q hs l h => by
  unfold fIsi at h
  split at h
  · rename_i _ x t
    cases eb : (tyD x).bind fun t' => L2.kitB t' t with
    | none => rw [eb] at h; exact h.elim
    | some b =>
      rw [eb] at h
      obtain ⟨v, u, rfl, r1, r2⟩ := RepL.two l
      simp only [Option.bind_eq_some_iff] at eb
      obtain ⟨t0, e1, e2⟩ := eb
      cases (show u = _ from r2)
      exact ⟨v, .ty t, .type t0, .type t, b, rfl, .ty t, tyX_of hs r1 e1, kit_ty e2, post.val h hs rfl⟩
  · rw [nosub] at h
    exact h.elim
  · exact h.elim

/-! ### list(range(..)), tuple(range(..)) -/
/-- an expression that makes a range, as data its ints -/
structure PXRg (T : List (Addr × Str)) (X : Cx) (e : Expr) (it : AF) : Prop where
  run : ∀ W, Takes X W → ∃ te, PRg X e te ∧ ∀ (σ : St) (H : Hp) (β : Bt) (ρ : Env) (S : Sto) (Z : Int → Int → Hp → Prop), SOk (wo X T) β H S → RepE (wo X T) β H ρ σ →
    (match it ρ S with
      | .ok ds S => ∀ i j β' H', ds = rngL i (j - i).toNat → (-(2 ^ 62) ≤ i ∧ i < 2 ^ 62 ∧ -(2 ^ 62) ≤ j ∧ j < 2 ^ 62) → Ext β H β' H' → SOk (wo X T) β' H' S → Z i j H'
      | .exc c d S => ∀ C dx v β' H', Ext β H β' H' → SOk (wo X T) β' H' S → X.mg c = some (.ref C) → H' dx = some (.xd [(("value" : Str), v)]) → Rep (wo X T) β' H' d v → W (.ref C) (some dx) σ H'
      | .bad => False) → te σ H Z
theorem pxr_1 (hm : X.mg "range" = none) (ha : PX T X a fa) (hg : Gl X "range" := by rfl) (na : starEach [a] X.env = (false, eval a X.env) :: starEach [] X.env := by rfl) : PXRg T X (.Call (.Name "range" p) [a] [] pos) (fRange1 (aCons fa aNil)) :=
  ⟨fun W t => ⟨_, prg_1 hg hm (ha.run W t) na, fun σ H β ρ S Z hs he h => by
    refine ⟨β, ρ, S, hs, he, ?_⟩
    unfold fRange1 aCons aNil at h
    cases q : fa ρ S with
    | ok d S1 =>
      rw [q] at h
      simp only [bind_ok] at h
      intro v β1 H1 x1 k1 r1
      cases d with
      | int j =>
        by_cases hj : -(2 ^ 62) ≤ j ∧ j < 2 ^ 62
        · simp only [if_pos hj] at h
          exact ⟨j, r1, h 0 j β1 H1 (by simp) ⟨by omega, by omega, hj.1, hj.2⟩ x1 k1⟩
        · simp only [if_neg hj] at h
      | _ => exact h.elim
    | exc c d S1 => rw [q] at h; exact h
    | bad => rw [q] at h; exact h⟩⟩
theorem pxr_2 (hm : X.mg "range" = none) (ha : PX T X a fa) (hb : PX T X b fb) (hg : Gl X "range" := by rfl) (na : starEach [a, b] X.env = (false, eval a X.env) :: starEach [b] X.env := by rfl)
    (nb : starEach [b] X.env = (false, eval b X.env) :: starEach [] X.env := by rfl) (hp : (backTo pos (starEach [b] X.env)).any (·.1) = false := by rfl) : PXRg T X (.Call (.Name "range" p) [a, b] [] pos) (fRange2 (aCons fa (aCons fb aNil))) :=
  ⟨fun W t => ⟨_, prg_2 hg hm (ha.run W t) (hb.run W t) na nb hp, fun σ H β ρ S Z hs he h => by
    refine ⟨β, ρ, S, hs, he, ?_⟩
    unfold fRange2 aCons aNil at h
    cases q : fa ρ S with
    | ok d S1 =>
      rw [q] at h
      simp only [bind_ok] at h
      intro v β1 H1 x1 k1 r1
      refine ⟨β1, ρ, S1, k1, he.ext x1.toExtW, ?_⟩
      cases q2 : fb ρ S1 with
      | ok d2 S2 =>
        rw [q2] at h
        simp only [bind_ok] at h
        intro v2 β2 H2 x2 k2 r2
        cases d with
        | int i =>
          cases d2 with
          | int j =>
            by_cases hj : -(2 ^ 62) ≤ i ∧ i < 2 ^ 62 ∧ -(2 ^ 62) ≤ j ∧ j < 2 ^ 62
            · simp only [if_pos hj] at h
              exact ⟨i, j, r1, r2, h i j β2 H2 rfl hj (x1.trans x2) k2⟩
            · simp only [if_neg hj] at h
          | _ => exact h.elim
        | _ => cases d2 <;> exact h.elim
      | exc c d S2 => rw [q2] at h; exact fun C dx v β2 H2 x2 k2 => h C dx v β2 H2 (x1.trans x2) k2
      | bad => rw [q2] at h; exact h
    | exc c d S1 => rw [q] at h; exact h
    | bad => rw [q] at h; exact h⟩⟩
theorem rep_rng {w : Wo} {β : Bt} {H : Hp} : ∀ (n : Nat) (lo : Int), RepL w β H (rngL lo n) ((List.range n).map fun i => V.int (lo + (i : Nat)))
  | 0, _ => rfl
  | n + 1, lo => by
    rw [List.range_succ_eq_map, List.map_cons, List.map_map]
    refine ⟨_, _, rfl, by show V.int _ = V.int _; simp, ?_⟩
    have h := rep_rng (w := w) (β := β) (H := H) n (lo + 1)
    have e : (List.map ((fun i => V.int (lo + (i : Nat))) ∘ Nat.succ) (List.range n)) = (List.range n).map fun i => V.int (lo + 1 + (i : Nat)) := by
      apply List.map_congr_left
      intro i _
      simp only [Function.comp, Nat.succ_eq_add_one]
      congr 1
      omega
    rw [e]
    exact h
theorem px_listRg {it : AF} (hc : X.calm = true) (hm : X.mg "list" = none) (h : PXRg T X e it) (hg : Gl X "list" := by rfl) (na : starEach [e] X.env = (false, eval e X.env) :: starEach [] X.env := by rfl) : PX T X (.Call (.Name "list" p) [e] [] pos) (eListRg it) := by
  refine ⟨fun W t => ?_⟩
  obtain ⟨te, h1, h2⟩ := h.run W t
  refine PE.weak (pe_listRg hc hg hm h1 na) fun σ H Q ⟨β, ρ, S, hs, he, h⟩ => h2 σ H β ρ S _ hs he ?_
  unfold eListRg at h
  cases q : it ρ S with
  | ok ds S1 =>
    rw [q] at h
    simp only [bind_ok] at h
    intro i j β1 H1 ed hb x1 k1
    by_cases hz : ds.length ≤ 16777216
    · rw [if_pos hz] at h
      subst ed
      rw [rngL_length] at hz
      exact ⟨⟨hb.1, hb.2.1, hb.2.2.1, hb.2.2.2, hz⟩, fun q hq => (post.ext h x1) (.ref q) β1 _ (.new hq) (k1.new hq) ⟨q, _, rfl, .inl ⟨upd_same, notin_of k1 hq⟩, rep_rng _ _⟩⟩
    · rw [if_neg hz] at h
      exact h.elim
  | exc c d S1 => rw [q] at h; exact h
  | bad => rw [q] at h; exact h

/-! ### tuple(x), list(x) -/
theorem items_of {β : Bt} {H : Hp} {S : Sto} {d : D} {v : V} {xs : List D} (hs : SOk (wo X T) β H S) (r : Rep (wo X T) β H d v) (h : items S d = some xs) : ∃ p ys, v = .ref p ∧ (SqL X.K H p ys ∨ SqT X.K H p ys) ∧ RepL (wo X T) β H xs ys := by
  cases d with
  | tup ds => cases h; obtain ⟨a, ys, rfl, h1, l⟩ := r; exact ⟨a, ys, rfl, .inr h1, l⟩
  | lst ds => cases h; obtain ⟨a, ys, rfl, h1, l⟩ := r; exact ⟨a, ys, rfl, .inl h1.sq, l⟩
  | loc n =>
    obtain ⟨a, rfl, h1⟩ := r
    obtain ⟨ds, ys, h2, h3, l⟩ := hs.get h1
    have h' : S[n]? = some xs := h
    rw [h2] at h'
    cases h'
    exact ⟨a, ys, rfl, .inl (.of h3), l⟩
  | _ => cases h
theorem ok_list : CallOk T X (fun xs H Q => ∃ p ys, xs = [.ref p] ∧ (SqL X.K H p ys ∨ SqT X.K H p ys) ∧ ∀ l, H l = none → Q (.ref l) (upd H l (.lst ys))) fList := fun W σ β H S xs vs Q hs l h => by
  match xs, l, h with
  | [], _, h => exact h.elim
  | _ :: _ :: _, _, h => exact h.elim
  | [x], l, h =>
    simp only [fList] at h
    cases e : items S x with
    | none => rw [e] at h; exact h.elim
    | some ds =>
      rw [e] at h
      obtain ⟨v, rfl, r⟩ := RepL.one l
      obtain ⟨p, ys, rfl, h1, h2⟩ := items_of hs r e
      exact ⟨p, ys, rfl, h1, fun q hq => h (.ref q) β _ (.new hq) (hs.new hq) ⟨q, ys, rfl, .inl ⟨upd_same, notin_of hs hq⟩, RepL.ext (Ext.new hq).toExtW ds ys h2⟩⟩
theorem ok_tuple : CallOk T X (fun xs H Q => ∃ p ys, xs = [.ref p] ∧ ((SqL X.K H p ys ∧ ∀ l, H l = none → Q (.ref l) (upd H l (.tup ys))) ∨ (SqT X.K H p ys ∧ Q (.ref p) H))) fTuple := fun W σ β H S xs vs Q hs l h => by
  match xs, l, h with
  | [], _, h => exact h.elim
  | _ :: _ :: _, _, h => exact h.elim
  | [x], l, h =>
    simp only [fTuple] at h
    cases e : items S x with
    | none => rw [e] at h; exact h.elim
    | some ds =>
      rw [e] at h
      obtain ⟨v, rfl, r⟩ := RepL.one l
      obtain ⟨p, ys, rfl, h1, h2⟩ := items_of hs r e
      rcases h1 with h1 | h1
      · exact ⟨p, ys, rfl, .inl ⟨h1, fun q hq => h (.ref q) β _ (.new hq) (hs.new hq) ⟨q, ys, rfl, .of upd_same, RepL.ext (Ext.new hq).toExtW ds ys h2⟩⟩⟩
      · exact ⟨p, ys, rfl, .inr ⟨h1, post.val h hs ⟨p, ys, rfl, h1, h2⟩⟩⟩

/-! ### slices -/
structure PXO (T : List (Addr × Str)) (X : Cx) (e : Option Expr) (f : OF) : Prop where
  run : ∀ W, Takes X W → PO X e (fun σ H Q => ∃ β ρ S, SOk (wo X T) β H S ∧ RepE (wo X T) β H ρ σ ∧ (match f ρ S with
    | .ok o S => ∀ β' H', Ext β H β' H' → SOk (wo X T) β' H' S → Q o H'
    | .exc c d S => ∀ C dx v β' H', Ext β H β' H' → SOk (wo X T) β' H' S → X.mg c = some (.ref C) → H' dx = some (.xd [(("value" : Str), v)]) → Rep (wo X T) β' H' d v → W (.ref C) (some dx) σ H'
    | .bad => False))
theorem PO.weak {e : Option Expr} {t t' : TO} (h : PO X e t) (k : ∀ σ H Q, t' σ H Q → t σ H Q) : PO X e t' := ⟨fun pins s σ H Q I q => h.run pins s σ H Q I (k σ H Q q)⟩
theorem pxo_none : PXO T X none oNone := ⟨fun W t => PO.weak po_none fun σ H Q ⟨β, ρ, S, hs, he, h⟩ => h β H (.refl _ _) hs⟩
theorem pxo_some (ha : PX T X a fa) : PXO T X (some a) (oSome fa) := ⟨fun W t => PO.weak (po_some (ha.run W t)) fun σ H Q ⟨β, ρ, S, hs, he, h⟩ => by
  refine ⟨β, ρ, S, hs, he, ?_⟩
  unfold oSome at h
  cases q : fa ρ S with
  | ok d S1 =>
    rw [q] at h
    simp only [bind_ok] at h
    intro v β1 H1 x1 k1 r1
    cases d with
    | int i => exact ⟨i, r1, h β1 H1 x1 k1⟩
    | _ => exact h.elim
  | exc c d S1 => rw [q] at h; exact h
  | bad => rw [q] at h; exact h⟩
theorem cut_rep {w : Wo} {β : Bt} {H : Hp} {ds : List D} {vs : List V} (l : RepL w β H ds vs) (lo hi : Option Int) : RepL w β H (cutD ds lo hi) (cutV vs lo hi) := by
  have dr : ∀ (n : Nat) {ds : List D} {vs : List V}, RepL w β H ds vs → RepL w β H (ds.drop n) (vs.drop n) := by
    intro n
    induction n with
    | zero => intro ds vs l; exact l
    | succ n ih =>
      intro ds vs l
      cases ds with
      | nil => cases (show vs = [] from l); exact rfl
      | cons d ds => obtain ⟨x, xr, rfl, _, l⟩ := l; exact ih l
  have tk : ∀ (n : Nat) {ds : List D} {vs : List V}, RepL w β H ds vs → RepL w β H (ds.take n) (vs.take n) := by
    intro n
    induction n with
    | zero => intro ds vs l; exact rfl
    | succ n ih =>
      intro ds vs l
      cases ds with
      | nil => cases (show vs = [] from l); exact rfl
      | cons d ds => obtain ⟨x, xr, rfl, r, l⟩ := l; exact ⟨x, _, rfl, r, ih l⟩
  unfold cutD cutV
  rw [l.length]
  exact tk _ (dr _ l)
theorem px_cut {lo hi : Option Expr} {fl fh : OF} {p2 : Pos} (ha : PX T X a fa) (hl : PXO T X lo fl) (hh : PXO T X hi fh) : PX T X (.Subscript a (.Slice lo hi none p2) pos) (eCut fa fl fh) :=
  ⟨fun W t => PE.weak (pe_slice (SlR.or sl_list sl_tupA) (ha.run W t) (hl.run W t) (hh.run W t)) fun σ H Q ⟨β, ρ, S, hs, he, h⟩ => tE_bind hs he h fun d S1 v β1 H1 x1 k1 e1 r1 q1 => by
    refine ⟨β1, ρ, S1, k1, e1, ?_⟩
    cases ql : fl ρ S1 with
    | bad => rw [ql] at q1; exact q1
    | exc c d S2 => rw [ql] at q1; exact q1
    | ok lo' S2 =>
      rw [ql] at q1
      simp only [bind_ok] at q1
      intro β2 H2 x2 k2
      refine ⟨β2, ρ, S2, k2, e1.ext x2.toExtW, ?_⟩
      replace q1 := post.ext q1 x2
      cases qh : fh ρ S2 with
      | bad => rw [qh] at q1; exact q1
      | exc c d S3 => rw [qh] at q1; exact q1
      | ok hi' S3 =>
        rw [qh] at q1
        simp only [bind_ok] at q1
        intro β3 H3 x3 k3
        replace q1 := post.ext q1 x3
        have r3 := Rep.ext (x2.trans x3).toExtW d v r1
        cases d with
        | lst ds =>
          obtain ⟨p, xs, rfl, h1, l⟩ := r3
          refine .inl ⟨p, xs, rfl, h1.sq, fun q hq => q1 (.ref q) β3 _ (.new hq) (k3.new hq) ⟨q, _, rfl, .inl ⟨upd_same, notin_of k3 hq⟩, RepL.ext (Ext.new hq).toExtW _ _ (cut_rep l lo' hi')⟩⟩
        | loc n =>
          obtain ⟨p, rfl, h1⟩ := r3
          obtain ⟨ds, xs, g1, g2, l⟩ := k3.get h1
          simp only [g1] at q1
          refine .inl ⟨p, xs, rfl, .of g2, fun q hq => q1 (.ref q) β3 _ (.new hq) (k3.new hq) ⟨q, _, rfl, .inl ⟨upd_same, notin_of k3 hq⟩, RepL.ext (Ext.new hq).toExtW _ _ (cut_rep l lo' hi')⟩⟩
        | tup ds =>
          obtain ⟨p, xs, rfl, h1, l⟩ := r3
          have cr := cut_rep l lo' hi'
          refine .inr ⟨p, xs, rfl, h1, fun wh => post.val q1 k3 ⟨p, xs, rfl, h1, ?_⟩, fun _ q hq => q1 (.ref q) β3 _ (.new hq) (k3.new hq) ⟨q, _, rfl, .of upd_same, RepL.ext (Ext.new hq).toExtW _ _ cr⟩⟩
          have e : cutV xs lo' hi' = xs := by
            unfold cutV
            rw [wh.1, wh.2]
            simp
          rw [e] at cr
          exact cr
        | _ => exact q1.elim⟩
theorem rep_rev {w : Wo} {β : Bt} {H : Hp} : ∀ {ds : List D} {vs : List V}, RepL w β H ds vs → RepL w β H ds.reverse vs.reverse
  | [], _, l => by cases (show _ = [] from l); exact rfl
  | d :: ds, _, ⟨x, xr, e, r, l⟩ => by
    subst e
    rw [List.reverse_cons, List.reverse_cons]
    exact RepL.append (rep_rev l) ⟨x, [], rfl, r, rfl⟩
theorem px_rev {k : Nat} {p1 p2 p3 : Pos} (ha : PX T X a fa) : PX T X (.Subscript a (.Slice none none (some (.UnaryOp .USub (.Constant (.int 1) k p1) p2)) p3) pos) (eRev fa) :=
  ⟨fun W t => PE.weak (pe_revL (ha.run W t)) fun σ H Q ⟨β, ρ, S, hs, he, h⟩ => tE_bind hs he h fun d S1 v β1 H1 x1 k1 e1 r1 q1 => by
    cases d with
    | lst ds =>
      obtain ⟨p, xs, rfl, h1, l⟩ := r1
      exact ⟨p, xs, rfl, h1.sq, fun q hq => q1 (.ref q) β1 _ (.new hq) (k1.new hq) ⟨q, _, rfl, .inl ⟨upd_same, notin_of k1 hq⟩, RepL.ext (Ext.new hq).toExtW _ _ (rep_rev l)⟩⟩
    | loc n =>
      obtain ⟨p, rfl, h1⟩ := r1
      obtain ⟨ds, xs, g1, g2, l⟩ := k1.get h1
      simp only [g1] at q1
      exact ⟨p, xs, rfl, .of g2, fun q hq => q1 (.ref q) β1 _ (.new hq) (k1.new hq) ⟨q, _, rfl, .inl ⟨upd_same, notin_of k1 hq⟩, RepL.ext (Ext.new hq).toExtW _ _ (rep_rev l)⟩⟩
    | _ => exact q1.elim⟩
/-! ### append -/
theorem px_append {apos : Pos} (ha : PX T X a fa) (hb : PX T X b fb) (hbase : attributeBase a "append" X.env (eval a X.env) = eval a X.env := by rfl)
    (hfew : ((backTo pos (starEach [b] X.env)).all (fun x => !x.1) && (backToKw pos (keywordEach [] X.env)).all (fun x => x.1.isSome) && decide ([b].length + ([] : List Keyword).length + (if ([] : List Keyword).isEmpty then 0 else 1) < 30)) = true := by rfl)
    (hline : (apos.endLine == pos.line) = true := by rfl) (hs : starEach [b] X.env = (false, eval b X.env) :: starEach [] X.env := by rfl) (hplain : (backTo pos (starEach [] X.env)).any (·.1) = false := by rfl) :
    PX T X (.Call (.Attribute a "append" apos) [b] [] pos) (eAppend fa fb) :=
  ⟨fun W t => PE.weak (pe_bm PySem.F.plainAttrs_list PySem.F.slot_list_append PySem.F.type_list_append mt_append (ha.run W t) (pa_cons (hb.run W t) pa_nil hs) hbase hfew hline hs hplain) fun σ H Q ⟨β, ρ, S, hs, he, h⟩ => tE_bind hs he h fun d S1 v β1 H1 x1 k1 e1 r1 q1 => by
    cases d with
    | loc n =>
      obtain ⟨p, rfl, h1⟩ := r1
      obtain ⟨ds0, xs0, g01, g02, l0⟩ := k1.get h1
      refine ⟨.inl ⟨rfl, xs0, .of g02⟩, tE_bind k1 e1 q1 fun d2 S2 v2 β2 H2 x2 k2 e2 r2 q2 => ?_⟩
      have h2 : β2.l[n]? = some p := x2.toExtW.get h1
      obtain ⟨ds, xs, g1, g2, l⟩ := k2.get h2
      simp only [g1] at q2
      by_cases hz : ds.length < 16777216
      · rw [if_pos hz] at q2
        exact ⟨p, xs, v2, rfl, rfl, g2, by rw [sizeLine_eq, ← l.length]; exact hz, q2 .non β2 _ (.chg g2 (List.mem_of_getElem? h2)) (k2.chg h2 g2 (RepL.append l ⟨v2, [], rfl, r2, rfl⟩)) rfl⟩
      · rw [if_neg hz] at q2
        exact q2.elim
    | _ => exact q1.elim⟩
end
end DL


set_option linter.all false
set_option autoImplicit false
set_option Elab.async false
set_option maxRecDepth 100000
set_option maxHeartbeats 2000000
/-! DLw7: the module's names; short rules for the derivations that are printed. -/
namespace DL
open PySem PySem.Spec L2
open PyProof.Rows hiding St b2i

/-- a def of the text as it stands behind the top -/
structure DefIn (K : PySem.W.Frag) (mg : Str → Option Value) (x : Str) (st : Stmt) : Prop where
  ex : ∃ (f : Addr) (oc : Value) (od : Option Addr) (kV doc pm : Value) (an : Option Addr) (cdv ct : Value) (osl : Array (Option Value)),
    mg x = some (.ref f) ∧ K.lookup f = some ⟨oc, od, .func (PySem.W.fnOf x x (defArgs st) (defBody st) (defScope st) .none kV doc pm an cdv ct), osl⟩ ∧ PySem.W.codeIn K cdv x = true ∧ PySem.W.keepIn K (.ref f) = true
/-- .. with its promise -/
structure Callee (P : Program) (w : World) (K : PySem.W.Frag) (mg : Str → Option Value) (base : Heap) (T : List (Addr × Str)) (gd : Bool) (k : Nat) (x : Str) (ps : List Str) (fn : FN) : Prop where
  ex : ∃ f fd, FnG P w K mg base T gd k f fd ps fn ∧ mg x = some (.ref f) ∧ PySem.W.keepIn K (.ref f) = true ∧ L2.Binds K fd ps []
/-- a constant of the module -/
structure Cst (K : PySem.W.Frag) (mg : Str → Option Value) (x : Str) (d : D) : Prop where
  ex : ∃ u v, mg x = some u ∧ RelV v u ∧ ∀ T β H, Rep ⟨K, mg, T⟩ β H d v
theorem Callee.mono {P : Program} {w : World} {K : PySem.W.Frag} {mg : Str → Option Value} {base : Heap} {T : List (Addr × Str)} {gd : Bool} {j k : Nat} {x : Str} {ps : List Str} {fn : FN} (c : Callee P w K mg base T gd j x ps fn) (h : j ≤ k) : Callee P w K mg base T gd k x ps fn := by
  obtain ⟨f, fd, F, a, b, d⟩ := c.ex
  exact ⟨f, fd, F.mono h, a, b, d⟩
theorem Callee.drop {P : Program} {w : World} {K : PySem.W.Frag} {mg : Str → Option Value} {base : Heap} {T : List (Addr × Str)} {gd : Bool} {k : Nat} {x : Str} {ps : List Str} {fn : FN} (c : Callee P w K mg base T gd k x ps fn) : Callee P w K mg base T gd k x ps (DL.drop fn) := by
  obtain ⟨f, fd, F, a, b, d⟩ := c.ex
  exact ⟨f, fd, F.drop, a, b, d⟩
section
variable {P : Program} {w : World} {K : PySem.W.Frag} {mg : Str → Option Value} {base : Heap} {T : List (Addr × Str)} {gd : Bool} {k : Nat} {x : Str} {st : Stmt} {N ps : List Str} {m n : Nat} {g : SF}
theorem callee_of (D : DefIn K mg x st) (Sc : FnScope N ps (defScope st)) (hm : ps.length = m) (hn : N.length = n)
    (hb : ∀ (kV doc pm : Value) (an : Option Addr) (cdv ct : Value) (us : List Value), us.length = ps.length → bindArgs (PySem.W.fnOf x x (defArgs st) (defBody st) (defScope st) .none kV doc pm an cdv ct) ⟨us, []⟩ = pure (ps.zip us))
    (body : ∀ (f : Addr) (cdv : Value) (A : Around) (outer : List PySem.Env) (s : Shared) (H : Hp) (E : XK), (gd = true → A.guards = some []) → Room k (A.deeper (envOfC x (defScope st) s.heap.objs.size f cdv)) → PXSs T (cxOf (L2.CX P w) P w K mg base N x (defScope st) f cdv A outer s H E) (defBody st) g) :
    Callee P w K mg base T gd (k + 1) x ps (mkFn m n g) := by
  obtain ⟨f, oc, od, kV, doc, pm, an, cdv, ct, osl, h1, h2, h3, h4⟩ := D.ex
  exact ⟨f, _, fnG_of h2 h3 Sc hm hn fun A outer s H E hg hr => body f cdv A outer s H E hg hr, h1, h4, .all (hb kV doc pm an cdv ct)⟩
end
section
variable {T : List (Addr × Str)} {X : Cx} {a b c e : Expr} {fa fb fc : EF} {pos p : Pos} {ga : AF} {es : List Expr} {x : Str}
theorem Room.u64 {k : Nat} {A : Around} (r : Room k A) : A.units + 64 < cLine := r.units
theorem Room.u65 {k : Nat} {A : Around} (r : Room k A) : A.units + 65 < cLine := by have := r.un; omega
theorem px_fn {gd : Bool} {k j : Nat} {ps : List Str} {fn : FN} (c : Callee X.prog X.w X.K X.mg X.base T gd k x ps fn) (hr : Room j X.A) (hj : k ≤ j) (hgd : gd = true → X.A.guards = some []) (ha : PXA T X (e :: es) ga) (hg : Gl X x := by rfl) (hdb : (x == ("__debug__" : Str)) = false := by decide)
    (he : starEach (e :: es) X.env = (false, eval e X.env) :: starEach es X.env := by rfl) (hpl : (backTo pos (starEach es X.env)).any (·.1) = false := by rfl) : PX T X (.Call (.Name x p) (e :: es) [] pos) (eCall fn ga) := by
  obtain ⟨f, fd, F, h1, h2, h3⟩ := c.ex
  exact px_call F (hr.mono hj) hgd h1 h2 h3 ha hg hdb he hpl
theorem px_cst {d : D} (c : Cst X.K X.mg x d) (hg : Gl X x := by rfl) (hd : (x == ("__debug__" : Str)) = false := by decide) : PX T X (.Name x pos) (eC d) := by
  obtain ⟨u, v, h1, h2, h3⟩ := c.ex
  exact px_const (pe_glob hg h1 h2 hd) fun β H => h3 T β H
theorem px_ty {t : String} (hm : X.mg x = none) (hv : bootBuiltins x = some (.type t)) (hg : Gl X x := by rfl) (hn : x ≠ "__name__" := by decide) (hd : (x == ("__debug__" : Str)) = false := by decide) : PX T X (.Name x pos) (eC (.ty t)) :=
  px_const (pe_bltn (v := .ty t) hg hm hv rfl hn hd) fun β H => rfl
theorem px_cls (hm : ∃ C, X.mg x = some (.ref C)) (hg : Gl X x := by rfl) (hd : (x == ("__debug__" : Str)) = false := by decide) : PX T X (.Name x pos) (eC (.cls x)) :=
  hm.elim fun C hm => px_const (pe_glob (v := .ref C) hg hm rfl hd) fun β H => ⟨C, rfl, hm⟩
theorem px_lt (ha : PX T X a fa) (hb : PX T X b fb) : PX T X (.Compare a [.Lt] [b] pos) (eBin dLt fa fb) := px_cmp op_lt (ok_iCmp _) ha hb (nomark _)
theorem px_le (ha : PX T X a fa) (hb : PX T X b fb) : PX T X (.Compare a [.LtE] [b] pos) (eBin dLe fa fb) := px_cmp op_le (ok_iCmp _) ha hb (nomark _)
theorem px_gt (ha : PX T X a fa) (hb : PX T X b fb) : PX T X (.Compare a [.Gt] [b] pos) (eBin dGt fa fb) := px_cmp op_gt (ok_iCmp _) ha hb (nomark _)
theorem px_ge (ha : PX T X a fa) (hb : PX T X b fb) : PX T X (.Compare a [.GtE] [b] pos) (eBin dGe fa fb) := px_cmp op_ge (ok_iCmp _) ha hb (nomark _)
theorem px_eq {j : Nat} (hr : Room j X.A) (ha : PX T X a fa) (hb : PX T X b fb) : PX T X (.Compare a [.Eq] [b] pos) (eBin dEq fa fb) := px_cmp (op_eqD (Room.u64 hr)) ok_eq ha hb (nomark _)
theorem px_ne {j : Nat} (hr : Room j X.A) (ha : PX T X a fa) (hb : PX T X b fb) : PX T X (.Compare a [.NotEq] [b] pos) (eBin dNe fa fb) := px_cmp (op_neD (Room.u64 hr)) ok_ne ha hb (nomark _)
theorem px_isN (ha : PX T X a fa) (hb : PX T X b fb) : PX T X (.Compare a [.Is] [b] pos) (eBin dIsN fa fb) := px_cmp op_isN ok_isN ha hb (nomark _)
theorem px_notN (ha : PX T X a fa) (hb : PX T X b fb) : PX T X (.Compare a [.IsNot] [b] pos) (eBin dNotN fa fb) := px_cmp op_notN ok_notN ha hb (nomark _)
theorem px_isB (ha : PX T X a fa) (hb : PX T X b fb) : PX T X (.Compare a [.Is] [b] pos) (eBin dIsB fa fb) := px_cmp op_isBl ok_isB ha hb (nomark _)
theorem px_notB (ha : PX T X a fa) (hb : PX T X b fb) : PX T X (.Compare a [.IsNot] [b] pos) (eBin dNotB fa fb) := px_cmp op_notBl ok_notB ha hb (nomark _)
theorem px_in {j : Nat} (hr : Room j X.A) (ha : PX T X a fa) (hb : PX T X b fb) (hm : behindInMarks .In b = false := by rfl) : PX T X (.Compare a [.In] [b] pos) (eBin dIn fa fb) := px_cmp (op_inQ (Room.u65 hr)) ok_in ha hb hm
theorem px_notIn {j : Nat} (hr : Room j X.A) (ha : PX T X a fa) (hb : PX T X b fb) (hm : behindInMarks .NotIn b = false := by rfl) : PX T X (.Compare a [.NotIn] [b] pos) (eBin dNotIn fa fb) := px_cmp (op_notInQ (Room.u65 hr)) ok_notIn ha hb hm
theorem pxt_lt (ha : PX T X a fa) (hb : PX T X b fb) : PXT T X (.Compare a [.Lt] [b] pos) (tOf (eBin dLt fa fb)) := pxt_cmp op_lt (ok_iCmp _) ha hb (nomark _)
theorem pxt_le (ha : PX T X a fa) (hb : PX T X b fb) : PXT T X (.Compare a [.LtE] [b] pos) (tOf (eBin dLe fa fb)) := pxt_cmp op_le (ok_iCmp _) ha hb (nomark _)
theorem pxt_gt (ha : PX T X a fa) (hb : PX T X b fb) : PXT T X (.Compare a [.Gt] [b] pos) (tOf (eBin dGt fa fb)) := pxt_cmp op_gt (ok_iCmp _) ha hb (nomark _)
theorem pxt_ge (ha : PX T X a fa) (hb : PX T X b fb) : PXT T X (.Compare a [.GtE] [b] pos) (tOf (eBin dGe fa fb)) := pxt_cmp op_ge (ok_iCmp _) ha hb (nomark _)
theorem pxt_eq {j : Nat} (hr : Room j X.A) (ha : PX T X a fa) (hb : PX T X b fb) : PXT T X (.Compare a [.Eq] [b] pos) (tOf (eBin dEq fa fb)) := pxt_cmp (op_eqD (Room.u64 hr)) ok_eq ha hb (nomark _)
theorem pxt_ne {j : Nat} (hr : Room j X.A) (ha : PX T X a fa) (hb : PX T X b fb) : PXT T X (.Compare a [.NotEq] [b] pos) (tOf (eBin dNe fa fb)) := pxt_cmp (op_neD (Room.u64 hr)) ok_ne ha hb (nomark _)
theorem pxt_isN (ha : PX T X a fa) (hb : PX T X b fb) : PXT T X (.Compare a [.Is] [b] pos) (tOf (eBin dIsN fa fb)) := pxt_cmp op_isN ok_isN ha hb (nomark _)
theorem pxt_notN (ha : PX T X a fa) (hb : PX T X b fb) : PXT T X (.Compare a [.IsNot] [b] pos) (tOf (eBin dNotN fa fb)) := pxt_cmp op_notN ok_notN ha hb (nomark _)
theorem pxt_isB (ha : PX T X a fa) (hb : PX T X b fb) : PXT T X (.Compare a [.Is] [b] pos) (tOf (eBin dIsB fa fb)) := pxt_cmp op_isBl ok_isB ha hb (nomark _)
theorem pxt_notB (ha : PX T X a fa) (hb : PX T X b fb) : PXT T X (.Compare a [.IsNot] [b] pos) (tOf (eBin dNotB fa fb)) := pxt_cmp op_notBl ok_notB ha hb (nomark _)
theorem pxt_in {j : Nat} (hr : Room j X.A) (ha : PX T X a fa) (hb : PX T X b fb) (hm : behindInMarks .In b = false := by rfl) : PXT T X (.Compare a [.In] [b] pos) (tOf (eBin dIn fa fb)) := pxt_cmp (op_inQ (Room.u65 hr)) ok_in ha hb hm
theorem pxt_notIn {j : Nat} (hr : Room j X.A) (ha : PX T X a fa) (hb : PX T X b fb) (hm : behindInMarks .NotIn b = false := by rfl) : PXT T X (.Compare a [.NotIn] [b] pos) (tOf (eBin dNotIn fa fb)) := pxt_cmp (op_notInQ (Room.u65 hr)) ok_notIn ha hb hm
/-! built-ins -/
theorem pb_abs (hm : X.mg "abs" = none) (ha : PXA T X (e :: es) ga) (hg : Gl X "abs" := by rfl) (he : starEach (e :: es) X.env = (false, eval e X.env) :: starEach es X.env := by rfl) (hpl : (backTo pos (starEach es X.env)).any (·.1) = false := by rfl) :
    PX T X (.Call (.Name "abs" p) (e :: es) [] pos) (eCall fAbs ga) := px_blt call_abs ok_abs hg hm (by decide +kernel) ha (by decide) (by decide) he hpl
theorem pb_len (hm : X.mg "len" = none) (ha : PXA T X (e :: es) ga) (hg : Gl X "len" := by rfl) (he : starEach (e :: es) X.env = (false, eval e X.env) :: starEach es X.env := by rfl) (hpl : (backTo pos (starEach es X.env)).any (·.1) = false := by rfl) :
    PX T X (.Call (.Name "len" p) (e :: es) [] pos) (eCall fLen ga) := px_blt call_len ok_len hg hm (by decide +kernel) ha (by decide) (by decide) he hpl
theorem pb_int (hm : X.mg "int" = none) (ha : PXA T X (e :: es) ga) (hg : Gl X "int" := by rfl) (he : starEach (e :: es) X.env = (false, eval e X.env) :: starEach es X.env := by rfl) (hpl : (backTo pos (starEach es X.env)).any (·.1) = false := by rfl) :
    PX T X (.Call (.Name "int" p) (e :: es) [] pos) (eCall fInt ga) := px_bty call_int1 ok_int hg hm (by decide +kernel) ha (by decide) (by decide) he hpl
theorem pb_max (hc : X.calm = true) (hm : X.mg "max" = none) (ha : PXA T X (e :: es) ga) (hg : Gl X "max" := by rfl) (he : starEach (e :: es) X.env = (false, eval e X.env) :: starEach es X.env := by rfl) (hpl : (backTo pos (starEach es X.env)).any (·.1) = false := by rfl) :
    PX T X (.Call (.Name "max" p) (e :: es) [] pos) (eCall fMax ga) := px_blt (call_max2 hc) ok_max hg hm (by decide +kernel) ha (by decide) (by decide) he hpl
theorem pb_min (hc : X.calm = true) (hm : X.mg "min" = none) (ha : PXA T X (e :: es) ga) (hg : Gl X "min" := by rfl) (he : starEach (e :: es) X.env = (false, eval e X.env) :: starEach es X.env := by rfl) (hpl : (backTo pos (starEach es X.env)).any (·.1) = false := by rfl) :
    PX T X (.Call (.Name "min" p) (e :: es) [] pos) (eCall fMin ga) := px_blt (call_min2 hc) ok_min hg hm (by decide +kernel) ha (by decide) (by decide) he hpl
theorem pb_all (hc : X.calm = true) (hm : X.mg "all" = none) (ha : PXA T X (e :: es) ga) (hg : Gl X "all" := by rfl) (he : starEach (e :: es) X.env = (false, eval e X.env) :: starEach es X.env := by rfl) (hpl : (backTo pos (starEach es X.env)).any (·.1) = false := by rfl) :
    PX T X (.Call (.Name "all" p) (e :: es) [] pos) (eCall fAll ga) := px_blt (cr_all hc) ok_all hg hm (by decide +kernel) ha (by decide) (by decide) he hpl
theorem pb_any (hc : X.calm = true) (hm : X.mg "any" = none) (ha : PXA T X (e :: es) ga) (hg : Gl X "any" := by rfl) (he : starEach (e :: es) X.env = (false, eval e X.env) :: starEach es X.env := by rfl) (hpl : (backTo pos (starEach es X.env)).any (·.1) = false := by rfl) :
    PX T X (.Call (.Name "any" p) (e :: es) [] pos) (eCall fAny ga) := px_blt (cr_any hc) ok_any hg hm (by decide +kernel) ha (by decide) (by decide) he hpl
theorem pb_sum (hc : X.calm = true) (hm : X.mg "sum" = none) (ha : PXA T X (e :: es) ga) (hg : Gl X "sum" := by rfl) (he : starEach (e :: es) X.env = (false, eval e X.env) :: starEach es X.env := by rfl) (hpl : (backTo pos (starEach es X.env)).any (·.1) = false := by rfl) :
    PX T X (.Call (.Name "sum" p) (e :: es) [] pos) (eCall fSum ga) := px_blt (cr_sum hc) ok_sum hg hm (by decide +kernel) ha (by decide) (by decide) he hpl
theorem pb_repr {j : Nat} (hr : Room j X.A) (hgd : X.A.guards = some []) (hm : X.mg "repr" = none) (ha : PXA T X (e :: es) ga) (hg : Gl X "repr" := by rfl) (he : starEach (e :: es) X.env = (false, eval e X.env) :: starEach es X.env := by rfl) (hpl : (backTo pos (starEach es X.env)).any (·.1) = false := by rfl) :
    PX T X (.Call (.Name "repr" p) (e :: es) [] pos) (eCall fRepr ga) := px_blt (call_reprD hgd (Room.u64 hr)) ok_repr hg hm (by decide +kernel) ha (by decide) (by decide) he hpl
theorem pb_tuple (hm : X.mg "tuple" = none) (ha : PXA T X (e :: es) ga) (hg : Gl X "tuple" := by rfl) (he : starEach (e :: es) X.env = (false, eval e X.env) :: starEach es X.env := by rfl) (hpl : (backTo pos (starEach es X.env)).any (·.1) = false := by rfl) :
    PX T X (.Call (.Name "tuple" p) (e :: es) [] pos) (eCall fTuple ga) := px_bty call_tuple_of ok_tuple hg hm (by decide +kernel) ha (by decide) (by decide) he hpl
theorem pb_list (hm : X.mg "list" = none) (ha : PXA T X (e :: es) ga) (hg : Gl X "list" := by rfl) (he : starEach (e :: es) X.env = (false, eval e X.env) :: starEach es X.env := by rfl) (hpl : (backTo pos (starEach es X.env)).any (·.1) = false := by rfl) :
    PX T X (.Call (.Name "list" p) (e :: es) [] pos) (eCall fList ga) := px_bty call_list_of ok_list hg hm (by decide +kernel) ha (by decide) (by decide) he hpl
end
end DL


set_option linter.all false
set_option autoImplicit false
set_option Elab.async false
set_option maxRecDepth 100000
set_option maxHeartbeats 2000000
/-! DLe1: an error class of the module whose own __init__ calls super's and keeps what it was given: made. -/
namespace ArmX
open PySem PySem.W PySem.Calls PyProof.Rows PySem.HandSPX

abbrev armArgs : Arguments := { posonlyargs := [], args := [{ arg := "self", annotation := none, pos := ⟨4, 17, 4, 21⟩ }, { arg := "value", annotation := none, pos := ⟨4, 23, 4, 28⟩ }], vararg := none, kwonlyargs := [], kw_defaults := [], kwarg := none, defaults := [] }
abbrev armBody : List Stmt :=
  [.Expr (.Call (.Attribute (.Call (.Name "super" ⟨5, 8, 5, 13⟩) [] [] ⟨5, 8, 5, 15⟩) "__init__" ⟨5, 8, 5, 24⟩) [.Name "value" ⟨5, 25, 5, 30⟩] [] ⟨5, 8, 5, 31⟩) ⟨5, 8, 5, 31⟩, .Assign [.Attribute (.Name "self" ⟨6, 8, 6, 12⟩) "value" ⟨6, 8, 6, 18⟩] (.Name "value" ⟨6, 21, 6, 26⟩) ⟨6, 8, 6, 26⟩]
abbrev armScope : Scope := { kind := .function, names := [(PySem.Str.ofString "self", .local), (PySem.Str.ofString "value", .local), (PySem.Str.ofString "__class__", .free), (PySem.Str.ofString "super", .globalImplicit)], isGenerator := false, isCoroutine := false, more := [] }

/-- what the written part holds of an error class at C: its base at D, the __init__ at fI -/
structure ArmAt (p : Program) (K : Frag) (C D fI : Addr) : Prop where
  cls : ∃ nm q N bs bm sn sub ab col dd k0 k1 k2 k3 k5, K.lookup C = some (excClassObj nm q C N bs bm true sn sub ab col dd k0 k1 k2 k3 k5 "ValueError.__new__") ∧ refsVE bm = true
  sa : findIn K (.ref C) "__setattr__" = some (some (.builtin "object.__setattr__"))
  ga : findIn K (.ref C) "__getattribute__" = some (some (.builtin "BaseException.__getattribute__"))
  gg : findIn K (.ref C) "__getattr__" = some none
  noN : findIn K (.ref C) "value" = some none
  iC : findIn K (.ref C) "__init__" = some (some (.ref fI))
  tC : typeIn K (.ref fI) = some (.type "function")
  kC : keepIn K (.ref C) = true
  exC : subIn K (.ref C) (.type "BaseException") = some true
  vC : subIn K (.ref C) (.type "ValueError") = some true
  tyC : typeIn K (.ref C) = some (.type "type")
  hdC : hasDictIn K C = true
  clD : ∃ cdD, clsIn K D = some cdD
  mD : mroIn K C (.ref D) = some true
  sm : ks_superIn K C D "__init__" = some (some (.builtin "ValueError.__init__"))
  ca : findIn K (.ref C) "__class__" = some (some (.builtin "object.__class__"))
  cn : specialIn K (.builtin "object.__class__") "__get__" = some (some (.builtin "getset_descriptor.__get__"))
  ct : takesIn K (.builtin "object.__class__") = some true
  cm : mroIn K C (.type "object") = some true
  th : nsIn K cStatics "thirdparty.any" = some none
  fn : ∃ (oc : Value) (od : Option Addr) (kV doc pm : Value) (an : Option Addr) (cda cc : Addr) (ct : Value) (osl : Array (Option Value)) (vs : Array Value) (file : Str) (tf : Tok) (ccl cl : Value) (cdd cld : Option Addr) (ccs csl : Array (Option Value)),
    K.lookup fI = some ⟨oc, od, .func (ksFn "__init__" "ArmError.__init__" armArgs armBody armScope .none kV doc pm an (.ref cda) ct cc), osl⟩ ∧ codeIn K (.ref cda) "ArmError.__init__" = true ∧
    K.lookup cda = some ⟨ccl, cdd, .fields vs, ccs⟩ ∧ vs[2]? = some (.str file tf) ∧ ((p.main.file : Str) == file) = true ∧ K.lookup cc = some ⟨cl, cld, .cell (some (.ref D)), csl⟩
  top : (p.main.scope.names.lookup ("super" : Str)).isSome = false

theorem sl1 (v : Value) : [v].length ≤ sizeLine := by
  rw [sizeLine_eq]; exact (by decide : 1 ≤ 16777216)
theorem ld_loc {M : Model} {s : Shared} {env : Env} {m : Str → Option Value} {x : Str} {pos : Pos} {v : Value} {Q : Value → Shared → Prop} {A : Around} {E : Value → Shared → Prop} (hn : s.heap.Ns env.locals m) (hv : m x = some v) (h : Q v s)
    (hk : env.scope.kind = .function) (hl : env.kindOf x = some .local) (hd : (x == ("__debug__" : Str)) = false := by decide) :
    wpAny M A (eval (.Name x pos) env) Q E s := wpAny_Name (wpAny_loadName_local hk hl hn hv h) hd
/-- a method-wrapper is called with one argument -/
theorem mw_args {M : Model} {s : Shared} {env : Env} {A : Around} {E : Value → Shared → Prop} {i : String} {u x : Addr} {e : Expr} {pos : Pos} {Q : Value → Shared → Prop}
    (h : wpAny M A (eval e env) (fun v s₁ => KxsAt i u x s₁.heap ∧ wpAny M A (call (.ref u) [v]) Q E s₁) E s) (he : starEach (e :: []) env = (false, eval e env) :: [] := by rfl) :
    wpAny M A (callWith pos (.ref u) [] (backTo pos (starEach (e :: []) env)) []) Q E s := by
  rw [he]; refine kxs_callWith (i := i) (x := x) rfl (evalArgs_plain (spliced_cons (wpAny_mono h (fun v s₁ h₁ => ?_) fun _ _ y => y)))
  exact Calls.spliced_nil h₁
theorem mw_call {prog : Program} {w : World} {A : Around} {E : Value → Shared → Prop} {h : Heap} {g : Array GenState} {d : Drawn} {tk : Nat} {os : OsState} {nm q : Str} {C N u x t0 : Addr} {bs bm sub : List Value} {sn : List Str} {ab hdct : Bool} {col : Option Bool} {dd : Option Addr} {k0 k1 k2 k3 k5 : Option Value} {v : Value} {Q : Value → Shared → Prop}
    (hC : h.get? C = some (excClassObj nm q C N bs bm hdct sn sub ab col dd k0 k1 k2 k3 k5 "ValueError.__new__")) (he : h.get? x = some (excO C t0)) (hu : h.get? u = some (kxs_mw "ValueError.__init__" x))
    (hq : ∀ h' t1, (∀ b o, b ≠ x → h.get? b = some o → h'.get? b = some o) → h'.get? x = some (excO C t1) → Q .none ⟨h', g, d, tk, os⟩) :
    wpAny (model prog w) A (call (.ref u) [v]) Q E ⟨h, g, d, tk, os⟩ := by
  refine wpAny_call (codeAny_of_tree ?_); show wpAny _ A.in1 (callAny (.ref u) ⟨[v], []⟩) _ _ _
  simp only [callAny]; refine wpAny_bind (wpAny_load hu ?_); simp only [kxs_mw, show (Value.type "method-wrapper" == Value.type "method" || Value.type "method-wrapper" == Value.type "builtin_function_or_method" || Value.type "method-wrapper" == Value.type "method-wrapper") = true by decide, if_true]; refine KFB.if_so (by decide) ?_
  refine wpAny_bind (check_bound_init (F.excBase_ValueError).toExcCallFacts hC he rfl ?_); refine wpAny_bind (wpAny_pure (wpAny_pure ?_)); refine ⟨plainId_quiet (F.excBase_ValueError).init.plain _, codeAny_builtin (F.excBase_ValueError).initEntry ?_⟩
  exact exc_init_tree (cls := .ref C) (t0 := t0) (dv := none) (c2 := .none) (c3 := .none) (b4 := .bool false) he (sl1 v) fun h' k' e' t' => hq h' h.objs.size k' e'
/-- the globals as __init__ needs them -/
structure GlobAt (mg : Str → Option Value) (h : Heap) : Prop where
  g : h.Ns mainGlobals mg
  b : ∃ mb, h.Ns builtinsNs mb ∧ mb "super" = some (.type "super")
  lim : h.NoLimit
theorem GlobAt.keeps {mg : Str → Option Value} {h h' : Heap} (G : GlobAt mg h) (k : ∀ b o, h.get? b = some o → h'.get? b = some o) : GlobAt mg h' := by
  obtain ⟨mb, b1, b2⟩ := G.b
  exact ⟨G.g.keeps k, ⟨mb, b1.keeps k, b2⟩, G.lim.keeps k⟩
/-- what __init__ leaves of the exception at x -/
structure Inited (h h' : Heap) (x C : Addr) (v : Value) : Prop where
  keep : ∀ b o, b ≠ x → h.get? b = some o → h'.get? b = some o
  obj : ∃ t dx, h'.get? x = some { cls := .ref C, dict := some dx, data := .fields #[.ref t, .none, .none, .none, .bool false, .none] } ∧ h.objs.size ≤ dx ∧ dx ≠ x ∧ h'.Ns1 dx (fun y => if y = "value" then some v else none)
section
variable {prog : Program} {w : World} {A : Around} {E : Value → Shared → Prop} {R : Result → Shared → Prop} {s : Shared} {K : Frag} {mg : Str → Option Value} {C D fI : Addr}
theorem arm_init (T : ArmAt prog K C D fI) (hsup : mg "super" = none) {x t0 : Addr} {v : Value} (X : K.In s.heap) (G : GlobAt mg s.heap) (hx : s.heap.get? x = some (excO C t0)) (hxn : K.lookup x = none) (hroom : A.depth < recursionLimit)
    (hq : ∀ h' tk, Inited s.heap h' x C v → R (.ok (.ret .none)) { s with heap := h', toks := tk }) :
    codeAny (model prog w) A (.call (.ref fI) ⟨[.ref x, v], []⟩) R s := by
  obtain ⟨oc, od, kV, doc, pm, an, cda, cc, ct, osl, vs, file, tf, ccl, cl, cdd, cld, ccs, csl, ho, hcd, hcode, hvs, hfile, hcell⟩ := T.fn
  obtain ⟨nm, q, N, bs, bm, sn, sub, ab, col, dd, k0, k1, k2, k3, k5, hC, hbm⟩ := T.cls
  have hcl : clsIn K C = some { name := nm, bases := bs, mro := .ref C :: bm, ns := N, qualname := q, hasDict := true, slotNames := sn, subclasses := sub, abstract := ab, collection := col, hasDel := false } := by unfold clsIn; rw [hC] <;> rfl
  refine ks_codeAny_call_defAt (fd := ksFn "__init__" "ArmError.__init__" armArgs armBody armScope .none kV doc pm an (.ref cda) ct cc) (binds := [("self", .ref x), ("value", v)]) hroom (X _ _ ho) rfl G.lim (codeRec_of X hcd) rfl (BindsTo.of_eq (by first | rfl | with_unfolding_all rfl)) (show ∀ y ∈ armScope.names, y.2 ≠ .cell by decide) (fun y hy => ?_) (fun h₁ hn k => ?_) rfl rfl rfl
  · rcases List.mem_cons.mp hy with rfl | hy
    · rfl
    · rcases List.mem_cons.mp hy with rfl | hy
      · rfl
      · cases hy
  have X₁ : K.In h₁ := X.keeps k
  have G₁ := G.keeps k
  have hx₁ := k _ _ hx
  have hLs : s.heap.objs.size < h₁.objs.size := hn.lt
  have hxL : x ≠ s.heap.objs.size := Nat.ne_of_lt (Heap.lt_size hx)
  obtain ⟨hp, g, d, tk, os⟩ := s
  obtain ⟨cdD, hD⟩ := T.clD
  obtain ⟨mb, hb, hbs⟩ := G₁.b
  obtain ⟨oD, hD1, hD2⟩ : ∃ oD, h₁.get? D = some oD ∧ oD.data = .cls cdD := by
    unfold clsIn at hD
    split at hD
    · rename_i c d cd' sl ho'
      cases hD
      exact ⟨_, X₁ _ _ ho', rfl⟩
    · cases hD
  have I : InstAt h₁ x (excO C t0) C none := ⟨hx₁, rfl, rfl, trivial⟩
  refine ks_wpAt_execs_cons ?_
  refine ks_wpAt_Expr_any ?_
  refine ks_wpAt_MethodCall ?_
  refine ks_wpAt_super_base (env := ksEnv "ArmError.__init__" armScope hp.objs.size fI (.ref cda) cc) rfl rfl rfl rfl (X₁ _ _ ho) rfl rfl rfl (X₁ _ _ hcode) rfl hvs hfile T.top ?_
  refine ks_loadName_global rfl rfl (loadGlobal_builtin (env := ksEnv "ArmError.__init__" armScope hp.objs.size fI (.ref cda) cc) G₁.g hsup hb hbs ⟨rfl, ?_⟩)
  refine wpAny_loadName_free rfl rfl rfl ⟨_, X₁ _ _ hcell, rfl⟩ ?_
  refine wpAny_loadName_local rfl rfl hn (by first | rfl | with_unfolding_all rfl | kernel_rfl) ?_
  refine ks_wpAny_isType_cls hD1 hD2 ⟨rfl, ?_⟩
  refine ks_wpAny_call_super hD1 hD2 hx₁ rfl (fun c e => by cases e) (looks_mroIn X₁ T.mD) (fun h₂ e₂ k₂ => ?_)
  have X₂ : K.In h₂ := X₁.keeps k₂
  have I₂ : InstAt h₂ x (excO C t0) C none := ⟨k₂ _ _ hx₁, rfl, rfl, trivial⟩
  have hm := T.sm
  unfold ks_superIn at hm
  rw [hcl] at hm
  refine kxs_getMethod kxs_ValueError e₂ (looks_opaque X₂ T.th) (l₀ := .ref C :: bm) (fun A Q E s k q => wpAny_bind ((looks_clsIn X₂ hcl) A _ E s k (wpAny_pure q))) rfl X₂ hm (I₂.type.andThen (looks_subIn X₂ T.vC)) (ks_ne X₂ I₂ hcl) rfl ?_
  have hmw : (h₂.push (kxs_mw "ValueError.__init__" x)).get? h₂.objs.size = some (kxs_mw "ValueError.__init__" x) := Heap.get?_push_at rfl rfl
  have k₃ : ∀ b o, h₂.get? b = some o → (h₂.push (kxs_mw "ValueError.__init__" x)).get? b = some o := fun b o e => Heap.get?_push_of_some _ e
  have hn₃ := (hn.keeps k₂).keeps k₃
  have hx₃ := k₃ _ _ (k₂ _ _ hx₁)
  refine mw_args (i := "ValueError.__init__") (x := x) (ld_loc hn₃ (v := v) (by first | rfl | with_unfolding_all rfl | kernel_rfl) ⟨hmw, ?_⟩ rfl rfl)
  refine mw_call (k₃ _ _ (k₂ _ _ (k _ _ (X _ _ hC)))) hx₃ hmw fun h₄ t1 k₄ e₄ => ?_
  have hLx : hp.objs.size ≠ x := fun z => hxL z.symm
  have old : ∀ b o, b ≠ x → h₁.get? b = some o → h₄.get? b = some o := fun b o hb e => k₄ b o hb (k₃ b o (k₂ b o e))
  have hn₄ : h₄.Ns hp.objs.size _ := hn₃.at fun o e => k₄ _ o hLx e
  have X₄ : K.In h₄ := fun a o e => old a o (fun z => by
    rw [z, hxn] at e; cases e) (X₁ a o e)
  show PySem.wpAt _ _ _ (execs _ _) _ _ _
  refine wpAt_of_wpAny (wpAny_execs_cons (plainObj_wpAny_Assign_Attribute ?_))
  refine ld_loc hn₄ (v := v) (by first | rfl | with_unfolding_all rfl | kernel_rfl) (ld_loc hn₄ (v := .ref x) (by first | rfl | with_unfolding_all rfl | kernel_rfl) ?_ rfl rfl) rfl rfl
  refine set_plain X₄ (ox := excO C t1) (od := none) ⟨e₄, rfl, rfl, trivial⟩ T.sa ?_
  refine exc_osa X₄ e₄ hcl (show refsVE (.ref C :: bm) = true from hbm) rfl T.noN (fun h₅ tk₅ dx k₅ dn dne hx₅ hn₅ => ?_)
  show wpAny _ _ (execs _ _) _ _ _
  have z : hp.objs.size ≤ h₄.objs.size := Nat.le_of_lt hn₄.lt
  exact wpAny_execs_nil (hq h₅ tk₅ ⟨fun b o hb e => k₅ b o hb (old b o hb (k b o e)), t1, dx, hx₅, Nat.le_trans z dn, dne, hn₅⟩)
/-- a made exception of the class at C, holding v under value -/
structure ArmMade (h h' : Heap) (e C : Addr) (v : Value) : Prop where
  keep : ∀ b o, h.get? b = some o → h'.get? b = some o
  new : h.objs.size ≤ e
  obj : ∃ t d, h'.get? e = some { cls := .ref C, dict := some d, data := .fields #[.ref t, .none, .none, .none, .bool false, .none] } ∧ h.objs.size ≤ d ∧ d ≠ e ∧ h'.Ns1 d (fun y => if y = "value" then some v else none)
theorem arm_made (T : ArmAt prog K C D fI) (hsup : mg "super" = none) {v : Value} (X : K.In s.heap) (G : GlobAt mg s.heap) (hroom : A.depth + 1 < recursionLimit)
    (hq : ∀ h' tk e, ArmMade s.heap h' e C v → R (.ok (.ret (.ref e))) { s with heap := h', toks := tk }) :
    codeAny (model prog w) A (.call (.ref C) ⟨[v], []⟩) R s := by
  obtain ⟨nm, q, N, bs, bm, sn, sub, ab, col, dd, k0, k1, k2, k3, k5, hC, hbm⟩ := T.cls
  obtain ⟨hp, g, dr, tk, os⟩ := s
  have k : ∀ b o, hp.get? b = some o → ((hp.push (kdv_tup [v])).push (excO C hp.objs.size)).get? b = some o := fun b o e => Heap.get?_push_of_some _ (Heap.get?_push_of_some _ e)
  have hget : ((hp.push (kdv_tup [v])).push (excO C hp.objs.size)).get? (hp.objs.size + 1) = some (excO C hp.objs.size) := by heap_get
  have hnx : K.lookup (hp.objs.size + 1) = none := by
    cases e : K.lookup (hp.objs.size + 1) with
    | none => rfl
    | some o =>
      have z : hp.get? (hp.objs.size + 1) = some o := X _ _ e
      exact absurd (Nat.lt_of_succ_lt (Heap.lt_size z)) (Nat.lt_irrefl _)
  refine call_own F.excBase_ValueError (fun Y => refsVE_contains Y bm hbm) (X _ _ hC) (looks_findIn X T.iC) (fun self => bind_fn X self T.tC) (sl1 v) ?_
  refine arm_init (s := ⟨(hp.push (kdv_tup [v])).push (excO C hp.objs.size), g, dr, tk, os⟩) T hsup (X.keeps k) (G.keeps k) hget hnx ?_ fun h' tk' M => ?_
  · show A.depth + 1 < recursionLimit
    exact hroom
  · obtain ⟨t, dx, hx, dn, dne, hns⟩ := M.obj
    have old : ∀ b o, hp.get? b = some o → h'.get? b = some o := fun b o e => M.keep b o (Nat.ne_of_lt (Nat.lt_succ_of_lt (Heap.lt_size e))) (k b o e)
    have dn' : ((hp.push (kdv_tup [v])).push (excO C hp.objs.size)).objs.size ≤ dx := dn
    rw [Heap.size_push, Heap.size_push] at dn'
    exact ⟨rfl, hq h' tk' (hp.objs.size + 1) ⟨old, Nat.le_succ _, t, dx, hx, Nat.le_trans (Nat.le_succ_of_le (Nat.le_succ _)) dn', dne, hns⟩⟩
end
end ArmX


set_option linter.all false
set_option autoImplicit false
set_option Elab.async false
set_option maxRecDepth 100000
set_option maxHeartbeats 2000000
/-! DLe2: raise of an error class of the module. -/
namespace DL
open PySem PySem.Spec L2
open PyProof.Rows hiding St b2i
/-- an error class as the module holds it: ArmError over it -/
structure ExcAt (P : Program) (K : PySem.W.Frag) (mg : Str → Option Value) (c : Str) : Prop where
  ex : ∃ C D fI, mg c = some (.ref C) ∧ ArmX.ArmAt P K C D fI
  sup : mg "super" = none
section
variable {X : Cx} {pins : List (Addr × Obj)} {σ : St} {H : Hp} {s : Shared}
theorem Inv.globAt (I : Inv X pins σ H s) : ArmX.GlobAt X.mg s.heap := by
  refine ⟨I.mod.glob.keeps I.bk, ?_, I.nolimit⟩
  obtain ⟨mb, h1, h2⟩ := I.mod.blt
  exact ⟨mb, h1.keeps I.bk, (h2 _ (by decide)).trans (by first | rfl | boot_by_name | kernel_rfl)⟩
theorem relO_value {v : V} {v' : Value} (r : RelV v v') (f : Str) : RelO (List.lookup f [(("value" : Str), v)]) (if f = "value" then some v' else none) := by
  by_cases hw : f = "value"
  · subst hw; rw [if_pos rfl]
    have q : List.lookup ("value" : Str) [(("value" : Str), v)] = some v := by simp [List.lookup]
    rw [q]; exact r
  · have qw : (f == ("value" : Str)) = false := by simpa using hw
    have q2 : List.lookup f [(("value" : Str), v)] = none := by simp [List.lookup, qw]
    rw [if_neg hw, q2]; trivial
end
section
variable {X : Cx} {C D fI : Addr}
/-- the class at C, called with one value -/
def tMkArm (C : Addr) (ta : TA) : St → Hp → XK → Prop := fun σ H Q => ta σ H fun vs H1 => ∃ v, vs = [v] ∧ ∀ d, H1 d = none → Q (.ref C) (some d) (upd H1 d (.xd [(("value" : Str), v)]))
theorem pmk_arm {a : Expr} {ta : TA} {x : Str} {p pos : Pos} {k : Nat} (gC : X.mg x = some (.ref C)) (T : ArmX.ArmAt X.prog X.K C D fI) (hs : X.mg "super" = none) (hr : Room k X.A) (ha : PA X [a] ta) (hg : Gl X x) (hdb : (x == ("__debug__" : Str)) = false)
    (he : starEach (a :: []) X.env = (false, eval a X.env) :: starEach [] X.env) (hpl : (backTo pos (starEach [] X.env)).any (·.1) = false) :
    PMk X (.Call (.Name x p) [a] [] pos) (tMkArm C ta) := by
  intro pins s σ H Q I h
  refine wpAny_Call_Name_kw (ld_glob I hg gC ?_ hdb)
  refine PySem.W.callWith_K (h₀ := X.base) I.ok.mod.kin T.kC (thn (ha.run pos pins s σ H _ I h) fun us s1 hh => ?_) he hpl
  obtain ⟨vs, H1, I1, r1, v, ev, q1⟩ := hh
  subst ev
  refine ⟨I1.kIn, ?_⟩
  cases r1 with
  | cons rv rn =>
    rename_i v' us'
    cases rn
    show wpAny _ _ (call (.ref C) [v']) _ _ _
    have G1 := Inv.globAt I1
    obtain ⟨hp, g, dr, tk, os⟩ := s1
    refine wpAny_call (ArmX.arm_made T hs I1.kIn G1 (by have := hr.dp; omega) fun h' tk' e M => ?_)
    show MkP X pins σ Q (.ref e) ⟨h', g, dr, tk', os⟩
    obtain ⟨t, d, hoe, dn, dne, hns⟩ := M.obj
    obtain ⟨G', g1, g2⟩ := restrict h' fun b => decide (b ≠ e)
    have gk : ∀ b, b ≠ e → G'.get? b = h'.get? b := fun b hb => g1 b (decide_eq_true hb)
    have ge : G'.get? e = none := g2 e (by simp)
    have old : ∀ b o, hp.get? b = some o → G'.get? b = some o := fun b o q => (gk b (Nat.ne_of_lt (Nat.lt_of_lt_of_le (Heap.lt_size q) M.new))).trans (M.keep b o q)
    have ob : ObjOk X.prog X.w (upd H1 d (.xd [(("value" : Str), v)])) G' d (.xd [(("value" : Str), v)]) := ⟨_, hns.at (fun o q => (gk d dne).trans q), fun f => relO_value rv f⟩
    have J : Inv X pins σ (upd H1 d (.xd [(("value" : Str), v)])) ⟨G', g, dr, tk', os⟩ := I1.laid (t' := tk') old dn ob
    refine ⟨e, _, _, ⟨G', g, dr, tk', os⟩, _, .ref C, some d, rfl, J, fun b o q => ?_, ge, hoe, ⟨rfl, rfl⟩, rfl, rfl, ?_, rfl, I1.bare, raises_own T.exC T.tyC, q1 d (I1.hok.fresh dn)⟩
    · by_cases hb : b = e
      · have q' : G'.get? b = some o := q
        rw [hb, ge] at q'; cases q'
      · exact (gk b hb).symm.trans q
    · rw [upd_ne (Ne.symm dne)]
      exact I1.hok.fresh M.new
end
section
variable {T : List (Addr × Str)} {X : Cx} {a : Expr} {fa : EF} {pos p pos2 : Pos} {x : Str}
theorem px_raise {k : Nat} (hc : X.calm = true) (h : ExcAt X.prog X.K X.mg x) (hr : Room k X.A) (ha : PX T X a fa) (hg : Gl X x := by rfl) (hdb : (x == ("__debug__" : Str)) = false := by decide) (he : starEach (a :: []) X.env = (false, eval a X.env) :: starEach [] X.env := by rfl) (hpl : (backTo pos (starEach [] X.env)).any (·.1) = false := by rfl) :
    PXS T X (.Raise (some (.Call (.Name x p) [a] [] pos)) none pos2) (sRaise x fa) := by
  obtain ⟨C, D, fI, gC, TA'⟩ := h.ex
  refine ⟨fun W tk => PS.weak (ps_raise hc tk (pmk_arm gC TA' h.sup hr (pa_cons (hs := he) (ha.run W tk) pa_nil) hg hdb he hpl)) fun Y σ H q => ?_⟩
  obtain ⟨β, ρ, S, hs, he', q⟩ := q
  show tE _ _ _ _ _ _
  refine tE_st hs he' q fun d S1 v β1 H1 x1 k1 e1 r1 q1 => ?_
  refine ⟨v, rfl, fun dx hdx => ?_⟩
  exact q1 C dx v σ β1 _ (Ext.new hdx) (k1.new hdx) (e1.ext (Ext.new hdx).toExtW) gC upd_same (Rep.ext (Ext.new hdx).toExtW d v r1)
end
end DL


set_option linter.all false
set_option autoImplicit false
set_option Elab.async false
set_option maxRecDepth 100000
set_option maxHeartbeats 2000000
/-! DLe3: isinstance of a caught exception, its value. -/
namespace DL
open PySem PySem.Spec L2
open PyProof.Rows hiding St b2i
/-- which error class lies under which -/
structure SubAt (P : Program) (K : PySem.W.Frag) (mg : Str → Option Value) (sub : Str → Str → Option Bool) : Prop where
  ex : ∀ c c' b, sub c c' = some b → ∃ C C' D fI, mg c = some (.ref C) ∧ mg c' = some (.ref C') ∧ ArmX.ArmAt P K C D fI ∧ PySem.W.kitOne K (.ref C) (.ref C') = some b ∧ PySem.W.exmOne K (.ref C) (.ref C') = some b
/-- a kept exception as an instance -/
theorem exv_inst {X : Cx} {pins : List (Addr × Obj)} {σ : St} {H : Hp} {s : Shared} {C dx a : Addr} {x : V} (I : Inv X pins σ H s) (h1 : H a = some (ExV C dx a)) (h2 : H dx = some (.xd [(("value" : Str), x)])) :
    ∃ oe od u, PySem.W.InstAt s.heap a oe C (some od) ∧ PySem.W.lookIn "value" od = some (some u) ∧ RelV x u := by
  obtain ⟨⟨oe, vs, e1, z, e2⟩, _⟩ := (show ObjOk X.prog X.w H s.heap a (ExV C dx a) from I.hok a _ h1)
  obtain ⟨mA, hns, hr⟩ := (show ObjOk X.prog X.w H s.heap dx (.xd [(("value" : Str), x)]) from I.hok dx _ h2)
  obtain ⟨od, ho, hl⟩ := lookIn_ns hns
  have l : List.lookup ("value" : Str) [(("value" : Str), x)] = some x := by simp [List.lookup]
  obtain ⟨u, hu, ru⟩ := RelO.some_of (v := x) (o := mA "value") (by rw [← l]; exact hr "value")
  exact ⟨oe, od, u, ⟨e1, z.1, by unfold PySem.W.notCls; rw [e2] <;> rfl, by rw [z.2]; exact ho⟩, by rw [hl, hu], ru⟩
/-- isinstance(e, C'), e a kept exception -/
def rIsiX (P : Program) (K : PySem.W.Frag) : List V → Hp → VK → Prop := fun xs H Q => ∃ (a C dx C' D fI : Addr) (x : V) (b : Bool), xs = [.ref a, .ref C'] ∧ H a = some (ExV C dx a) ∧ H dx = some (.xd [(("value" : Str), x)]) ∧
  ArmX.ArmAt P K C D fI ∧ PySem.W.kitOne K (.ref C) (.ref C') = some b ∧ Q (.bl b) H
theorem call_isiX {X : Cx} : CallR X (.builtin "isinstance") (rIsiX X.prog X.K) := by
  intro pins s σ H xs us Q I r h
  obtain ⟨a, C, dx, C', D, fI, x, b, rfl, h1, h2, T, e, q⟩ := h
  obtain ⟨u1, u2, rfl, r1, r2⟩ := vals2 r
  cases (show u1 = Value.ref a from r1)
  cases (show u2 = Value.ref C' from r2)
  obtain ⟨oe, od, u, J, _, _⟩ := exv_inst I h1 h2
  have hc : (PySem.W.clsIn X.K C).isSome = true := by
    obtain ⟨cd, hc, _⟩ := PySem.W.any_some T.hdC
    rw [hc]; rfl
  exact PySem.W.kia_one (PySem.W.kitx_exc (ox := oe) (od := some od) hc T.ga T.gg T.exC T.ca T.cn T.ct T.cm) I.kIn J e (fun z => nomatch z) fun tk => ⟨.bl b, H, I.tok tk, rfl, q⟩
section
variable {T : List (Addr × Str)} {X : Cx} {a b c e : Expr} {fa fb fc : EF} {pos p pos2 : Pos} {ga : AF} {es : List Expr} {x : Str} {sub : Str → Str → Option Bool}
theorem ok_isiX (hs : SubAt X.prog X.K X.mg sub) : CallOk T X (fun xs H Q => rIsi X.K xs H Q ∨ rIsiX X.prog X.K xs H Q) (fIsi sub) := fun W σ β H S xs vs Q k l h => by
  unfold fIsi at h
  split at h
  · rename_i _ x t
    refine .inl (ok_isi (T := T) (fun _ _ => none) (fun _ _ => rfl) W σ β H S [x, .ty t] vs Q k l ?_)
    exact h
  · rename_i _ c d c'
    cases eb : sub c c' with
    | none => rw [eb] at h; exact h.elim
    | some b =>
      rw [eb] at h
      obtain ⟨v, u, rfl, r1, r2⟩ := RepL.two l
      obtain ⟨a, C, dx, y, rfl, g1, g2, g3, g4⟩ := r1
      obtain ⟨C', rfl, g5⟩ := r2
      obtain ⟨C1, C1', D, fI, m1, m2, A, e1, _⟩ := hs.ex c c' b eb
      cases (show some (Value.ref C) = some (Value.ref C1) from (show X.mg c = _ from g1).symm.trans m1)
      cases (show some (Value.ref C') = some (Value.ref C1') from (show X.mg c' = _ from g5).symm.trans m2)
      exact .inr ⟨a, C, dx, C', D, fI, y, b, rfl, g2, g3, A, e1, post.val h k rfl⟩
  · exact h.elim
theorem pb_isinstance (h : SubAt X.prog X.K X.mg sub) (hm : X.mg "isinstance" = none) (ha : PXA T X (e :: es) ga) (hg : Gl X "isinstance" := by rfl) (he : starEach (e :: es) X.env = (false, eval e X.env) :: starEach es X.env := by rfl) (hpl : (backTo pos (starEach es X.env)).any (·.1) = false := by rfl) :
    PX T X (.Call (.Name "isinstance" p) (e :: es) [] pos) (eCall (fIsi sub) ga) := px_blt (call_isi.or call_isiX) (ok_isiX h) hg hm (by decide +kernel) ha (by decide) (by decide) he hpl
/-- e.value -/
def tValue (P : Program) (K : PySem.W.Frag) (te : TE) : TE := fun σ H Q => te σ H fun v H1 => ∃ (a C dx D fI : Addr) (x : V), v = .ref a ∧ H1 a = some (ExV C dx a) ∧ H1 dx = some (.xd [(("value" : Str), x)]) ∧ ArmX.ArmAt P K C D fI ∧ Q x H1
theorem pe_value {te : TE} (he : PE X a te) (hb : attributeBase a "value" X.env (eval a X.env) = eval a X.env) : PE X (.Attribute a "value" pos) (tValue X.prog X.K te) := by
  refine ⟨fun pins s σ H Q I h => attr_of hb (thn (he.run pins s σ H _ I h) fun u s1 hh => ?_)⟩
  obtain ⟨v, H1, I1, rv, aa, C, dx, D, fI, x, rfl, h1, h2, A, q⟩ := hh
  cases (show u = Value.ref aa from rv)
  obtain ⟨oe, od, u, J, l1, ru⟩ := exv_inst I1 h1 h2
  exact HandSPX.exc_get I1.kIn J A.ga A.gg A.exC (PySem.W.findObj_own A.hdC A.noN rfl l1) (handed_of ru) ⟨x, H1, I1.tok _, ru, q⟩
theorem px_value (h : SubAt X.prog X.K X.mg sub) (ha : PX T X a fa) (hb : attributeBase a "value" X.env (eval a X.env) = eval a X.env := by rfl) : PX T X (.Attribute a "value" pos) (eValue sub fa) :=
  ⟨fun W t => PE.weak (pe_value (ha.run W t) hb) fun σ H Q ⟨β, ρ, S, hs, he, q⟩ => tE_bind hs he q fun d S1 v β1 H1 x1 k1 e1 r1 q1 => by
    cases d with
    | exo c d =>
      by_cases hc : sub c c = some true
      · simp only [if_pos hc] at q1
        obtain ⟨aa, C, dx, y, rfl, g1, g2, g3, g4⟩ := r1
        obtain ⟨C1, C1', D, fI, m1, m2, A, e1, _⟩ := h.ex c c true hc
        cases (show some (Value.ref C) = some (Value.ref C1) from (show X.mg c = _ from g1).symm.trans m1)
        exact ⟨aa, C, dx, D, fI, y, rfl, g2, g3, A, post.val q1 k1 g4⟩
      · simp only [if_neg hc] at q1
        exact q1.elim
    | _ => exact q1.elim⟩
end
end DL


set_option linter.all false
set_option autoImplicit false
set_option Elab.async false
set_option maxRecDepth 100000
set_option maxHeartbeats 2000000
/-! DLe4: an exception that is caught and kept. -/
namespace DL
open PySem PySem.Spec L2
open PyProof.Rows hiding St b2i
section
variable {X : Cx} {pins : List (Addr × Obj)} {σ σ' : St} {H H' : Hp} {s sI : Shared}
/-- the exception that was pinned is known from now on; sI: the state ahead of it -/
theorem Inv.track {a C dx : Addr} {oe : Obj} {vs : Array Value} (J : Inv X pins σ' H' sI) (hn : sI.heap.get? a = none) (hx : X.ex = []) (I : Inv X ((a, oe) :: pins) σ H s) (hz : Zc (.ref C) (some dx) oe) (hd : oe.data = .fields vs) :
    Inv X pins σ (upd H a (ExV C dx a)) s := by
  obtain ⟨ea, na, nL, nF, nc⟩ := I.pin (a, oe) (by simp)
  have nox : ∀ b : Addr, b ∉ X.ex := fun b z => by rw [hx] at z; cases z
  have ne0 : ∀ b o, X.s_0.heap.get? b = some o → b ≠ a := fun b o e z => by
    obtain ⟨o', e'⟩ := J.base.there b o e (nox b)
    rw [z, hn] at e'; cases e'
  have neH : ∀ b o, H b = some o → b ≠ a := fun b o e z => by rw [z, na] at e; cases e
  have cell : ∀ y c, X.env.cells.lookup y = some c → c ≠ a := fun y c e z => by
    obtain ⟨v, o, e1, e2⟩ := I.cell y c e
    rw [z, ea] at e1; cases e1
    exact nc v e2
  refine ⟨I.ok, I.os, I.bare, ⟨I.base.keep, I.base.slot, fun b o e n q => ?_, I.base.there, fun b xs e => ?_, fun b o u e => ?_, fun b ps e => ?_⟩, I.loc, I.cell, ?_, fun y c e => ?_, fun p hp => ?_, ?_, I.len⟩
  · rw [upd_ne (ne0 b o e)]; exact I.base.free b o e n q
  · have z := I.base.tups b xs e
    rw [upd_ne (neH _ _ z)]; exact z
  · have z := I.base.frzs b o u e
    rw [upd_ne (neH _ _ z)]; exact z
  · obtain ⟨more, z⟩ := I.base.tbls b ps e
    exact ⟨more, by rw [upd_ne (neH _ _ z)]; exact z⟩
  · rw [upd_ne (Ne.symm nL)]; exact I.free
  · rw [upd_ne (cell y c e)]; exact I.freeC y c e
  · have hne : p.1 ≠ a := fun z => by
      have e := (J.pin p hp).1
      rw [z, hn] at e; cases e
    obtain ⟨h1, h2, h3⟩ := I.pin p ((List.mem_append.mp hp).elim (List.mem_append_left _) fun z => List.mem_append_right _ (List.mem_cons_of_mem _ z))
    exact ⟨h1, by rw [upd_ne hne]; exact h2, h3⟩
  · exact I.hok.laidN (fun _ _ e => e) na ⟨⟨oe, vs, ea, hz, hd⟩, ⟨oe, ea⟩, fun h1 h2 ⟨o, v, e1, r⟩ k => ⟨o, v, k _ e1, r⟩⟩
end
/-- what a clause that keeps its exception wishes: the class is named; the suite runs with the exception in slot i; then it is known -/
def wKeep (K : PySem.W.Frag) (c : Value) (i : Nat) (ts : Addr → Value → Option Addr → TS) (Y : Ends) : WX := fun cls d σ H =>
  PySem.W.exmOne K cls c = some true ∧ ∃ C dx, cls = .ref C ∧ d = some dx ∧ ∀ a, H a = none → ts a cls d { nx := fun σ' H' => H' a = none → Y.nx (σ'.set i none) (upd H' a (ExV C dx a)), rt := fun _ _ => False } (σ.set i (some (.ref a))) H
section
variable {X : Cx} {x n : Str} {c : Value} {i : Nat} {body suite : List Stmt} {b₀ : Stmt} {np pos pos' : Pos} {tb : WX → TS} {ts : Addr → Value → Option Addr → TS}
theorem ps_try_keep (hs : X.stack = X.env :: X.outer) (hf : X.env.frame = some X.env.locals) (hx : X.ex = []) (hN : X.N.Nodup) (hi : X.N[i]? = some n) (hln : X.env.kindOf n = some .local) (hc : Names X x c)
    (hb : ∀ (W : WX) (pn : List (Addr × Obj)) (xe : Value → Shared → Prop), Takes (X.tr pn xe) W → PSs (X.tr pn xe) body (tb W))
    (hsu : ∀ (a : Addr) (oe : Obj) (cls : Value) (d : Option Addr) (pn : List (Addr × Obj)), PSs (X.suite a ((a, oe) :: pn)) (b₀ :: suite) (ts a cls d)) :
    PS X (.Try body [.ExceptHandler (some (.Name x np)) (some n) (b₀ :: suite) pos'] [] [] pos) (fun Y σ H => tb (wKeep X.K c i ts Y) Y σ H) := by
  refine ⟨fun pins s σ H Y I h => wpAny_Try_except ?_⟩
  have fr : X.A.frames = some (X.env :: X.outer) := by rw [I.ok.frames, hs]
  refine wpAny_mono ((hb (wKeep X.K c i ts Y) (X.pn ++ pins) _ (fun u s' z => ?_)).run [] s σ H Y (I.toTry _) h) (fun f s1 hsp => ?_) fun e s1 he => he
  · obtain ⟨a, B, sI, pins', σ', H', cls, d, rfl, J', nb, up, sky, na, os, ag, hname, C, dx, rfl, rfl, hyes⟩ := z
    have J : Inv X pins σ' H' sI := J'.ofTry I.ok
    show wpAny (model X.prog X.w) X.A (noteFrame (.ref a) X.env) _ _ _
    refine Sky.land Zc.steady fr hf (show Sky B (X.env :: X.outer) a (Zc (.ref C) (some dx)) X.env.locals s'.heap by rw [← hs]; exact sky) fun h3 fl3 up3 => ?_
    have J3 : Inv X pins σ' H' { s' with heap := h3 } := J.landed nb fl3.1 (up.trans up3) os ag
    obtain ⟨oe3, vs3, he3, hz3, hd3⟩ := fl3.there
    have out : a ∉ frs (X.env :: X.outer) := fun hm => by
      obtain ⟨_, o', e', hnf⟩ := fl3.2.2.1.mem hm
      rw [he3] at e'; cases e'; exact hnf _ hd3
    have nL : a ≠ X.env.locals := fun z => out (List.mem_filterMap.mpr ⟨X.env, .head _, by rw [hf, z]⟩)
    have nF : a ∉ X.fs := fun hm => by
      obtain ⟨e, he, q⟩ := List.mem_filterMap.mp hm
      exact out (List.mem_filterMap.mpr ⟨e, .tail _ he, q⟩)
    have hnone : sI.heap.get? a = none := by
      cases e : sI.heap.get? a with
      | none => rfl
      | some o => exact absurd ((nb a o e (by rw [hs]; exact out)).symm.trans fl3.2.1) (by simp)
    have S3 := J3.suite he3 hd3 na nL nF
    refine wpAny_handleBy_cons (codeAny_handlers_test ?_) (by intro q; cases q)
    have LT : PySem.W.Looks (model X.prog X.w) h3 (typeOf (.ref a)) (.ref C) := fun A Q E s k q => wpAny_typeOf_ref (k _ _ he3) (by rw [hz3.1]; exact q)
    have test : ∀ {Q : Value → Shared → Prop} {E : Value → Shared → Prop}, Q c { s' with heap := h3 } → wpAny (model X.prog X.w) (X.A.mark (some (.ref a))) (eval (.Name x np) X.env) Q E { s' with heap := h3 } := fun {Q E} q => by
      obtain ⟨hg, hdb, hm | ⟨hm, hv, hnn⟩⟩ := hc
      · exact ld_glob (X := X.suite a ((a, oe3) :: (X.pn ++ pins))) S3 hg hm q hdb
      · exact ld_blt (X := X.suite a ((a, oe3) :: (X.pn ++ pins))) S3 hg hm hv q hnn hdb
    refine test ((PySem.W.exm_one (M := model X.prog X.w) J3.kIn LT hname).here ?_)
    refine codeAny_handlers_suite_as (HandSPX.lands_againZ fl3 fun h4 fl4 up4 => ?_)
    have J4 : Inv X pins σ' H' { s' with heap := h4 } := J.landed nb fl4.1 ((up.trans up3).trans up4) os ag
    obtain ⟨oe4, vs4, he4, hz4, hd4⟩ := fl4.there
    refine store_ok (X := X.suite a ((a, oe4) :: (X.pn ++ pins))) (v := .ref a) (J4.suite he4 hd4 na nL nF) hN hi (.inl hln) rfl (fun s5 S5 => ?_) (.inr hln)
    refine wpAny_mono ((hsu a oe4 (.ref C) (some dx) (X.pn ++ pins)).run [] s5 _ H' _ S5 (hyes a na)) (fun f s6 hsp => ?_) (fun _ _ z => z.elim)
    cases f with
    | next =>
      obtain ⟨σ6, H6, S6, q6⟩ := hsp
      have P6 := S6.pin (a, oe4) (by simp)
      have K6 : Inv X ((a, oe4) :: pins) σ6 H6 s6 := ⟨I.ok, S6.os, S6.bare, S6.base, S6.loc, S6.cell, S6.free, S6.freeC, fun p hp => by
        rcases List.mem_append.mp hp with z | z
        · exact S6.pin p (by simp [z])
        · rcases List.mem_cons.mp z with z | z
          · rw [z]; exact P6
          · exact S6.pin p (by simp [z]), S6.hok, S6.len⟩
      refine gone_ok K6 hN hi hln fun s7 K7 => ⟨_, _, Inv.track J hnone hx K7 hz4 hd4, q6 P6.2.1⟩
    | brk => exact hsp.elim fun _ z => z.elim fun _ z => z.2.elim
    | cont => exact hsp.elim fun _ z => z.elim fun _ z => z.2.elim
    | ret u => exact hsp.elim fun _ z => z.elim fun _ z => z.elim fun _ z => z.2.2.elim
  · cases f with
    | next => exact wpAny_execs_nil (by obtain ⟨σ1, H1, I1, q1⟩ := hsp; exact ⟨_, _, I1.ofTry I.ok, q1⟩)
    | brk => obtain ⟨σ1, H1, I1, q1⟩ := hsp; exact ⟨_, _, I1.ofTry I.ok, q1⟩
    | cont => obtain ⟨σ1, H1, I1, q1⟩ := hsp; exact ⟨_, _, I1.ofTry I.ok, q1⟩
    | ret u => obtain ⟨v1, σ1, H1, I1, r1, q1⟩ := hsp; exact ⟨_, _, _, I1.ofTry I.ok, r1, q1⟩
end
end DL


set_option linter.all false
set_option autoImplicit false
set_option Elab.async false
set_option maxRecDepth 100000
set_option maxHeartbeats 2000000
/-! DLe5: _law_heard(lambda: body). -/
namespace DL
open PySem PySem.Spec L2 LamX
open PyProof.Rows hiding St b2i
section
variable {X : Cx} {pins : List (Addr × Obj)} {σ σ0 : St} {H : Hp} {s : Shared}
/-- call(), call being the lambda, in the def that got it: the slots are σ0 there, also for what is wished of an exception -/
theorem act_at {CXg : CXT} {Eg : XK} {Ng : List Str} {qg : Str} {sg : Scope} {g f c' : Addr} {cdg pm ctv : Value} {params : Arguments} {body : Expr} {scope : Scope} {k i : Nat} {a : Str} {pn : List (Addr × Obj)} {xe : Value → Shared → Prop} {W : WX} {E : XK} {tb : TE} {p1 p2 : Pos}
    (I : Inv X pins σ H s) (L : LamS X.env.scope scope) (hf : s.heap.get? f = some (PySem.W.kla_obj "<lambda>" (X.env.qual ++ "<lambda>") params body scope (cloFrom X.env.cells scope.names []) pm c' ctv)) (fn : H f = none) (ff : f ∉ frs X.stack)
    (hbind : bindArgs (PySem.W.kla_fn "<lambda>" (X.env.qual ++ "<lambda>") params body scope (cloFrom X.env.cells scope.names []) pm (.ref c') ctv) ⟨[], []⟩ = pure [])
    (tk : Takes ((cxOf CXg X.prog X.w X.K X.mg X.base Ng qg sg g cdg X.A X.stack s H Eg).tr pn xe) W) (hW : ∀ cls d H', E cls d H' → W cls d σ0 H') (hr : Room (k + 1) (X.A.deeper (envOfC qg sg s.heap.objs.size g cdg)))
    (hbody : ∀ (A : Around) (outer : List PySem.Env) (s : Shared) (H : Hp), Room k (A.deeper (lamEnv X scope s.heap.objs.size f c')) → PE (lamCx X A outer s H E scope f c') body tb)
    (hN : Ng[i]? = some a) (hv : Vis sg a) (hd : (a == ("__debug__" : Str)) = false) (hcd : (a == ("__classdict__" : Str)) = false) :
    PE ((cxOf CXg X.prog X.w X.K X.mg X.base Ng qg sg g cdg X.A X.stack s H Eg).tr pn xe) (.Call (.Name a p1) [] [] p2) (fun σZ HZ Q => σZ = σ0 ∧ σ0[i]? = some (some (.ref f)) ∧ HZ c' = some (CodeO c' (X.env.qual ++ "<lambda>")) ∧ tb σ HZ Q) := by
  refine ⟨fun pinsZ sZ σZ HZ Q IZ ⟨eσ, hs, hc, ht⟩ => ?_⟩
  rw [eσ] at IZ ⊢
  have nm := (pe_var (X := (cxOf CXg X.prog X.w X.K X.mg X.base Ng qg sg g cdg X.A X.stack s H Eg).tr pn xe) (pos := p1) (i := i) hN hv hd hcd).run pinsZ sZ σ0 HZ (fun v H1 => v = .ref f ∧ H1 = HZ) IZ ⟨.ref f, hs, rfl, rfl⟩
  refine wpAny_Call_Name_kw (thn nm fun u s1 ⟨v, H1, I1, r1, ev, eH⟩ => ?_)
  rw [eH] at I1; rw [ev] at r1
  cases (show u = Value.ref f from r1)
  have fat : s1.heap.get? f = some (PySem.W.kla_obj "<lambda>" (X.env.qual ++ "<lambda>") params body scope (cloFrom X.env.cells scope.names []) pm c' ctv) := I1.base.keep f _ hf fn ff (fun z => nomatch (show f ∈ ([] : List Addr) from z))
  have un : Un (frs X.stack) [] H HZ s.heap s1.heap := I1.base
  obtain ⟨⟨oc, vs, t, co1, co2, co3⟩, _, _⟩ := I1.hok c' _ hc
  have run : codeAny (model X.prog X.w) (X.A.deeper (envOfC qg sg s.heap.objs.size g cdg)) (.call (.ref f) ⟨[], []⟩) (CR (L2.CX X.prog X.w) (envOfC qg sg s.heap.objs.size g cdg :: X.stack) X.prog X.w HZ s1 Q E) s1 := by
    refine PySem.W.kla_callFunE hr.depth fat rfl L.co L.gen rfl ⟨c', oc, vs, t, rfl, co1, co2, co3⟩ ?_
    rw [hbind]; refine wpAny_pure (wpAny_newFunctionEnv (fun y hy => (L.own y hy).2) (fun y hy => by cases hy) (fun h₁ hns hsb => ⟨I1.nolimit.fresh _ hsb, ?_⟩) L.kind)
    have kp : ∀ b o, s1.heap.get? b = some o → h₁.get? b = some o := fun b o e => hsb.extBut b o (Nat.ne_of_lt (Heap.lt_size e)) (Heap.get?_push_of_some _ e)
    show codeAny _ _ (.expr body (lamEnv X scope s1.heap.objs.size f c')) _ _
    have J := lam_start2 (E := E) (f := f) (c' := c') (tk := s1.toks + ([] : List (Str × Value)).length) I L I1.env0 hr.hd un hns kp
    refine PySem.W.kla_codeExpr (wpAny_mono ((hbody _ _ s1 HZ (hr.deeper _)).run [] _ _ HZ Q J ht) (fun v s' ⟨w', H', J', rv, q⟩ => ⟨w', H', J'.os, J'.bare, J'.base, J'.hok, rv, q⟩) fun e s' hq => hq)
  have wish : Takes ((cxOf CXg X.prog X.w X.K X.mg X.base Ng qg sg g cdg X.A X.stack s H Eg).tr pn xe) W := tk
  refine PySem.W.callWith_F0 ⟨_, _, _, _, fat⟩ (wpAny_call (codeAny_mono run fun r s' hq => ?_))
  match r, hq with
  | .error e, hq => exact wish e s' (XE.of_call (E := fun cls d H' => W cls d σ0 H') (W := W) I1 (fun cls d H' z => z) (by
      obtain ⟨x1, x2, x3, x4, x5, x6, x7, x8, x9, x10, x11, x12, x13⟩ := hq
      exact ⟨x1, x2, x3, x4, x5, x6, x7, x8, x9, x10, x11, x12, hW _ _ _ x13⟩))
  | .ok (.ret u), hq => exact I1.after hq
end
abbrev hdNames : List Str := ["call", "caught", "gave", "error"]
abbrev hdScope : Scope := { kind := .function, names := [(PySem.Str.ofString "call", .local), (PySem.Str.ofString "caught", .local), (PySem.Str.ofString "gave", .local), (PySem.Str.ofString "error", .local), (PySem.Str.ofString "ArmError", .globalImplicit)], isGenerator := false, isCoroutine := false, more := [] }
/-- the body of _law_heard -/
abbrev hdBody (q1 q2 q3 q4 q5 q6 q7 q8 q9 q10 q11 q12 q13 q14 q15 q16 q17 q18 q19 q20 q21 : Pos) : List Stmt :=
  [.Assign [.Tuple [.Name "caught" q1, .Name "gave" q2] 0 q3] (.Tuple [.Constant .none 0 q4, .Constant .none 0 q5] 0 q6) q7,
   .Try [.Assign [.Name "gave" q8] (.Call (.Name "call" q9) [] [] q10) q11] [.ExceptHandler (some (.Name "ArmError" q12)) (some "error") [.Assign [.Name "caught" q13] (.Name "error" q14) q15] q16] [] [] q17,
   .Return (some (.Tuple [.Name "caught" q18, .Name "gave" q19] 0 q20)) q21]
theorem hdS : FnScope hdNames ["call"] hdScope := ⟨rfl, rfl, rfl, by decide, rfl, by decide, by decide⟩
/-- what the module holds of _law_heard -/
structure HeardAt (K : PySem.W.Frag) (mg : Str → Option Value) : Prop where
  ex : ∃ (g D : Addr) (oc : Value) (od : Option Addr) (kV doc pm : Value) (an : Option Addr) (cdv ct : Value) (osl : Array (Option Value)) (pg : Arguments) (q1 q2 q3 q4 q5 q6 q7 q8 q9 q10 q11 q12 q13 q14 q15 q16 q17 q18 q19 q20 q21 : Pos),
    mg "_law_heard" = some (.ref g) ∧ mg "ArmError" = some (.ref D) ∧ PySem.W.keepIn K (.ref g) = true ∧ PySem.W.codeIn K cdv "_law_heard" = true ∧
    K.lookup g = some ⟨oc, od, .func (PySem.W.fnOf "_law_heard" "_law_heard" pg (hdBody q1 q2 q3 q4 q5 q6 q7 q8 q9 q10 q11 q12 q13 q14 q15 q16 q17 q18 q19 q20 q21) hdScope .none kV doc pm an cdv ct), osl⟩ ∧
    L2.Binds K (PySem.W.fnOf "_law_heard" "_law_heard" pg (hdBody q1 q2 q3 q4 q5 q6 q7 q8 q9 q10 q11 q12 q13 q14 q15 q16 q17 q18 q19 q20 q21) hdScope .none kV doc pm an cdv ct) ["call"] [] ∧
    ∀ (Z1 Z2 : Addr) (Z3 : Value), swappedStores [.Tuple [.Name "caught" q1, .Name "gave" q2] 0 q3] (.Tuple [.Constant .none 0 q4, .Constant .none 0 q5] 0 q6) (envOfC "_law_heard" hdScope Z1 Z2 Z3) = pure none
/-- what is wished of an exception of the lambda -/
def eHd (K : PySem.W.Frag) (D : Addr) (Q : VK) : XK := fun cls d H' => PySem.W.exmOne K cls (.ref D) = some true ∧ ∃ C dx, cls = .ref C ∧ d = some dx ∧ ∀ a, H' a = none → ∀ r, upd H' a (ExV C dx a) r = none → Q (.ref r) (upd (upd H' a (ExV C dx a)) r (.tup [.ref a, .non]))
def tHeard (K : PySem.W.Frag) (D : Addr) (T : List (Addr × Str)) (t : XK → TE) : TE := fun σ H Q => Tabs T H ∧ ∀ H1, ExtN H H1 → Tabs T H1 → ∀ p, H1 p = none →
  t (eHd K D Q) σ (upd H1 p (.tup [.non, .non])) (fun v H' => ∀ r, H' r = none → Q (.ref r) (upd H' r (.tup [.non, v])))
theorem PE.cl {X : Cx} {e : Expr} {t : TE} (h : PE X e t) : PE X e (fun σ H Q => ∃ Q1 : VK, (∀ v H', Q1 v H' → Q v H') ∧ t σ H Q1) :=
  ⟨fun pins s σ H Q I ⟨Q1, k, q⟩ => wpAny_mono (h.run pins s σ H Q1 I q) (fun v s' ⟨w', H', J, r, z⟩ => ⟨w', H', J, r, k _ _ z⟩) fun _ _ z => z⟩
theorem le2 : 2 ≤ sizeLine := by rw [sizeLine_eq]; exact (by decide : 2 ≤ 16777216)
section
variable {X : Cx}
theorem pe_heard {T : List (Addr × Str)} {g D c P : Addr} {k : Nat} {pg : Arguments} {dV kV doc pm cdv ct oc : Value} {an od : Option Addr} {osl : Array (Option Value)} {params : Arguments} {body : Expr} {scope : Scope} {t : XK → TE} {p lpos pos q1 q2 q3 q4 q5 q6 q7 q8 q9 q10 q11 q12 q13 q14 q15 q16 q17 q18 q19 q20 q21 : Pos}
    (hg : Gl X "_law_heard") (hm : X.mg "_law_heard" = some (.ref g)) (hk : PySem.W.keepIn X.K (.ref g) = true) (hD : X.mg "ArmError" = some (.ref D))
    (lk : X.K.lookup g = some ⟨oc, od, .func (PySem.W.fnOf "_law_heard" "_law_heard" pg (hdBody q1 q2 q3 q4 q5 q6 q7 q8 q9 q10 q11 q12 q13 q14 q15 q16 q17 q18 q19 q20 q21) hdScope dV kV doc pm an cdv ct), osl⟩) (hcg : PySem.W.codeIn X.K cdv "_law_heard" = true)
    (hb : L2.Binds X.K (PySem.W.fnOf "_law_heard" "_law_heard" pg (hdBody q1 q2 q3 q4 q5 q6 q7 q8 q9 q10 q11 q12 q13 q14 q15 q16 q17 q18 q19 q20 q21) hdScope dV kV doc pm an cdv ct) ["call"] [])
    (hw : ∀ (Z1 Z2 : Addr) (Z3 : Value), swappedStores [.Tuple [.Name "caught" q1, .Name "gave" q2] 0 q3] (.Tuple [.Constant .none 0 q4, .Constant .none 0 q5] 0 q6) (envOfC "_law_heard" hdScope Z1 Z2 Z3) = pure none)
    (TB : TabB X.base X.mg c P) (hcode : X.env.code = .ref c) (hmT : (P, X.env.qual ++ "<lambda>") ∈ T) (hu : ∀ y ∈ T, y.1 = P → y.2 = X.env.qual ++ "<lambda>") (hr : Room (k + 2) X.A) (L : LamS X.env.scope scope) (hdef : defaultsOf params X.env = ([], []))
    (hbind : ∀ (q : Str) (cl : List (Str × Addr)) (pm cv ctv : Value), bindArgs (PySem.W.kla_fn "<lambda>" q params body scope cl pm cv ctv) ⟨[], []⟩ = pure [])
    (hbody : ∀ (A : Around) (outer : List PySem.Env) (s : Shared) (H : Hp) (E : XK) (f c' : Addr), Room k (A.deeper (lamEnv X scope s.heap.objs.size f c')) → PE (lamCx X A outer s H E scope f c') body (t E)) :
    PE X (.Call (.Name "_law_heard" p) [.Lambda params body scope lpos] [] pos) (tHeard X.K D T t) := by
  refine ⟨fun pins s σ H Q I ⟨hT, h⟩ => ?_⟩
  refine wpAny_Call_Name_kw (ld_glob I hg hm (PySem.W.callWith_K (h₀ := X.base) I.ok.mod.kin hk ?_ (by rfl) (by rfl)) rfl)
  show wpAny _ _ (spliced ((false, eval (.Lambda params body scope lpos) X.env) :: backTo pos (starEach [] X.env))) _ _ s
  refine Calls.spliced_cons (lam_make2 I TB hcode hmT hu hT hdef (L.has I.ok) fun f c' pm' ctv H1 s' I1 eN T1 hf hfn hfr hco => Calls.spliced_nil ⟨I1.kIn, ?_⟩)
  have rc : codeAny (model X.prog X.w) X.A (.call (.ref g) ⟨[.ref f], []⟩) (CR C8.CX0 X.stack X.prog X.w H1 s' Q C8.E0) s' := by
    refine run_ofS (N := hdNames) (ps := ["call"]) (us := [.ref f]) (vs := [.ref f]) lk hcg hdS hr I1.env0 (hb s' [.ref f] I1.kIn rfl) (.cons rfl .nil) rfl fun hr' => ?_
    refine ⟨_, pss_cons (ps_asg (pe_tup (pa_cons pe_non (pa_cons pe_non pa_nil))) (pg_tup rfl (pgs_cons (pg_name (i := 1) hdS.nd rfl (.inl rfl)) (pgs_cons (pg_name (i := 2) hdS.nd rfl (.inl rfl)) pgs_nil))) rfl (hw _ _ _))
      (pss_cons (ps_try_keep (i := 3) (c := .ref D) (tb := fun W Y σZ HZ => ∃ (E : XK) (Q1 : VK), (∀ cls d H', E cls d H' → W cls d σZ H') ∧ (∀ v H', Q1 v H' → Y.nx (σZ.set 2 (some v)) H') ∧ σZ[0]? = some (some (.ref f)) ∧ HZ c' = some (CodeO c' (X.env.qual ++ "<lambda>")) ∧ t E σ HZ Q1)
        (ts := fun a cls d => tAsg (tVar 3) (gName 1)) rfl rfl rfl hdS.nd rfl rfl ⟨rfl, by decide, .inl hD⟩ (fun W pn xe tk => ?_) (fun a oe cls d pn => pss_one (ps_set (i := 1) hdS.nd rfl (.inl rfl) (pe_var (i := 3) rfl (.inl rfl) (by decide) (by decide)))))
      (pss_one (ps_ret (pe_tup (pa_cons (pe_var (i := 1) rfl (.inl rfl) (by decide) (by decide)) (pa_cons (pe_var (i := 2) rfl (.inl rfl) (by decide) (by decide)) pa_nil)))))), ?_⟩
    · refine ⟨fun pins s2 σ2 H2 Y I2 ⟨E, Q1, hW, hQ, z1, z2, z3⟩ => ?_⟩
      exact (pss_one (ps_set (i := 2) hdS.nd rfl (.inl rfl) (PE.cl (act_at (i := 0) (p1 := q9) (p2 := q10) I1 L hf hfn hfr (hbind _ _ _ _ _) tk hW hr' (fun A outer s H hr2 => hbody A outer s H E f c' hr2) rfl (.inl rfl) (by decide) (by decide))))).run pins s2 σ2 H2 Y I2 ⟨Q1, hQ, rfl, z1, z2, z3⟩
    · refine ⟨le2, fun p hp => ⟨p, _, rfl, .of upd_same, rfl, .non, _, rfl, .non, _, rfl, rfl, ?_⟩⟩
      have hne : c' ≠ p := fun z => by rw [z, hp] at hco; cases hco
      have key := h H1 eN T1 p hp
      refine ⟨eHd X.K D Q, fun v H' => ∀ r, H' r = none → Q (.ref r) (upd H' r (.tup [.non, v])), fun cls d H' ⟨e1, C, dx, e2, e3, e4⟩ => ⟨e1, C, dx, e2, e3, fun a ha => ⟨_, rfl, fun _ => ?_⟩⟩, fun v H' hv => ⟨_, rfl, _, rfl, le2, fun r hr => hv r hr⟩, rfl, by rw [upd_ne hne]; exact hco, key⟩
      exact ⟨_, rfl, _, rfl, le2, fun r hr => e4 a ha r hr⟩
  refine wpAny_call (codeAny_mono rc fun r s2 hq => ?_)
  match r, hq with
  | .error e, hq => exact (show False from hq).elim
  | .ok (.ret u), hq => exact I1.after hq
end
end DL


set_option linter.all false
set_option autoImplicit false
set_option Elab.async false
set_option maxRecDepth 100000
set_option maxHeartbeats 2000000
/-! DLe6: _law_heard(lambda: body) as data; defs with a lambda. -/
namespace DL
open PySem PySem.Spec L2 LamX
open PyProof.Rows hiding St b2i
/-- the maker's code object and its table -/
def LamIn (base : Heap) (mg : Str → Option Value) (T : List (Addr × Str)) (q : Str) (cdv : Value) : Prop := ∃ c P, cdv = .ref c ∧ TabB base mg c P ∧ (P, q ++ "<lambda>") ∈ T ∧ ∀ y ∈ T, y.1 = P → y.2 = q ++ "<lambda>"
section
variable {w : Wo} {β : Bt} {H H1 : Hp}
theorem ext_of (e : ExtN H H1) : Ext β H β H1 :=
  ⟨⟨⟨[], by simp, fun _ z => nomatch z⟩, fun _ z => .inl z, fun a o h n1 n2 => e a o h n2, fun a xs h _ => e a _ h (fun _ z => nomatch z), fun a n o h => by
    by_cases z : ∃ ps, o = .tbl ps
    · exact z
    · exact n o (e a o h fun ps y => z ⟨ps, y⟩)⟩, rfl⟩
theorem SOk.ofN {S : Sto} (k : SOk w β H S) (e : ExtN H H1) (t : Tabs w.T H1) : SOk w β H1 S :=
  ⟨t, k.nodup, fun a ha => ⟨(k.hid a ha).1.imp fun xs h => e _ _ h (fun _ z => nomatch z), (k.hid a ha).2⟩, k.len, fun n a ds e1 e2 => by
    obtain ⟨xs, h1, h2⟩ := k.at_ n a ds e1 e2
    exact ⟨xs, e _ _ h1 (fun _ z => nomatch z), RepL.ext (ext_of e).toExtW ds xs h2⟩⟩
end
section
variable {T : List (Addr × Str)} {X : Cx} {a : Expr} {fa : EF} {p lpos pos : Pos} {params : Arguments} {scope : Scope} {sub : Str → Str → Option Bool} {k : Nat}
theorem px_heard (hsub : SubAt X.prog X.K X.mg sub) (hh : HeardAt X.K X.mg) (hl : LamIn X.base X.mg T X.env.qual X.env.code) (hr : Room (k + 2) X.A) (L : lamSB X.env.scope scope = true)
    (hbody : ∀ (A : Around) (outer : List PySem.Env) (s : Shared) (H : Hp) (E : XK) (f c' : Addr), Room k (A.deeper (lamEnv X scope s.heap.objs.size f c')) → PX T (lamCx X A outer s H E scope f c') a fa)
    (hg : Gl X "_law_heard" := by rfl) (hdef : defaultsOf params X.env = ([], []) := by rfl) (hbind : ∀ (q : Str) (cl : List (Str × Addr)) (pm cv ctv : Value), bindArgs (PySem.W.kla_fn "<lambda>" q params a scope cl pm cv ctv) ⟨[], []⟩ = pure [] := by intros; rfl) :
    PX T X (.Call (.Name "_law_heard" p) [.Lambda params a scope lpos] [] pos) (eHeard sub fa) := by
  obtain ⟨g, D, oc, od, kV, doc, pm, an, cdv, ct, osl, pg, q1, q2, q3, q4, q5, q6, q7, q8, q9, q10, q11, q12, q13, q14, q15, q16, q17, q18, q19, q20, q21, m1, m2, m3, m4, m5, m6, m7⟩ := hh.ex
  obtain ⟨c, P, hcode, TB, hmT, hu⟩ := hl
  refine ⟨fun W t => PE.weak (pe_heard (t := fun E => tE (wo X T) (fun cls d _ H' => E cls d H') fa) hg m1 m3 m2 m5 m4 m6 m7 TB hcode hmT hu hr (lamS_by L) hdef hbind fun A outer s H E f c' hr' => (hbody A outer s H E f c' hr').run _ (takes_of rfl rfl rfl rfl)) fun σ H Q ⟨β, ρ, S, hs, he, h⟩ => ?_⟩
  refine ⟨hs.tabs, fun H1 eN T1 p hp => ?_⟩
  have x1 : Ext β H β H1 := ext_of eN
  have k1 : SOk (wo X T) β H1 S := hs.ofN eN T1
  have x2 : Ext β H β (upd H1 p (.tup [.non, .non])) := x1.trans (Ext.new hp)
  refine ⟨β, ρ, S, k1.new hp, he.ext x2.toExtW, ?_⟩
  have h := post.ext h x2
  unfold eHeard at h
  cases q : fa ρ S with
  | ok d S1 =>
    rw [q] at h
    intro v β' H' x k r r' hr'
    exact h (.ref r') β' _ (x.trans (Ext.new hr')) (k.new hr') ⟨r', _, rfl, .of upd_same, .non, _, rfl, rfl, v, _, rfl, Rep.ext (Ext.new hr').toExtW d v r, rfl⟩
  | exc cn d S1 =>
    rw [q] at h
    by_cases hc : sub cn "ArmError" = some true
    · simp only [if_pos hc] at h
      intro C dx v β' H' x k g1 g2 r
      obtain ⟨C1, C1', D1, fI, n1, n2, A, e1, e2⟩ := hsub.ex cn "ArmError" true hc
      cases (show some (Value.ref C) = some (Value.ref C1) from (show X.mg cn = _ from g1).symm.trans n1)
      cases (show some (Value.ref D) = some (Value.ref C1') from m2.symm.trans n2)
      refine ⟨e2, C, dx, rfl, rfl, fun aa haa r' hr' => ?_⟩
      have y1 : Ext β' H' β' (upd H' aa (ExV C dx aa)) := Ext.new haa
      have y2 : Ext β' H' β' (upd (upd H' aa (ExV C dx aa)) r' (.tup [.ref aa, .non])) := y1.trans (Ext.new hr')
      have s1 : Same (upd H' aa (ExV C dx aa)) (upd (upd H' aa (ExV C dx aa)) r' (.tup [.ref aa, .non])) := same_upd hr'
      exact h (.ref r') β' _ (x.trans y2) ((k.new haa).new hr') ⟨r', _, rfl, .of upd_same, .ref aa, _, rfl, ⟨aa, C, dx, v, rfl, g1, s1 _ _ upd_same, s1 _ _ (same_upd haa _ _ g2), Rep.ext y2.toExtW d v r⟩, .non, _, rfl, rfl, rfl⟩
    · simp only [if_neg hc] at h
      exact h.elim
  | bad => rw [q] at h; exact h
end
/-- a def that holds a lambda -/
structure DefInL (K : PySem.W.Frag) (mg : Str → Option Value) (base : Heap) (T : List (Addr × Str)) (x : Str) (st : Stmt) : Prop where
  ex : ∃ (f : Addr) (oc : Value) (od : Option Addr) (kV doc pm : Value) (an : Option Addr) (cdv ct : Value) (osl : Array (Option Value)),
    mg x = some (.ref f) ∧ K.lookup f = some ⟨oc, od, .func (PySem.W.fnOf x x (defArgs st) (defBody st) (defScope st) .none kV doc pm an cdv ct), osl⟩ ∧ PySem.W.codeIn K cdv x = true ∧ PySem.W.keepIn K (.ref f) = true ∧ LamIn base mg T (x ++ ".<locals>.") cdv
section
variable {P : Program} {w : World} {K : PySem.W.Frag} {mg : Str → Option Value} {base : Heap} {T : List (Addr × Str)} {gd : Bool} {k : Nat} {x : Str} {st : Stmt} {N ps : List Str} {m n : Nat} {g : SF}
theorem callee_ofL (D : DefInL K mg base T x st) (Sc : FnScope N ps (defScope st)) (hm : ps.length = m) (hn : N.length = n)
    (hb : ∀ (kV doc pm : Value) (an : Option Addr) (cdv ct : Value) (us : List Value), us.length = ps.length → bindArgs (PySem.W.fnOf x x (defArgs st) (defBody st) (defScope st) .none kV doc pm an cdv ct) ⟨us, []⟩ = pure (ps.zip us))
    (body : ∀ (f : Addr) (cdv : Value) (A : Around) (outer : List PySem.Env) (s : Shared) (H : Hp) (E : XK), LamIn base mg T (x ++ ".<locals>.") cdv → (gd = true → A.guards = some []) → Room k (A.deeper (envOfC x (defScope st) s.heap.objs.size f cdv)) → PXSs T (cxOf (L2.CX P w) P w K mg base N x (defScope st) f cdv A outer s H E) (defBody st) g) :
    Callee P w K mg base T gd (k + 1) x ps (mkFn m n g) := by
  obtain ⟨f, oc, od, kV, doc, pm, an, cdv, ct, osl, h1, h2, h3, h4, h5⟩ := D.ex
  exact ⟨f, _, fnG_of h2 h3 Sc hm hn fun A outer s H E hg hr => body f cdv A outer s H E h5 hg hr, h1, h4, .all (hb kV doc pm an cdv ct)⟩
end
end DL


set_option linter.all false
set_option autoImplicit false
set_option Elab.async false
set_option maxRecDepth 100000
set_option maxHeartbeats 2000000
/-! DLe7: the end of a law's row. -/
namespace DL
open PySem PySem.Spec L2 LamX
open PyProof.Rows hiding St b2i
section
variable {P : Program} {w : World} {K : PySem.W.Frag} {mg mb : Str → Option Value} {s₁ : Shared} {a : Addr} {vs : List Value} {ns : List Int} {ts : List Addr}
abbrev scriptO (vs : List Value) : Obj := { cls := .type "list", data := .seq vs.toArray }
/-- at the law's entry: the script and the tables are tracked -/
def H_in (K : PySem.W.Frag) (ts : List Addr) (a : Addr) (vs : List Value) (ns : List Int) : Hp := fun b => if b ∈ ts then some (.tbl #[]) else if b = a ∧ K.lookup a = none then some (.frz (scriptO vs) (.lst (ns.map V.int))) else none
theorem hin_cases (b : Addr) : (b ∈ ts ∧ H_in K ts a vs ns b = some (.tbl #[])) ∨ (b ∉ ts ∧ b = a ∧ K.lookup a = none ∧ H_in K ts a vs ns b = some (.frz (scriptO vs) (.lst (ns.map V.int)))) ∨ (H_in K ts a vs ns b = none ∧ b ∉ ts ∧ (b = a → K.lookup a ≠ none)) := by
  unfold H_in
  by_cases h1 : b ∈ ts
  · exact .inl ⟨h1, by rw [if_pos h1]⟩
  · by_cases h2 : b = a ∧ K.lookup a = none
    · exact .inr (.inl ⟨h1, h2.1, h2.2, by rw [if_neg h1, if_pos h2]⟩)
    · exact .inr (.inr ⟨by rw [if_neg h1, if_neg h2], h1, fun e z => h2 ⟨e, z⟩⟩)
/-- what stands at the entry -/
structure EntryAt (P : Program) (w : World) (K : PySem.W.Frag) (mg mb : Str → Option Value) (s₁ : Shared) (a : Addr) (vs : List Value) (ns : List Int) (cs : List (Addr × Addr)) : Prop where
  KX : K.In s₁.heap
  g : s₁.heap.Ns mainGlobals mg
  b : s₁.heap.Ns builtinsNs mb
  bb : ∀ x : Str, x ≠ "__name__" → mb x = bootBuiltins x
  lim : s₁.heap.NoLimit
  gens : s₁.gens = #[]
  tab : ∀ p ∈ cs, s₁.heap.get? p.2 = some { cls := .none, data := .fields #[] }
  out : ∀ p ∈ cs, K.lookup p.2 = none
  code : ∀ p ∈ cs, PySem.W.CodeHd s₁.heap p.1 p.2
  bm : ∃ (bm : Addr) (ob : Obj), mg "__builtins__" = some (.ref bm) ∧ bm ≠ builtinsNs ∧ s₁.heap.get? bm = some ob ∧ ob.cls = .type "module" ∧ ob.dict = some builtinsNs ∧ ob.data = .plain
  sc : s₁.heap.get? a = some (scriptO vs)
  isI : IntsAre vs ns
  line : ns.length ≤ sizeLine
variable {cs : List (Addr × Addr)}
theorem EntryAt.tabs (Y : EntryAt P w K mg mb s₁ a vs ns cs) {b : Addr} (h : b ∈ cs.map (·.2)) : s₁.heap.get? b = some { cls := .none, data := .fields #[] } ∧ K.lookup b = none := by
  obtain ⟨p, hp, e⟩ := List.mem_map.mp h
  rw [← e]; exact ⟨Y.tab p hp, Y.out p hp⟩
theorem EntryAt.free (Y : EntryAt P w K mg mb s₁ a vs ns cs) {b : Addr} {o : Obj} (e : s₁.heap.get? b = some o) (h1 : ∀ v n, o.data ≠ .seq v n) (h2 : o.data ≠ .fields #[]) : H_in K (cs.map (·.2)) a vs ns b = none := by
  rcases hin_cases (K := K) (ts := cs.map (·.2)) (a := a) (vs := vs) (ns := ns) b with ⟨z, _⟩ | ⟨_, z, _⟩ | ⟨z, _⟩
  · rw [(Y.tabs z).1] at e; cases e; exact absurd rfl h2
  · rw [z, Y.sc] at e; cases e; exact absurd rfl (h1 _ _)
  · exact z
theorem EntryAt.base (Y : EntryAt P w K mg mb s₁ a vs ns cs) {b : Addr} {o : Obj} (e : s₁.heap.get? b = some o) (h1 : ∀ v n, o.data ≠ .seq v n) (h2 : o.data ≠ .fields #[]) : (hidT s₁.heap (H_in K (cs.map (·.2)) a vs ns)).get? b = some o := hidT_get e (Y.free e h1 h2)
theorem EntryAt.nsAt (Y : EntryAt P w K mg mb s₁ a vs ns cs) {b : Addr} {m : Str → Option Value} (h : s₁.heap.Ns b m) : (hidT s₁.heap (H_in K (cs.map (·.2)) a vs ns)).Ns b m := by
  obtain ⟨o, es, ep, e, d, r⟩ := h
  exact ⟨o, es, ep, Y.base e (fun v n z => by rw [d] at z; cases z) (fun z => by rw [d] at z; cases z), d, r⟩
theorem EntryAt.kin (Y : EntryAt P w K mg mb s₁ a vs ns cs) : K.In (hidT s₁.heap (H_in K (cs.map (·.2)) a vs ns)) := fun b o e => by
  refine hidT_get (Y.KX b o e) ?_
  rcases hin_cases (K := K) (ts := cs.map (·.2)) (a := a) (vs := vs) (ns := ns) b with ⟨z, _⟩ | ⟨_, z, z2, _⟩ | ⟨z, _⟩
  · rw [(Y.tabs z).2] at e; cases e
  · rw [z, z2] at e; cases e
  · exact z
theorem EntryAt.mod (Y : EntryAt P w K mg mb s₁ a vs ns cs) : L2.Mod K mg (hidT s₁.heap (H_in K (cs.map (·.2)) a vs ns)) := by
  obtain ⟨mc, h1, h2⟩ := Y.lim
  exact ⟨Y.kin, Y.nsAt Y.g, ⟨mb, Y.nsAt Y.b, Y.bb⟩, mc, Y.nsAt h1, h2⟩
theorem EntryAt.tabB (Y : EntryAt P w K mg mb s₁ a vs ns cs) : ∀ p ∈ cs, TabB (hidT s₁.heap (H_in K (cs.map (·.2)) a vs ns)) mg p.1 p.2 := fun p hp => by
  have hT := Y.tab p hp
  obtain ⟨og, es, ep, eg, dg, _⟩ := Y.g
  refine ⟨?_, ?_, fun z => by rw [z, hT] at eg; cases eg; cases dg⟩
  · obtain ⟨o, us, file, tf, flags, tg, inF, text, tt, e1, r1, r2, r3, r⟩ := Y.code p hp
    exact ⟨o, us, file, tf, flags, tg, inF, text, tt, Y.base e1 (fun v n z => by rw [r2] at z; cases z) (fun z => by rw [r2] at z; cases z; simp at r3), r1, r2, r3, r⟩
  · obtain ⟨bm, ob, b1, b2, b3, b4, b5, b6⟩ := Y.bm
    refine ⟨bm, ob, b1, b2, fun q => ?_, fun q => ?_, Y.base b3 (fun v n z => by rw [b6] at z; cases z) (fun z => by rw [b6] at z; cases z), b4, b5, b6⟩
    · rw [q, eg] at b3; cases b3; rw [dg] at b6; cases b6
    · rw [q, hT] at b3; cases b3; cases b6
theorem EntryAt.hok (Y : EntryAt P w K mg mb s₁ a vs ns cs) : HOk P w (H_in K (cs.map (·.2)) a vs ns) s₁.heap := fun b u e => by
  rcases hin_cases (K := K) (ts := cs.map (·.2)) (a := a) (vs := vs) (ns := ns) b with ⟨z, q⟩ | ⟨_, z, _, q⟩ | ⟨q, _⟩
  · rw [q] at e; cases e; exact (Y.tabs z).1
  · rw [q] at e; cases e
    rw [z]
    exact ⟨Y.sc, by rw [List.length_map]; exact Y.line, vs, _, vals_ints Y.isI, Y.sc⟩
  · rw [q] at e; cases e
theorem EntryAt.sq (Y : EntryAt P w K mg mb s₁ a vs ns cs) : FzL K ⟨[], []⟩ (H_in K (cs.map (·.2)) a vs ns) a (ns.map V.int) := by
  rcases hin_cases (K := K) (ts := cs.map (·.2)) (a := a) (vs := vs) (ns := ns) a with ⟨z, _⟩ | ⟨_, _, _, q⟩ | ⟨_, _, q⟩
  · have e := (Y.tabs z).1
    rw [Y.sc] at e
    cases (congrArg Obj.data (Option.some.inj e) : Data.seq _ _ = Data.fields _)
  · exact .inr (.inl ⟨_, q⟩)
  · cases hk : K.lookup a with
    | none => exact absurd hk (q rfl)
    | some o =>
      have e := Y.KX a o hk
      rw [Y.sc] at e; cases e
      exact .inr (.inr ⟨_, vs.toArray, _, hk, rfl, rfl, rfl, by rw [List.size_toArray, Y.isI.length]; exact Y.line, by simpa using vals_ints Y.isI⟩)
theorem repL_script {w : Wo} {β : Bt} {H : Hp} : ∀ ns : List Int, RepL w β H (ns.map D.int) (ns.map V.int)
  | [] => rfl
  | n :: r => ⟨_, _, rfl, rfl, repL_script r⟩
/-- the law's def called with the script -/
theorem law_run {T : List (Addr × Str)} {gd : Bool} {k : Nat} {fa : Addr} {fd : FuncData} {x : Str} {fn : FN} (Y : EntryAt P w K mg mb s₁ a vs ns cs) (hT : ∀ y ∈ T, y.1 ∈ cs.map (·.2)) (hr : Room k callerA)
    (F : FnG P w K mg (hidT s₁.heap (H_in K (cs.map (·.2)) a vs ns)) T gd k fa fd [x] fn) (hb : BindsTo s₁ fd ⟨[.ref a], []⟩ [(x, .ref a)]) (law : ∃ S, fn [.lst (ns.map D.int)] [] = .ok (.bl true) S) :
    codeAny (model P w) callerA (.call (.ref fa) ⟨[.ref a], []⟩) (fun r s' => r = .ok (.ret (.bool true)) ∧ OldK s₁.heap s'.heap ∧ s'.os = s₁.os ∧ AllBare s'.gens) s₁ := by
  obtain ⟨S, hS⟩ := law
  have e0 : Env0 P w K mg (hidT s₁.heap (H_in K (cs.map (·.2)) a vs ns)) callerA [] s₁ (H_in K (cs.map (·.2)) a vs ns) := ⟨rfl, Y.mod, fun b o e => of_hidT e, Nat.le_of_eq (hidT_size _ _), trivial, fun b hb => (nomatch (show b ∈ ([] : List Addr) from hb)), Y.hok, .of_eq Y.gens⟩
  have tabs : Tabs T (H_in K (cs.map (·.2)) a vs ns) := fun y hy => TabS.nil (by unfold H_in; rw [if_pos (hT y hy)])
  refine codeAny_mono (F.run callerA [] s₁ _ ⟨[.ref a], []⟩ [.ref a] [.ref a] (fun v _ => v = .bl true) (fun _ _ _ => False) (fun _ => rfl) hr e0 hb (.cons rfl .nil)
    ⟨⟨[], []⟩, [.lst (ns.map D.int)], [], ⟨tabs, List.nodup_nil, fun _ z => (nomatch z), rfl, fun n b ds z => by simp at z⟩, ⟨.ref a, [], rfl, ⟨a, _, rfl, Y.sq, repL_script ns⟩, rfl⟩, by rw [hS]; exact fun v β' H' _ _ r => r⟩) fun r s' h => ?_
  match r, h with
  | .error e, h =>
    obtain ⟨_, _, _, _, _, _, _, _, _, _, _, _, z⟩ := h
    exact z.elim
  | .ok (.ret u), h =>
    obtain ⟨v, H', os, bare, un, hok', r', q⟩ := h
    cases (show v = V.bl true from q)
    cases (show u = Value.bool true from r')
    have none' : ∀ b : Addr, b ∉ ([] : List Addr) := fun b z => nomatch z
    have key : ∀ b o, b ∉ cs.map (·.2) → s₁.heap.get? b = some o → s'.heap.get? b = some o := fun b o nb e => by
      rcases hin_cases (K := K) (ts := cs.map (·.2)) (a := a) (vs := vs) (ns := ns) b with ⟨z, _⟩ | ⟨_, _, _, z⟩ | ⟨z, _⟩
      · exact absurd z nb
      · obtain ⟨e1, _⟩ := Y.hok b _ z
        obtain ⟨e2, _⟩ := hok' b _ (un.frzs b _ _ z)
        rw [e] at e1; cases e1; exact e2
      · exact un.keep b o e z (none' b) (none' b)
    have grown : ∀ b ∈ cs.map (·.2), ∃ more : Array Value, s'.heap.get? b = some { cls := .none, data := .fields more } := fun b hb => by
      obtain ⟨more, z⟩ := un.tbls b #[] (by unfold H_in; rw [if_pos hb])
      exact ⟨_, hok' b _ z⟩
    refine ⟨rfl, ⟨fun b o e => ?_, fun b o e => ?_⟩, os, bare⟩
    · by_cases hb : b ∈ cs.map (·.2)
      · obtain ⟨more, hm⟩ := grown b hb
        obtain ⟨p, hp, ep⟩ := List.mem_map.mp hb
        have e1 := (Y.tabs hb).1
        rw [e] at e1; cases e1
        have hc := ((Y.code p hp).tab (Y.tab p hp)).isCodeTable
        rw [ep] at hc
        exact .inr (.inl ⟨hc, rfl, #[], more, rfl, by rw [Array.empty_append]; exact hm⟩)
      · exact .inl (key b o hb e)
    · by_cases hb : b ∈ cs.map (·.2)
      · obtain ⟨more, hm⟩ := grown b hb
        exact ⟨_, hm⟩
      · exact ⟨o, key b o hb e⟩
end
/-- what the end must give: the tables, the def's promise over any base -/
def LawG (P : Program) (w : World) (K : PySem.W.Frag) (k : Nat) (y x : Str) (fn : FN) (mg : Str → Option Value) (h : Heap) : Prop :=
  ∃ (gd : Bool) (cs : List (Addr × Addr)) (T : List (Addr × Str)), (∀ y ∈ T, y.1 ∈ cs.map (·.2)) ∧ (∀ p ∈ cs, h.get? p.2 = some { cls := .none, data := .fields #[] }) ∧ (∀ p ∈ cs, K.lookup p.2 = none) ∧ (∀ p ∈ cs, PySem.W.CodeHd h p.1 p.2) ∧
    ∀ base : Heap, K.In base → base.Ns mainGlobals mg → (∀ p ∈ cs, TabB base mg p.1 p.2) → Callee P w K mg base T gd k y [x] fn
theorem law_walk {l : PySem.W.OpenLaw} {n k : Nat} {q : Program} {loose : List Str} {XP : (Str → Option Value) → Heap → Prop} {YP : World → Heap → Prop} {d : DefRec} {K : Params → PySem.W.Frag} {x : Str} {fn : FN}
    (hn : l.most = some n) (hn2 : n ≤ sizeLine) (hdf : d.params.defaults = []) (hr : Room k callerA) (hY : ∀ (w : World) (h : Heap), YP w h → (K w.params).In h)
    (F : ∀ (w : World) (mg mb : Str → Option Value) (mean : ExcName → Option Value) (h : Heap), YP w h → (K w.params).In h → h.Ns mainGlobals mg → Top q (PySem.W.looseW q loose) mean mg mb h → LawG l.prog w (K w.params) k d.name x fn mg h)
    (law : ∀ ns : List Int, ns.length ≤ n → (∀ z ∈ ns, Builtin.Int.intBits z ≤ 1048576) → ∃ S, fn [.lst (ns.map D.int)] [] = .ok (.bl true) S) :
    PySem.W.WalkO q loose XP YP l.row.toRowW d [] (fun f vs => PySem.call f vs) := by
  refine Att.attach_callB hn hdf fun w s₀ s₁ mg mb fa o pm cd doc a vs ns G Y ho hd hcd hmg hobj hints hlen hbits hg => ?_
  have KX := hY w _ Y
  obtain ⟨gd, cs, T, hT, h1, h2, h3, hF⟩ := F w mg mb _ _ Y KX G.T.g G.T
  have E : EntryAt l.prog w (K w.params) mg mb s₁ a vs ns cs := ⟨KX, G.T.g, G.T.b, G.T.builtins, G.T.nolimit, hg, h1, h2, h3, G.T.bmain, hobj, hints, Nat.le_trans hlen hn2⟩
  obtain ⟨f, fd, F', m1, _, B⟩ := (hF _ E.kin (E.nsAt E.g) E.tabB).ex
  cases (show some (Value.ref f) = some (Value.ref fa) from m1.symm.trans hmg)
  have b := B s₁ [.ref a] KX rfl
  rw [List.append_nil] at b
  exact law_run E hT hr F' b (law ns hlen hbits)

/-! ### facts of the written part -/
section
variable {P : Program} {K : PySem.W.Frag} {mg : Str → Option Value} {h : Heap}
theorem defIn_of {x : Str} {st : Stmt} {f : Addr} {oc kV dc pm cd ct : Value} {od an : Option Addr} {sl : Array (Option Value)} (X : K.In h) (G : h.Ns mainGlobals mg) (a : PySem.W.nsIn K mainGlobals x = some (some (.ref f)))
    (l : K.lookup f = some ⟨oc, od, .func (PySem.W.fnOf x x (defArgs st) (defBody st) (defScope st) .none kV dc pm an cd ct), sl⟩) (c : PySem.W.codeIn K cd x = true) (k : PySem.W.keepIn K (.ref f) = true) : DefIn K mg x st :=
  ⟨f, oc, od, kV, dc, pm, an, cd, ct, sl, PySem.W.mg_of X G a, l, c, k⟩
/-- u is d, seen in the written part -/
def cstIn (K : PySem.W.Frag) : Nat → Value → D → Bool
  | 0, _, _ => false
  | _ + 1, .none, .non => true
  | _ + 1, .bool b, .bl c => b == c
  | _ + 1, .int i _, .int j => decide (i = j)
  | _ + 1, .str x _, .str y => x == y
  | n + 1, .ref a, .tup ds => match K.lookup a with
    | some ⟨.type "tuple", _, .seq its _, _⟩ => decide (its.size ≤ 1000) && go n its.toList ds
    | _ => false
  | n + 1, .ref a, .lst ds => match K.lookup a with
    | some ⟨.type "list", none, .seq its _, _⟩ => decide (its.size ≤ 1000) && go n its.toList ds
    | _ => false
  | _, _, _ => false
where go : Nat → List Value → List D → Bool
  | _, [], [] => true
  | 0, _, _ => false
  | n + 1, u :: us, d :: ds => cstIn K n u d && go n us ds
  | _, _, _ => false
theorem cst_rep : ∀ n : Nat, (∀ (u : Value) (d : D), cstIn K n u d = true → ∃ v, RelV v u ∧ ∀ (T : List (Addr × Str)) (β : Bt) (H : Hp), Rep ⟨K, mg, T⟩ β H d v) ∧
    ∀ (us : List Value) (ds : List D), cstIn.go K n us ds = true → ∃ xs, Vals xs us ∧ ∀ (T : List (Addr × Str)) (β : Bt) (H : Hp), RepL ⟨K, mg, T⟩ β H ds xs := by
  intro n
  induction n with
  | zero =>
    refine ⟨fun u d e => by simp [cstIn] at e, fun us ds e => ?_⟩
    match us, ds, e with
    | [], [], _ => exact ⟨[], .nil, fun _ _ _ => rfl⟩
    | [], d :: ds, e => simp [cstIn.go] at e
    | u :: us, [], e => simp [cstIn.go] at e
    | u :: us, d :: ds, e => simp [cstIn.go] at e
  | succ n ih =>
    refine ⟨fun u d e => ?_, fun us ds e => ?_⟩
    · unfold cstIn at e
      split at e
      · cases e
      · exact ⟨.non, rfl, fun _ _ _ => rfl⟩
      · exact ⟨.bl _, rfl, fun _ _ _ => by rw [beq_iff_eq.mp e]; rfl⟩
      · exact ⟨.int _, ⟨_, rfl⟩, fun _ _ _ => by rw [of_decide_eq_true e]; rfl⟩
      · exact ⟨.str _, ⟨_, rfl⟩, fun _ _ _ => by rw [beq_iff_eq.mp e]; rfl⟩
      · rename_i m a ds hm
        cases hm
        split at e
        · rename_i _ dd its nn sl hk
          rw [Bool.and_eq_true] at e
          obtain ⟨xs, r1, r2⟩ := ih.2 its.toList ds e.2
          have hz : its.size ≤ sizeLine := by rw [sizeLine_eq]; have := of_decide_eq_true e.1; omega
          exact ⟨.ref a, rfl, fun T β H => ⟨a, xs, rfl, .inr ⟨_, its, nn, hk, rfl, rfl, hz, r1⟩, r2 T β H⟩⟩
        · cases e
      · rename_i m a ds hm
        cases hm
        split at e
        · rename_i _ its nn sl hk
          rw [Bool.and_eq_true] at e
          obtain ⟨xs, r1, r2⟩ := ih.2 its.toList ds e.2
          have hz : its.size ≤ sizeLine := by rw [sizeLine_eq]; have := of_decide_eq_true e.1; omega
          exact ⟨.ref a, rfl, fun T β H => ⟨a, xs, rfl, .inr (.inr ⟨_, its, nn, hk, rfl, rfl, rfl, hz, r1⟩), r2 T β H⟩⟩
        · cases e
      · cases e
    · match us, ds, e with
      | [], [], _ => exact ⟨[], .nil, fun _ _ _ => rfl⟩
      | [], d :: ds, e => simp [cstIn.go] at e
      | u :: us, [], e => simp [cstIn.go] at e
      | u :: us, d :: ds, e =>
        simp only [cstIn.go, Bool.and_eq_true] at e
        obtain ⟨v, a1, a2⟩ := ih.1 u d e.1
        obtain ⟨xs, b1, b2⟩ := ih.2 us ds e.2
        exact ⟨v :: xs, .cons a1 b1, fun T β H => ⟨v, xs, rfl, a2 T β H, b2 T β H⟩⟩
theorem cst_of {x : Str} {u : Value} {d : D} {n : Nat} (X : K.In h) (G : h.Ns mainGlobals mg) (a : PySem.W.nsIn K mainGlobals x = some (some u)) (e : cstIn K n u d = true) : Cst K mg x d := by
  obtain ⟨v, r1, r2⟩ := (cst_rep (K := K) (mg := mg) n).1 u d e
  exact ⟨u, v, PySem.W.mg_of X G a, r1, r2⟩
end
end DL


set_option linter.all false
set_option autoImplicit false
set_option Elab.async false
set_option maxRecDepth 100000
set_option maxHeartbeats 2000000
/-! DLe8: the facts of the written part about the error classes, the hearing, the tables. -/
namespace DL
open PySem PySem.Spec L2 LamX
open PyProof.Rows hiding St b2i
section
variable {p : Program} {K : PySem.W.Frag} {mg : Str → Option Value} {h : Heap}
/-- an error class, looked up -/
structure ArmK (p : Program) (K : PySem.W.Frag) (c : Str) (C D fI : Addr) : Prop where
  aC : PySem.W.nsIn K mainGlobals c = some (some (.ref C))
  aD : PySem.W.nsIn K mainGlobals "ArmError" = some (some (.ref D))
  arm : ArmX.ArmAt p K C D fI
open PySem.W in
theorem arm_mk {c : Str} {C D fI N cda cc : Addr} {nm q : Str} {bs bm sub : List Value} {sn : List Str} {ab : Bool} {col : Option Bool} {dd od an cdd cld : Option Addr} {k0 k1 k2 k3 k5 : Option Value} {oc kV doc pm ct ccl cl : Value} {osl ccs csl : Array (Option Value)} {vs : Array Value} {file : Str} {tf : Tok}
    (X : K.In h) (aC : nsIn K mainGlobals c = some (some (.ref C))) (aD : nsIn K mainGlobals "ArmError" = some (some (.ref D)))
    (xL : K.lookup C = some (excClassObj nm q C N bs bm true sn sub ab col dd k0 k1 k2 k3 k5 "ValueError.__new__")) (hb : HandSPX.refsVE bm = true)
    (sa : findIn K (.ref C) "__setattr__" = some (some (.builtin "object.__setattr__"))) (ga : findIn K (.ref C) "__getattribute__" = some (some (.builtin "BaseException.__getattribute__"))) (gg : findIn K (.ref C) "__getattr__" = some none) (noN : findIn K (.ref C) "value" = some none)
    (iC : findIn K (.ref C) "__init__" = some (some (.ref fI))) (tC : typeIn K (.ref fI) = some (.type "function")) (kC : keepIn K (.ref C) = true) (exC : subIn K (.ref C) (.type "BaseException") = some true) (vC : subIn K (.ref C) (.type "ValueError") = some true)
    (tyC : typeIn K (.ref C) = some (.type "type")) (hdC : hasDictIn K C = true) (clD : (clsIn K D).isSome = true) (mD : mroIn K C (.ref D) = some true) (sm : ks_superIn K C D "__init__" = some (some (.builtin "ValueError.__init__")))
    (ca : findIn K (.ref C) "__class__" = some (some (.builtin "object.__class__"))) (cn : specialIn K (.builtin "object.__class__") "__get__" = some (some (.builtin "getset_descriptor.__get__"))) (ctk : takesIn K (.builtin "object.__class__") = some true) (cm : mroIn K C (.type "object") = some true)
    (th : nsIn K cStatics "thirdparty.any" = some none)
    (lf : K.lookup fI = some ⟨oc, od, .func (ksFn "__init__" "ArmError.__init__" ArmX.armArgs ArmX.armBody ArmX.armScope .none kV doc pm an (.ref cda) ct cc), osl⟩) (hcd : codeIn K (.ref cda) "ArmError.__init__" = true)
    (lc : K.lookup cda = some ⟨ccl, cdd, .fields vs, ccs⟩) (hv : vs[2]? = some (.str file tf)) (hf : ((p.main.file : Str) == file) = true) (le : K.lookup cc = some ⟨cl, cld, .cell (some (.ref D)), csl⟩) (top : (p.main.scope.names.lookup ("super" : Str)).isSome = false) : ArmK p K c C D fI :=
  ⟨aC, aD, ⟨⟨nm, q, N, bs, bm, sn, sub, ab, col, dd, k0, k1, k2, k3, k5, xL, hb⟩, sa, ga, gg, noN, iC, tC, kC, exC, vC, tyC, hdC, Option.isSome_iff_exists.mp clD, mD, sm, ca, cn, ctk, cm, th,
    ⟨oc, od, kV, doc, pm, an, cda, cc, ct, osl, vs, file, tf, ccl, cl, cdd, cld, ccs, csl, lf, hcd, lc, hv, hf, le⟩, top⟩⟩
abbrev DefOf {K : PySem.W.Frag} {h : Heap} (_ : K.In h) (mg : Str → Option Value) (x : Str) (st : Stmt) : Prop := DefIn K mg x st
abbrev CstOf {K : PySem.W.Frag} {h : Heap} (_ : K.In h) (mg : Str → Option Value) (x : Str) (d : D) : Prop := Cst K mg x d
abbrev ArmOf {K : PySem.W.Frag} {h : Heap} (_ : K.In h) (p : Program) (c : Str) : Prop := ∃ C D fI, ArmK p K c C D fI
abbrev ExcOf {K : PySem.W.Frag} {h : Heap} (_ : K.In h) (mg : Str → Option Value) (p : Program) (c : Str) : Prop := ExcAt p K mg c
abbrev SubOf {K : PySem.W.Frag} {h : Heap} (_ : K.In h) (mg : Str → Option Value) (p : Program) (sub : Str → Str → Option Bool) : Prop := SubAt p K mg sub
abbrev HeardOf {K : PySem.W.Frag} {h : Heap} (_ : K.In h) (mg : Str → Option Value) : Prop := HeardAt K mg
theorem exc_mk {c : Str} (X : K.In h) (G : h.Ns mainGlobals mg) (A : ArmOf X p c) (z : PySem.W.nsIn K mainGlobals "super" = some none) : ExcAt p K mg c := by
  obtain ⟨C, D, fI, A⟩ := A
  exact ⟨⟨C, D, fI, PySem.W.mg_of X G A.aC, A.arm⟩, PySem.W.mg_none_of X G z⟩
theorem sub_mk {c c' : Str} {C C' : Addr} {b : Bool} (X : K.In h) (G : h.Ns mainGlobals mg) (A : ArmOf X p c) (a1 : PySem.W.nsIn K mainGlobals c = some (some (.ref C))) (a : PySem.W.nsIn K mainGlobals c' = some (some (.ref C'))) (k : PySem.W.kitOne K (.ref C) (.ref C') = some b) (e : PySem.W.exmOne K (.ref C) (.ref C') = some b) :
    ∃ C C' D fI, mg c = some (.ref C) ∧ mg c' = some (.ref C') ∧ ArmX.ArmAt p K C D fI ∧ PySem.W.kitOne K (.ref C) (.ref C') = some b ∧ PySem.W.exmOne K (.ref C) (.ref C') = some b := by
  obtain ⟨C1, D, fI, A⟩ := A
  cases (show some (some (Value.ref C)) = some (some (Value.ref C1)) from a1.symm.trans A.aC)
  exact ⟨C, C', D, fI, PySem.W.mg_of X G a1, PySem.W.mg_of X G a, A.arm, k, e⟩
theorem cls_mk {c : Str} {C : Addr} (X : K.In h) (G : h.Ns mainGlobals mg) (a : PySem.W.nsIn K mainGlobals c = some (some (.ref C))) : ∃ C, mg c = some (.ref C) := ⟨C, PySem.W.mg_of X G a⟩
theorem heard_mk {f D : Addr} {oc kV dc pm cd ct : Value} {od an : Option Addr} {sl : Array (Option Value)} {pg : Arguments} {q1 q2 q3 q4 q5 q6 q7 q8 q9 q10 q11 q12 q13 q14 q15 q16 q17 q18 q19 q20 q21 : Pos} (X : K.In h) (G : h.Ns mainGlobals mg)
    (a : PySem.W.nsIn K mainGlobals "_law_heard" = some (some (.ref f))) (aD : PySem.W.nsIn K mainGlobals "ArmError" = some (some (.ref D)))
    (l : K.lookup f = some ⟨oc, od, .func (PySem.W.fnOf "_law_heard" "_law_heard" pg (hdBody q1 q2 q3 q4 q5 q6 q7 q8 q9 q10 q11 q12 q13 q14 q15 q16 q17 q18 q19 q20 q21) hdScope .none kV dc pm an cd ct), sl⟩) (c : PySem.W.codeIn K cd "_law_heard" = true) (k : PySem.W.keepIn K (.ref f) = true)
    (b : ∀ us : List Value, us.length = 1 → bindArgs (PySem.W.fnOf "_law_heard" "_law_heard" pg (hdBody q1 q2 q3 q4 q5 q6 q7 q8 q9 q10 q11 q12 q13 q14 q15 q16 q17 q18 q19 q20 q21) hdScope .none kV dc pm an cd ct) ⟨us, []⟩ = pure ((["call"] : List Str).zip us))
    (hw : ∀ (Z1 Z2 : Addr) (Z3 : Value), swappedStores [.Tuple [.Name "caught" q1, .Name "gave" q2] 0 q3] (.Tuple [.Constant .none 0 q4, .Constant .none 0 q5] 0 q6) (envOfC "_law_heard" hdScope Z1 Z2 Z3) = pure none) : HeardAt K mg :=
  ⟨f, D, oc, od, kV, dc, pm, an, cd, ct, sl, pg, q1, q2, q3, q4, q5, q6, q7, q8, q9, q10, q11, q12, q13, q14, q15, q16, q17, q18, q19, q20, q21, PySem.W.mg_of X G a, PySem.W.mg_of X G aD, k, c, l, .all b, hw⟩
/-- a def with a lambda; its code object at c, its table at q -/
structure LamK (K : PySem.W.Frag) (mg : Str → Option Value) (x : Str) (st : Stmt) (c q : Addr) : Prop where
  ex : ∃ (f : Addr) (oc : Value) (od : Option Addr) (kV doc pm : Value) (an : Option Addr) (ct : Value) (osl : Array (Option Value)),
    mg x = some (.ref f) ∧ K.lookup f = some ⟨oc, od, .func (PySem.W.fnOf x x (defArgs st) (defBody st) (defScope st) .none kV doc pm an (.ref c) ct), osl⟩ ∧ PySem.W.codeIn K (.ref c) x = true ∧ PySem.W.keepIn K (.ref f) = true
theorem lamK_of {x : Str} {st : Stmt} {f c q : Addr} {oc kV dc pm ct : Value} {od an : Option Addr} {sl : Array (Option Value)} (X : K.In h) (G : h.Ns mainGlobals mg) (a : PySem.W.nsIn K mainGlobals x = some (some (.ref f)))
    (l : K.lookup f = some ⟨oc, od, .func (PySem.W.fnOf x x (defArgs st) (defBody st) (defScope st) .none kV dc pm an (.ref c) ct), sl⟩) (cI : PySem.W.codeIn K (.ref c) x = true) (k : PySem.W.keepIn K (.ref f) = true) : LamK K mg x st c q :=
  ⟨f, oc, od, kV, dc, pm, an, ct, sl, PySem.W.mg_of X G a, l, cI, k⟩
theorem LamK.def {x : Str} {st : Stmt} {c q : Addr} {base : Heap} {T : List (Addr × Str)} (L : LamK K mg x st c q) (TB : TabB base mg c q) (hm : (q, x ++ ".<locals>." ++ "<lambda>") ∈ T) (hu : ∀ y ∈ T, y.1 = q → y.2 = x ++ ".<locals>." ++ "<lambda>") : DefInL K mg base T x st := by
  obtain ⟨f, oc, od, kV, doc, pm, an, ct, osl, h1, h2, h3, h4⟩ := L.ex
  exact ⟨f, oc, od, kV, doc, pm, an, .ref c, ct, osl, h1, h2, h3, h4, c, q, rfl, TB, hm, hu⟩
/-- .. with its table, outside of the written part -/
structure LamE (K : PySem.W.Frag) (mg : Str → Option Value) (h : Heap) (x : Str) (st : Stmt) : Prop where
  ex : ∃ c q, LamK K mg x st c q ∧ PySem.W.codeHdIn K c q = true ∧ K.lookup q = none ∧ h.get? q = some { cls := .none, data := .fields #[] }
abbrev LamOf {K : PySem.W.Frag} {h : Heap} (_ : K.In h) (mg : Str → Option Value) (x : Str) (st : Stmt) : Prop := LamE K mg h x st
theorem lamE_mk {x : Str} {st : Stmt} {f c q : Addr} {oc kV dc pm ct : Value} {od an : Option Addr} {sl : Array (Option Value)} (X : K.In h) (G : h.Ns mainGlobals mg) (a : PySem.W.nsIn K mainGlobals x = some (some (.ref f)))
    (l : K.lookup f = some ⟨oc, od, .func (PySem.W.fnOf x x (defArgs st) (defBody st) (defScope st) .none kV dc pm an (.ref c) ct), sl⟩) (cI : PySem.W.codeIn K (.ref c) x = true) (k : PySem.W.keepIn K (.ref f) = true)
    (t : PySem.W.tabIn K x = some (c, q)) (d : PySem.W.codeHdIn K c q = true) (n : K.lookup q = none) (b : h.get? q = some { cls := .none, data := .fields #[] }) : LamE K mg h x st :=
  ⟨c, q, lamK_of X G a l cI k, d, n, b⟩
end
end DL


set_option linter.all false
set_option autoImplicit false
set_option Elab.async false
set_option maxRecDepth 100000
set_option maxHeartbeats 2000000
/-! DLx1: sums of bools. -/
namespace DL
open PySem PySem.Spec L2
open PyProof.Rows hiding St b2i
section
variable {T : List (Addr × Str)} {X : Cx} {a b : Expr} {fa fb : EF} {pos : Pos}
def rAddB : R2 := fun x y H Q => (∃ i j, x = .int i ∧ y = .int j ∧ Q (.int (i + j)) H) ∨ (∃ i j, x = .bl i ∧ y = .bl j ∧ Q (.int (b2i i + b2i j)) H) ∨ (∃ i j, x = .int i ∧ y = .bl j ∧ Q (.int (i + b2i j)) H) ∨ ∃ i j, x = .bl i ∧ y = .int j ∧ Q (.int (b2i i + j)) H
theorem op_addB : OpR X (binaryOp .Add) rAddB := by
  intro pins s σ H x y v u Q I rx ry h
  rcases h with h | h | h | h
  · exact op_add pins s σ H x y v u Q I rx ry h
  · obtain ⟨i, j, rfl, rfl, q⟩ := h
    cases (show v = Value.bool i from rx)
    cases (show u = Value.bool j from ry)
    exact add_bool ⟨.int _, H, I.tok _, ⟨_, rfl⟩, q⟩
  · obtain ⟨i, j, rfl, rfl, q⟩ := h
    obtain ⟨t, rfl⟩ := (show ∃ t, v = Value.int i t from rx)
    cases (show u = Value.bool j from ry)
    exact add_int_bool ⟨.int _, H, I.tok _, ⟨_, rfl⟩, q⟩
  · obtain ⟨i, j, rfl, rfl, q⟩ := h
    cases (show v = Value.bool i from rx)
    obtain ⟨t, rfl⟩ := (show ∃ t, u = Value.int j t from ry)
    exact PySem.IntBool.add_bool_int ⟨.int _, H, I.tok _, ⟨_, rfl⟩, q⟩
theorem px_addB (ha : PX T X a fa) (hb : PX T X b fb) : PX T X (.BinOp a .Add b pos) (eBin dAddB fa fb) := px_op op_addB (fun W σ β H S x y v u Q hs rx ry h => by
  cases x with
  | int i =>
    cases y with
    | int j => exact .inl ⟨i, j, rx, ry, post.val h hs rfl⟩
    | bl j => exact .inr (.inr (.inl ⟨i, j, rx, ry, post.val h hs rfl⟩))
    | _ => exact h.elim
  | bl i =>
    cases y with
    | bl j => exact .inr (.inl ⟨i, j, rx, ry, post.val h hs rfl⟩)
    | int j => exact .inr (.inr (.inr ⟨i, j, rx, ry, post.val h hs rfl⟩))
    | _ => exact h.elim
  | _ => cases y <;> exact h.elim) ha hb
end
end DL


set_option linter.all false
set_option autoImplicit false
set_option Elab.async false
set_option maxRecDepth 100000
set_option maxHeartbeats 2000000
/-! DLx2: comprehensions whose list is changed later. -/
namespace DL
open PySem PySem.Spec L2
open PyProof.Rows hiding St b2i
section
variable {w : Wo} {β : Bt} {H : Hp} {p : Addr} {hs : List Addr}
/-! ### a hidden list becomes one of the store -/
theorem FzL.rel {K : PySem.W.Frag} {a : Addr} {xs : List V} (hp : p ∈ β.h) (h : FzL K β H a xs) (hh : ∀ a ∈ hs, a ∈ β.h := by first | exact fun _ z => z | assumption) : FzL K ⟨β.l ++ [p], hs⟩ H a xs := by
  rcases h with ⟨h, n, n2⟩ | ⟨o, h⟩ | h
  · refine .inl ⟨h, fun z => ?_, fun z => n2 (hh a z)⟩
    rcases List.mem_append.mp z with z | z
    · exact n z
    · rw [List.mem_singleton.mp z] at n2; exact n2 hp
  · exact .inr (.inl ⟨o, h⟩)
  · exact .inr (.inr h)
mutual
theorem Rep.rel' (hp : p ∈ β.h) (hh : ∀ a ∈ hs, a ∈ β.h) : ∀ (d : D) (v : V), Rep w β H d v → Rep w ⟨β.l ++ [p], hs⟩ H d v
  | .non, _, h => h
  | .bl _, _, h => h
  | .int _, _, h => h
  | .str _, _, h => h
  | .tup ds, _, ⟨a, xs, r, h, l⟩ => ⟨a, xs, r, h, RepL.rel' hp hh ds xs l⟩
  | .lst ds, _, ⟨a, xs, r, h, l⟩ => ⟨a, xs, r, FzL.rel hp h hh, RepL.rel' hp hh ds xs l⟩
  | .loc n, _, ⟨a, r, h⟩ => ⟨a, r, by show (β.l ++ [p])[n]? = some a; rw [List.getElem?_append_left (List.getElem?_eq_some_iff.mp h).1]; exact h⟩
  | .exo c d, _, ⟨a, C, dx, x, r, h1, h2, h3, h4⟩ => ⟨a, C, dx, x, r, h1, h2, h3, Rep.rel' hp hh d x h4⟩
  | .ty _, _, h => h
  | .cls _, _, h => h
  | .fn _, _, h => h
theorem RepL.rel' (hp : p ∈ β.h) (hh : ∀ a ∈ hs, a ∈ β.h) : ∀ (ds : List D) (vs : List V), RepL w β H ds vs → RepL w ⟨β.l ++ [p], hs⟩ H ds vs
  | [], _, h => h
  | d :: ds, _, ⟨x, xr, r, h, l⟩ => ⟨x, xr, r, Rep.rel' hp hh d x h, RepL.rel' hp hh ds xr l⟩
end
end
section
variable {T : List (Addr × Str)} {X : Cx} {elt tg iter : Expr} {ifs : List Expr} {scope : Scope} {own : List (Str × Nat)} {pos : Pos} {it : AF} {g : TgF} {t : TF} {f : EF} {ws : List Nat}
theorem comp_readN {W : WX} {vs : List Nat} (hw : ∀ i ∈ ws, i ∈ vs) {σ : St} {H : Hp} {Q : VK} (h : tE (wo X T) W (eCompN vs it g t f) σ H Q) :
    tLc (tI (wo X T) W it) (tG (wo X T) g ws) (tT (wo X T) noW t) (tE (wo X T) noW f) vs σ H Q := by
  obtain ⟨β, ρ, S, hs, he, h⟩ := h
  refine ⟨β, ρ, S, hs, he, ?_⟩
  unfold eCompN at h
  cases q : it ρ S with
  | exc c d S1 => rw [q] at h; exact h
  | bad => rw [q] at h; exact h
  | ok ds S1 =>
    rw [q] at h
    simp only [bind_ok] at h
    intro J β1 H1 x1 k1 wk D hD
    split at h
    · rename_i hz
      have h1 := post.ext h x1
      have nD := notin_of k1 hD
      -- the state of the turns
      refine ⟨fun i m H' => m = ds.length - i ∧ i ≤ ds.length ∧ ∃ (β' : Bt) (S' : Sto) (ys : List DL.D) (acc : List V), β'.h = D :: β1.h ∧ Ext β1 H1 ⟨β'.l, β1.h⟩ H' ∧ SOk (wo X T) β' H' S' ∧ RepE (wo X T) β' H' ρ σ ∧
        H' D = some (.lst acc) ∧ RepL (wo X T) β' H' ys acc ∧ acc.length ≤ i ∧ post (wo X T) W σ β1 H1 ((compL vs g t f ρ (ds.drop i) S').bind fun zs S => .ok (.loc S.length) (S ++ [ys ++ zs])) Q, ?_, ?_⟩
      · -- start
        have xn : Ext β1 H1 β1 (upd H1 D (.lst [])) := Ext.new hD
        have xw : ExtW β1 H1 ⟨β1.l, D :: β1.h⟩ (upd H1 D (.lst [])) := ⟨⟨[], by simp, fun _ z => nomatch z⟩, fun a ha => by
          rcases List.mem_cons.mp ha with z | z
          · exact .inr (by rw [z]; exact .of hD)
          · exact .inl z, xn.keep, xn.lsts, xn.dom⟩
        refine ⟨ds.length, by simp, Nat.zero_le _, ⟨β1.l, D :: β1.h⟩, S1, [], [], rfl, xn, ⟨k1.tabs.ext (same_upd hD), k1.nodup, fun a ha => ?_, k1.len, fun n a es e1 e2 => ?_⟩, (he.ext x1.toExtW).ext xw, upd_same, rfl, Nat.le_refl _, ?_⟩
        · rcases List.mem_cons.mp ha with z | z
          · rw [z, upd_same]; exact ⟨⟨[], rfl⟩, nD.1⟩
          · exact ⟨(k1.hid a z).1.imp fun zs e => xn.lsts a zs e (k1.hid a z).2, (k1.hid a z).2⟩
        · obtain ⟨xs, g1, g2⟩ := k1.at_ n a es e1 e2
          exact ⟨xs, same_upd hD _ _ g1, RepL.ext xw es xs g2⟩
        · simpa using h1
      · rintro i m H2 ⟨rfl, hi, β2, S2, ys, acc, hh, x2, k2, e2, hacc, racc, hle, q2⟩
        have mD : D ∈ β2.h := by rw [hh]; exact List.mem_cons_self
        have nD2 := (k2.hid D mD).2
        have w2 : ExtW β1 H1 β2 H2 := ⟨x2.pre, fun a ha => by
          rw [hh] at ha
          rcases List.mem_cons.mp ha with z | z
          · exact .inr (by rw [z]; exact .of hD)
          · exact .inl z, x2.keep, x2.lsts, x2.dom⟩
        by_cases hlt : i < ds.length
        · have hd : ds[i]? = some ds[i] := List.getElem?_eq_getElem hlt
          rw [List.drop_eq_getElem_cons hlt] at q2
          simp only [compL] at q2
          cases qg : g ds[i] (wipeE ρ vs) with
          | none => rw [qg] at q2; exact q2.elim
          | some ρ3 =>
            rw [qg] at q2
            simp only at q2
            refine .inr ⟨wk.go i _ hd β2 H2 w2, fun H' => i + 1 ≤ ds.length ∧ ∃ (β' : Bt) (S' : Sto) (ys : List DL.D) (acc : List V), β'.h = D :: β1.h ∧ Ext β1 H1 ⟨β'.l, β1.h⟩ H' ∧ SOk (wo X T) β' H' S' ∧ RepE (wo X T) β' H' ρ σ ∧
              H' D = some (.lst acc) ∧ RepL (wo X T) β' H' ys acc ∧ acc.length ≤ i + 1 ∧ post (wo X T) W σ β1 H1 ((compL vs g t f ρ (ds.drop (i + 1)) S').bind fun zs S => .ok (.loc S.length) (S ++ [ys ++ zs])) Q,
              fun H' z => ⟨ds.length - (i + 1), by omega, rfl, z⟩, fun x H' y => ?_⟩
            obtain ⟨sm, rx⟩ := wk.yld i _ hd β2 H2 w2 x H' y
            have xs : Ext β2 H2 β2 H' := .same sm
            have xs' : Ext ⟨β2.l, β1.h⟩ H2 ⟨β2.l, β1.h⟩ H' := .same sm
            refine ⟨β2, ds[i], wipeE ρ vs, ρ3, rx, (e2.ext xs.toExtW).wipe vs, qg, fun σ3 e3 o3 => ?_⟩
            have hwp : wipe (wipe σ vs) vs = wipe σ vs := by
              refine wipe_of (ws := vs) ⟨wipe_length σ vs, fun j hj => ?_⟩ fun _ h => h
              exact wipe_out hj
            refine ⟨(wipe_of o3 hw).trans hwp, β2, ρ3, S2, k2.same sm, e3, ?_⟩
            have cont : ∀ (β4 : Bt) (H4 : Hp) (S4 : Sto), Ext β2 H' β4 H4 → β4.h = D :: β1.h ∧ Ext β1 H1 ⟨β4.l, β1.h⟩ H4 ∧ H4 D = some (.lst acc) ∧ RepE (wo X T) β4 H4 ρ σ ∧ Ext ⟨β2.l, β1.h⟩ H2 ⟨β4.l, β1.h⟩ H4 := fun β4 H4 S4 x4 => by
              have x24 := xs.trans x4
              have y4 : Ext ⟨β2.l, β1.h⟩ H2 ⟨β4.l, β1.h⟩ H4 := ⟨⟨x24.pre, fun a ha => .inl ha, x24.keep, x24.lsts, x24.dom⟩, rfl⟩
              exact ⟨x4.heq.trans hh, x2.trans y4, x24.lsts D acc hacc nD2, e2.ext x24.toExtW, y4⟩
            cases qt : t ρ3 S2 with
            | exc c d S3 => rw [qt] at q2; exact q2.elim
            | bad => rw [qt] at q2; exact q2.elim
            | ok b S3 =>
              rw [qt] at q2
              intro β3 H3 x3 k3
              cases b with
              | false =>
                simp only [Bool.false_eq_true, if_false]
                simp only at q2
                obtain ⟨a1, a2, a3, a4, a5⟩ := cont β3 H3 S3 x3
                exact ⟨hlt, β3, S3, ys, acc, a1, a2, k3, a4, a3, RepL.ext (xs.trans x3).toExtW ys acc racc, by omega, q2⟩
              | true =>
                simp only [if_true]
                simp only at q2
                refine ⟨β3, ρ3, S3, k3, e3.ext x3.toExtW, ?_⟩
                cases qf : f ρ3 S3 with
                | exc c d S4 => rw [qf] at q2; exact q2.elim
                | bad => rw [qf] at q2; exact q2.elim
                | ok y0 S4 =>
                  rw [qf] at q2
                  simp only at q2
                  intro v β4 H4 x4 k4 r4
                  obtain ⟨a1, a2, a3, a4, a5⟩ := cont β4 H4 S4 (x3.trans x4)
                  have m4 : D ∈ β4.h := by rw [a1]; exact List.mem_cons_self
                  have racc4 := RepL.ext (xs.trans (x3.trans x4)).toExtW ys acc racc
                  have nD4 := (k4.hid D m4).2
                  -- the list with one item more
                  have xu : Ext β1 H1 ⟨β4.l, β1.h⟩ (upd H4 D (.lst (acc ++ [v]))) := ⟨⟨a2.pre, fun a ha => .inl ha, fun a o e n1 n2 => by
                      rw [upd_ne (ne_of_none e hD)]; exact a2.keep a o e n1 n2, fun a zs e n => by
                      rw [upd_ne (ne_of_none e hD)]; exact a2.lsts a zs e n, fun a n o e => by
                      by_cases z : a = D
                      · rw [z, hD] at e; cases e
                      · exact a2.dom a (fun o e => n o (by rw [upd_ne z]; exact e)) o e⟩, rfl⟩
                  refine ⟨acc, a3, ?_, hlt, β4, S4, ys ++ [y0], acc ++ [v], a1, xu, k4.hide m4 a3, a4.hide m4 a3, upd_same, RepL.append (RepL.hid m4 a3 ys acc racc4) ⟨v, [], rfl, Rep.hid m4 a3 y0 v r4, rfl⟩, by simp; omega, ?_⟩
                  · rw [sizeLine_eq]; omega
                  · have q3 := q2
                    have eq : ((compL vs g t f ρ (ds.drop (i + 1)) S4).bind fun ys' S => .ok (y0 :: ys') S).bind (fun zs S => R.ok (DL.D.loc S.length) (S ++ [ys ++ zs])) = (compL vs g t f ρ (ds.drop (i + 1)) S4).bind fun zs S => R.ok (DL.D.loc S.length) (S ++ [ys ++ [y0] ++ zs]) := by
                      cases compL vs g t f ρ (ds.drop (i + 1)) S4 <;> simp
                    rw [← eq]
                    exact q3
        · have e0 : i = ds.length := by omega
          subst e0
          rw [List.drop_length] at q2
          simp only [compL, bind_ok, List.append_nil] at q2
          have hD2 : D ∈ β2.h := mD
          refine .inl ⟨wk.stop β2 H2 w2, q2 (.ref D) ⟨β2.l ++ [D], β1.h⟩ H2 ?_ ?_ ⟨D, rfl, ?_⟩⟩
          · obtain ⟨ν, e1, f1⟩ := x2.pre
            have e1 : β2.l = β1.l ++ ν := e1
            exact ⟨⟨⟨ν ++ [D], by rw [e1, List.append_assoc], fun p hp => by
              rcases List.mem_append.mp hp with z | z
              · exact f1 p z
              · rw [List.mem_singleton.mp z]; exact .of hD⟩, x2.hid, x2.keep, x2.lsts, x2.dom⟩, rfl⟩
          · refine ⟨k2.tabs, ?_, fun a ha => ⟨(k2.hid a (by rw [hh]; exact List.mem_cons_of_mem _ ha)).1, fun z => ?_⟩, by simp [k2.len], fun n a es e1 e2 => ?_⟩
            · show (β2.l ++ [D]).Nodup
              rw [List.nodup_append]
              exact ⟨k2.nodup, by simp, fun a ha b hb => by rw [List.mem_singleton.mp hb]; exact fun z => nD2 (z ▸ ha)⟩
            · rcases List.mem_append.mp z with z | z
              · exact (k2.hid a (by rw [hh]; exact List.mem_cons_of_mem _ ha)).2 z
              · rw [List.mem_singleton.mp z] at ha; exact nD.2 ha
            · have e1 : (β2.l ++ [D])[n]? = some a := e1
              by_cases hn : n < β2.l.length
              · rw [List.getElem?_append_left hn] at e1
                rw [List.getElem?_append_left (by rw [← k2.len]; exact hn)] at e2
                obtain ⟨xs, g1, g2⟩ := k2.at_ n a es e1 e2
                exact ⟨xs, g1, RepL.rel' hD2 (fun a ha => by rw [hh]; exact List.mem_cons_of_mem _ ha) es xs g2⟩
              · rw [List.getElem?_append_right (by omega)] at e1
                rw [List.getElem?_append_right (by rw [← k2.len]; omega)] at e2
                have hn0 : n - β2.l.length = 0 := by
                  have := (List.getElem?_eq_some_iff.mp e1).1
                  simp at this; omega
                rw [hn0] at e1
                rw [← k2.len, hn0] at e2
                simp at e1 e2
                subst e1; subst e2
                exact ⟨acc, hacc, RepL.rel' hD2 (fun a ha => by rw [hh]; exact List.mem_cons_of_mem _ ha) ys acc racc⟩
          · show (β2.l ++ [D])[S2.length]? = some D
            rw [← k2.len]; simp
    · exact h.elim
theorem px_compN (hc : X.calm = true) (hN : X.N.Nodup) (hi : PXI T X tg iter it) (ok : BlkOk X.N X.env.scope scope own)
    (hg : ∀ (s : Shared) (H : Hp) (C : Addr) (cl : List (Str × Addr)) (fp : List Addr), PXG T (X.blk s H scope (compEnvC scope cl C X.env) fp) tg g ws)
    (ht : ∀ (s : Shared) (H : Hp) (C : Addr) (cl : List (Str × Addr)) (fp : List Addr), PXTs T (X.blk s H scope (compEnvC scope cl C X.env) fp) ifs t)
    (he : ∀ (s : Shared) (H : Hp) (C : Addr) (cl : List (Str × Addr)) (fp : List Addr), PX T (X.blk s H scope (compEnvC scope cl C X.env) fp) elt f)
    (hw : ∀ i ∈ ws, i ∈ own.map (·.2)) (hs : ∀ x, foldedSetIterable iter X.env x = pure x := by intro _; rfl) : PX T X (.ListComp elt [⟨tg, iter, ifs, 0⟩] scope pos) (eCompN (own.map (·.2)) it g t f) :=
  ⟨fun W tk => PE.weak (pe_lc hc hN (hi.run W tk) ok (fun s H C cl fp => (hg s H C cl fp).run) (fun s H C cl fp => (ht s H C cl fp).run noW takesNo) (fun s H C cl fp => (he s H C cl fp).run noW takesNo) hs) fun σ H Q h => comp_readN hw h⟩
/-- name = [..] on one line -/
theorem px_setCompN (i : Nat) {y : Str} {py spos : Pos} (hc : X.calm = true) (hN : X.N.Nodup) (hi : PXI T X tg iter it) (ok : BlkOk X.N X.env.scope scope own)
    (hg : ∀ (s : Shared) (H : Hp) (C : Addr) (cl : List (Str × Addr)) (fp : List Addr), PXG T (X.blk s H scope (compEnvC scope cl C X.env) fp) tg g ws)
    (ht : ∀ (s : Shared) (H : Hp) (C : Addr) (cl : List (Str × Addr)) (fp : List Addr), PXTs T (X.blk s H scope (compEnvC scope cl C X.env) fp) ifs t)
    (he : ∀ (s : Shared) (H : Hp) (C : Addr) (cl : List (Str × Addr)) (fp : List Addr), PX T (X.blk s H scope (compEnvC scope cl C X.env) fp) elt f)
    (hw : ∀ i ∈ ws, i ∈ own.map (·.2)) (hsw : swapsWith (.ListComp elt [⟨tg, iter, ifs, 0⟩] scope pos) (some (.Name y py)) spos.line X.env = pure true)
    (hy : X.N[i]? = some y := by rfl) (hyl : X.env.scope.names.lookup y = some .local := by rfl) (hs : ∀ x, foldedSetIterable iter X.env x = pure x := by intro _; rfl) :
    PXS T X (.Assign [.Name y py] (.ListComp elt [⟨tg, iter, ifs, 0⟩] scope pos) spos) (sSet i (eCompN (own.map (·.2)) it g t f)) :=
  ⟨fun W tk => PS.weak (ps_setLc hc hN hy hyl hsw (hi.run W tk) ok (fun s H C cl fp => (hg s H C cl fp).run) (fun s H C cl fp => (ht s H C cl fp).run noW takesNo) (fun s H C cl fp => (he s H C cl fp).run noW takesNo) hs)
    fun D σ H ⟨β, ρ, S, hs, he, h⟩ => comp_readN hw (tE_st hs he h fun d S1 v β1 H1 x1 k1 e1 r1 q1 => q1.nx_ k1 (e1.set r1 i))⟩
end
end DL


set_option linter.all false
set_option autoImplicit false
set_option Elab.async false
set_option maxRecDepth 100000
set_option maxHeartbeats 2000000
/-! DLx3: x.bit_length(), x << y. -/
namespace DL
open PySem PySem.Spec L2
open PyProof.Rows hiding St b2i
section
variable {T : List (Addr × Str)} {X : Cx} {a b : Expr} {fa fb : EF} {pos : Pos}
theorem px_bits {apos : Pos} (ha : PX T X a fa) (hbase : attributeBase a "bit_length" X.env (eval a X.env) = eval a X.env := by rfl) (hline : (apos.endLine == pos.line) = true := by rfl) : PX T X (.Call (.Attribute a "bit_length" apos) [] [] pos) (eUn dBits fa) :=
  ⟨fun W t => PE.weak (pe_bits (ha.run W t) hbase hline) fun σ H Q ⟨β, ρ, S, hs, he, h⟩ => tE_bind hs he h fun d S1 v β1 H1 x1 k1 e1 r1 q1 => by
    cases d with
    | int i => exact ⟨i, r1, post.val q1 k1 rfl⟩
    | _ => exact q1.elim⟩
theorem ok_shl : BinOk T X (rI CShl fun i j => .int (i * 2 ^ j.toNat)) dShl := fun W σ β H S x y v u Q hs rx ry h => by
  cases x with
  | int i =>
    cases y with
    | int j =>
      unfold dShl at h
      simp only at h
      split at h
      · rename_i k
        exact ⟨i, j, rx, ry, k, post.val h hs rfl⟩
      · exact h.elim
    | _ => exact h.elim
  | _ => cases y <;> exact h.elim
theorem px_shl (ha : PX T X a fa) (hb : PX T X b fb) : PX T X (.BinOp a .LShift b pos) (eBin dShl fa fb) := px_op op_shlW ok_shl ha hb
end
end DL


set_option linter.all false
set_option autoImplicit false
/-! the mirror of elbowsexactly_k20_whole_circles_and_line, printed by gen.py -/
namespace K20
open PySem DL
def k_MOST : D := .int 1000000
def k_NOWHERE : D := .tup [.tup [.int 0, .int 1], .tup [.int 0, .int 1]]
def k_ZERO : D := .tup [.int 0, .int 1]
def sub0 (c c' : Str) : Option Bool := if c = "BadFraction" ∧ c' = "BadFraction" then some true else if c = "BadFraction" ∧ c' = "ArmError" then some true else if c = "BadPoint" ∧ c' = "BadPoint" then some true else if c = "BadPoint" ∧ c' = "ArmError" then some true else if c = "Unlike" ∧ c' = "Unlike" then some true else if c = "Unlike" ∧ c' = "ArmError" then some true else none
noncomputable def m_is_whole : SF := sRet (eAnd (eCall (fIsi sub0) (aCons (eVar 0) (aCons (eC (.ty "int")) (aNil)))) (eNot (eCall (fIsi sub0) (aCons (eVar 0) (aCons (eC (.ty "bool")) (aNil))))))
noncomputable def f_is_whole : FN := mkFn 1 1 m_is_whole
noncomputable def q_whole_root_1 : SF := sIf (tOf (eBin dLt (eVar 0) (eC (.int 2)))) (sRet (eVar 0)) (sNil)
noncomputable def q_whole_root_2 : SF := sSet 1 (eBin dShl (eC (.int 1)) (eBin dDiv (eBin dAdd (eUn dBits (eVar 0)) (eC (.int 1))) (eC (.int 2))))
noncomputable def q_whole_root_3_1 : SF := sSet 2 (eBin dDiv (eBin dAdd (eVar 1) (eBin dDiv (eVar 0) (eVar 1))) (eC (.int 2)))
noncomputable def q_whole_root_3_2 : SF := sIf (tOf (eBin dGe (eVar 2) (eVar 1))) (sRet (eVar 1)) (sNil)
noncomputable def q_whole_root_3B : SF := sSeq (q_whole_root_3_1) (sSeq (q_whole_root_3_2) (sSet 1 (eVar 2)))
noncomputable def m_whole_root : SF := sSeq (q_whole_root_1) (sSeq (q_whole_root_2) (sWhile (tTru (eC (.bl true))) (q_whole_root_3B)))
noncomputable def f_whole_root : FN := mkFn 1 3 m_whole_root
noncomputable def m_common : SF := sSeq (sPar 0 1 (aCons (eCall fAbs (aCons (eVar 0) (aNil))) (aCons (eCall fAbs (aCons (eVar 1) (aNil))) (aNil)))) (sSeq (sWhile (tOf (eBin dNe (eVar 1) (eC (.int 0)))) (sPar 0 1 (aCons (eVar 1) (aCons (eBin dMod (eVar 0) (eVar 1)) (aNil))))) (sRet (eVar 0)))
noncomputable def f_common : FN := mkFn 2 2 m_common
noncomputable def m_rate : SF := sSeq (sSet 2 (eCall f_common (aCons (eVar 0) (aCons (eVar 1) (aNil))))) (sSeq (sIf (tOf (eBin dLt (eVar 1) (eC (.int 0)))) (sSet 2 (eUn dNeg (eVar 2))) (sNil)) (sRet (eTup (aCons (eBin dDiv (eVar 0) (eVar 2)) (aCons (eBin dDiv (eVar 1) (eVar 2)) (aNil))))))
noncomputable def f_rate : FN := mkFn 2 3 m_rate
noncomputable def m_is_lowest : SF := sSeq (sIf (DL.tOr (DL.tNot (tTru (eCall (fIsi sub0) (aCons (eVar 0) (aCons (eC (.ty "tuple")) (aNil)))))) (DL.tOr (tOf (eBin dNe (eCall fLen (aCons (eVar 0) (aNil))) (eC (.int 2)))) (DL.tOr (DL.tNot (tTru (eCall f_is_whole (aCons (eBin dIx (eVar 0) (eC (.int 0))) (aNil))))) (DL.tNot (tTru (eCall f_is_whole (aCons (eBin dIx (eVar 0) (eC (.int 1))) (aNil)))))))) (sRet (eC (.bl false))) (sNil)) (sRet (eAnd (eBin dGt (eBin dIx (eVar 0) (eC (.int 1))) (eC (.int 0))) (eBin dEq (eCall f_common (aCons (eBin dIx (eVar 0) (eC (.int 0))) (aCons (eBin dIx (eVar 0) (eC (.int 1))) (aNil)))) (eC (.int 1)))))
noncomputable def f_is_lowest : FN := mkFn 1 1 m_is_lowest
noncomputable def m_is_fraction : SF := sRet (eAnd (eCall f_is_lowest (aCons (eVar 0) (aNil))) (eAnd (eChain dLe dLe (eUn dNeg (eC k_MOST)) (eBin dIx (eVar 0) (eC (.int 0))) (eC k_MOST)) (eBin dLe (eBin dIx (eVar 0) (eC (.int 1))) (eC k_MOST))))
noncomputable def f_is_fraction : FN := mkFn 1 1 m_is_fraction
noncomputable def m_plus : SF := sRet (eCall f_rate (aCons (eBin dAdd (eBin dMul (eBin dIx (eVar 0) (eC (.int 0))) (eBin dIx (eVar 1) (eC (.int 1)))) (eBin dMul (eBin dIx (eVar 1) (eC (.int 0))) (eBin dIx (eVar 0) (eC (.int 1))))) (aCons (eBin dMul (eBin dIx (eVar 0) (eC (.int 1))) (eBin dIx (eVar 1) (eC (.int 1)))) (aNil))))
noncomputable def f_plus : FN := mkFn 2 2 m_plus
noncomputable def m_less : SF := sRet (eCall f_rate (aCons (eBin dSub (eBin dMul (eBin dIx (eVar 0) (eC (.int 0))) (eBin dIx (eVar 1) (eC (.int 1)))) (eBin dMul (eBin dIx (eVar 1) (eC (.int 0))) (eBin dIx (eVar 0) (eC (.int 1))))) (aCons (eBin dMul (eBin dIx (eVar 0) (eC (.int 1))) (eBin dIx (eVar 1) (eC (.int 1)))) (aNil))))
noncomputable def f_less : FN := mkFn 2 2 m_less
noncomputable def m_times : SF := sRet (eCall f_rate (aCons (eBin dMul (eBin dIx (eVar 0) (eC (.int 0))) (eBin dIx (eVar 1) (eC (.int 0)))) (aCons (eBin dMul (eBin dIx (eVar 0) (eC (.int 1))) (eBin dIx (eVar 1) (eC (.int 1)))) (aNil))))
noncomputable def f_times : FN := mkFn 2 2 m_times
noncomputable def m_over : SF := sRet (eCall f_rate (aCons (eBin dMul (eBin dIx (eVar 0) (eC (.int 0))) (eBin dIx (eVar 1) (eC (.int 1)))) (aCons (eBin dMul (eBin dIx (eVar 0) (eC (.int 1))) (eBin dIx (eVar 1) (eC (.int 0)))) (aNil))))
noncomputable def f_over : FN := mkFn 2 2 m_over
noncomputable def m_turned_sign : SF := sRet (eTup (aCons (eUn dNeg (eBin dIx (eVar 0) (eC (.int 0)))) (aCons (eBin dIx (eVar 0) (eC (.int 1))) (aNil))))
noncomputable def f_turned_sign : FN := mkFn 1 1 m_turned_sign
noncomputable def m_squared : SF := sRet (eTup (aCons (eBin dMul (eBin dIx (eVar 0) (eC (.int 0))) (eBin dIx (eVar 0) (eC (.int 0)))) (aCons (eBin dMul (eBin dIx (eVar 0) (eC (.int 1))) (eBin dIx (eVar 0) (eC (.int 1)))) (aNil))))
noncomputable def f_squared : FN := mkFn 1 1 m_squared
noncomputable def m_sign_of : SF := sRet (eBin dSubB (eBin dGt (eBin dIx (eVar 0) (eC (.int 0))) (eC (.int 0))) (eBin dLt (eBin dIx (eVar 0) (eC (.int 0))) (eC (.int 0))))
noncomputable def f_sign_of : FN := mkFn 1 1 m_sign_of
noncomputable def m_plain : SF := sRet (eTup (aCons (eVar 0) (aCons (eC k_ZERO) (aCons (eC (.int 0)) (aNil)))))
noncomputable def f_plain : FN := mkFn 1 1 m_plain
noncomputable def m_made : SF := sRet (eIf (tOf (eBin dNe (eBin dIx (eVar 1) (eC (.int 0))) (eC (.int 0)))) (eTup (aCons (eVar 0) (aCons (eVar 1) (aCons (eVar 2) (aNil))))) (eTup (aCons (eVar 0) (aCons (eC k_ZERO) (aCons (eC (.int 0)) (aNil))))))
noncomputable def f_made : FN := mkFn 3 3 m_made
noncomputable def m_field_of : SF := sRet (eIf (tOf (eBin dNe (eBin dIx (eVar 0) (eC (.int 2))) (eC (.int 0)))) (eBin dIx (eVar 0) (eC (.int 2))) (eBin dIx (eVar 1) (eC (.int 2))))
noncomputable def f_field_of : FN := mkFn 2 2 m_field_of
noncomputable def m_added : SF := sRet (eCall f_made (aCons (eCall f_plus (aCons (eBin dIx (eVar 0) (eC (.int 0))) (aCons (eBin dIx (eVar 1) (eC (.int 0))) (aNil)))) (aCons (eCall f_plus (aCons (eBin dIx (eVar 0) (eC (.int 1))) (aCons (eBin dIx (eVar 1) (eC (.int 1))) (aNil)))) (aCons (eCall f_field_of (aCons (eVar 0) (aCons (eVar 1) (aNil)))) (aNil)))))
noncomputable def f_added : FN := mkFn 2 2 m_added
noncomputable def m_lessened : SF := sRet (eCall f_made (aCons (eCall f_less (aCons (eBin dIx (eVar 0) (eC (.int 0))) (aCons (eBin dIx (eVar 1) (eC (.int 0))) (aNil)))) (aCons (eCall f_less (aCons (eBin dIx (eVar 0) (eC (.int 1))) (aCons (eBin dIx (eVar 1) (eC (.int 1))) (aNil)))) (aCons (eCall f_field_of (aCons (eVar 0) (aCons (eVar 1) (aNil)))) (aNil)))))
noncomputable def f_lessened : FN := mkFn 2 2 m_lessened
noncomputable def m_scaled : SF := sRet (eCall f_made (aCons (eCall f_times (aCons (eBin dIx (eVar 0) (eC (.int 0))) (aCons (eVar 1) (aNil)))) (aCons (eCall f_times (aCons (eBin dIx (eVar 0) (eC (.int 1))) (aCons (eVar 1) (aNil)))) (aCons (eBin dIx (eVar 0) (eC (.int 2))) (aNil)))))
noncomputable def f_scaled : FN := mkFn 2 2 m_scaled
noncomputable def m_root_of : SF := sSeq (sSet 1 (eBin dMul (eBin dIx (eVar 0) (eC (.int 0))) (eBin dIx (eVar 0) (eC (.int 1))))) (sSeq (sSet 2 (eCall f_whole_root (aCons (eVar 1) (aNil)))) (sSeq (sIf (tOf (eBin dEq (eBin dMul (eVar 2) (eVar 2)) (eVar 1))) (sRet (eCall f_plain (aCons (eCall f_rate (aCons (eVar 2) (aCons (eBin dIx (eVar 0) (eC (.int 1))) (aNil)))) (aNil)))) (sNil)) (sRet (eTup (aCons (eC k_ZERO) (aCons (eTup (aCons (eC (.int 1)) (aCons (eBin dIx (eVar 0) (eC (.int 1))) (aNil)))) (aCons (eVar 1) (aNil))))))))
noncomputable def f_root_of : FN := mkFn 1 3 m_root_of
noncomputable def q_told_1 : SF := sIf (tOf (eBin dEq (eBin dIx (eBin dIx (eVar 0) (eC (.int 1))) (eC (.int 0))) (eC (.int 0)))) (sRet (eBin dIx (eVar 0) (eC (.int 0)))) (sNil)
noncomputable def q_told_2 : SF := sSet 1 (eCall f_less (aCons (eCall f_squared (aCons (eBin dIx (eVar 0) (eC (.int 0))) (aNil))) (aCons (eCall f_times (aCons (eCall f_squared (aCons (eBin dIx (eVar 0) (eC (.int 1))) (aNil))) (aCons (eTup (aCons (eBin dIx (eVar 0) (eC (.int 2))) (aCons (eC (.int 1)) (aNil)))) (aNil)))) (aNil))))
noncomputable def q_told_3 : SF := sSet 2 (eCall f_turned_sign (aCons (eCall f_plus (aCons (eBin dIx (eVar 0) (eC (.int 0))) (aCons (eBin dIx (eVar 0) (eC (.int 0))) (aNil)))) (aNil)))
noncomputable def q_told_4 : SF := sSet 3 (eBin dDiv (eBin dMul (eBin dIx (eVar 1) (eC (.int 1))) (eBin dIx (eVar 2) (eC (.int 1)))) (eCall f_common (aCons (eBin dIx (eVar 1) (eC (.int 1))) (aCons (eBin dIx (eVar 2) (eC (.int 1))) (aNil)))))
noncomputable def q_told_5 : SF := sPar3 4 2 1 (aCons (eVar 3) (aCons (eBin dMul (eBin dIx (eVar 2) (eC (.int 0))) (eBin dDiv (eVar 3) (eBin dIx (eVar 2) (eC (.int 1))))) (aCons (eBin dMul (eBin dIx (eVar 1) (eC (.int 0))) (eBin dDiv (eVar 3) (eBin dIx (eVar 1) (eC (.int 1))))) (aNil))))
noncomputable def q_told_6 : SF := sSet 5 (eCall f_common (aCons (eCall f_common (aCons (eVar 4) (aCons (eVar 2) (aNil)))) (aCons (eVar 1) (aNil))))
noncomputable def q_told_7 : SF := sRet (eTup (aCons (eBin dDiv (eVar 4) (eVar 5)) (aCons (eBin dDiv (eVar 2) (eVar 5)) (aCons (eBin dDiv (eVar 1) (eVar 5)) (aCons (eCall f_sign_of (aCons (eBin dIx (eVar 0) (eC (.int 1))) (aNil))) (aNil))))))
noncomputable def m_told : SF := sSeq (q_told_1) (sSeq (q_told_2) (sSeq (q_told_3) (sSeq (q_told_4) (sSeq (q_told_5) (sSeq (q_told_6) (q_told_7))))))
noncomputable def f_told : FN := mkFn 1 6 m_told
noncomputable def m_is_root : SF := sSeq (sIf (DL.tOr (DL.tNot (tTru (eCall (fIsi sub0) (aCons (eVar 0) (aCons (eC (.ty "tuple")) (aNil)))))) (DL.tOr (tOf (eBin dNe (eCall fLen (aCons (eVar 0) (aNil))) (eC (.int 4)))) (DL.tNot (tTru (eCall fAll (aCons (eComp [6] (wTup (eVar 0)) (gSet 6) (tYes) (eCall f_is_whole (aCons (eVar 6) (aNil)))) (aNil))))))) (sRet (eC (.bl false))) (sNil)) (sSeq (sAsg (gTupD (gsCons (gSet 1) (gsCons (gSet 2) (gsCons (gSet 3) (gsCons (gSet 4) (gsNil)))))) (eVar 0)) (sSeq (sIf (DL.tOr (tOf (eBin dLt (eVar 1) (eC (.int 1)))) (DL.tOr (tOf (eBin dNotIn (eVar 4) (eTup (aCons (eUn dNeg (eC (.int 1))) (aCons (eC (.int 1)) (aNil)))))) (tOf (eBin dNe (eCall f_common (aCons (eCall f_common (aCons (eVar 1) (aCons (eVar 2) (aNil)))) (aCons (eVar 3) (aNil)))) (eC (.int 1)))))) (sRet (eC (.bl false))) (sNil)) (sSeq (sSet 5 (eBin dSub (eBin dMul (eVar 2) (eVar 2)) (eBin dMul (eBin dMul (eC (.int 4)) (eVar 1)) (eVar 3)))) (sRet (eAnd (eBin dGt (eVar 5) (eC (.int 0))) (eBin dNe (eBin dPow (eCall f_whole_root (aCons (eVar 5) (aNil))) (eC (.int 2))) (eVar 5)))))))
noncomputable def f_is_root : FN := mkFn 1 7 m_is_root
noncomputable def m_is_number : SF := sRet (eOr (eCall f_is_lowest (aCons (eVar 0) (aNil))) (eCall f_is_root (aCons (eVar 0) (aNil))))
noncomputable def f_is_number : FN := mkFn 1 1 m_is_number
noncomputable def m_is_point : SF := sRet (eAnd (eCall (fIsi sub0) (aCons (eVar 0) (aCons (eC (.ty "tuple")) (aNil)))) (eAnd (eBin dEq (eCall fLen (aCons (eVar 0) (aNil))) (eC (.int 2))) (eCall fAll (aCons (eComp [1] (wTup (eVar 0)) (gSet 1) (tYes) (eCall f_is_fraction (aCons (eVar 1) (aNil)))) (aNil)))))
noncomputable def f_is_point : FN := mkFn 1 2 m_is_point
noncomputable def m_look_at_point : SF := sIf (DL.tNot (tTru (eCall f_is_point (aCons (eVar 0) (aNil))))) (sRaise "BadPoint" (eVar 0)) (sNil)
noncomputable def f_look_at_point : FN := mkFn 1 1 m_look_at_point
noncomputable def m_is_far_point : SF := sRet (eAnd (eCall (fIsi sub0) (aCons (eVar 0) (aCons (eC (.ty "tuple")) (aNil)))) (eAnd (eBin dEq (eCall fLen (aCons (eVar 0) (aNil))) (eC (.int 2))) (eCall fAll (aCons (eComp [1] (wTup (eVar 0)) (gSet 1) (tYes) (eCall f_is_number (aCons (eVar 1) (aNil)))) (aNil)))))
noncomputable def f_is_far_point : FN := mkFn 1 2 m_is_far_point
noncomputable def m_beside : SF := sRet (eTup (aCons (eCall f_less (aCons (eBin dIx (eVar 0) (eC (.int 0))) (aCons (eBin dIx (eVar 1) (eC (.int 0))) (aNil)))) (aCons (eCall f_less (aCons (eBin dIx (eVar 0) (eC (.int 1))) (aCons (eBin dIx (eVar 1) (eC (.int 1))) (aNil)))) (aNil))))
noncomputable def f_beside : FN := mkFn 2 2 m_beside
noncomputable def m_square_of : SF := sRet (eCall f_plus (aCons (eCall f_squared (aCons (eBin dIx (eVar 0) (eC (.int 0))) (aNil))) (aCons (eCall f_squared (aCons (eBin dIx (eVar 0) (eC (.int 1))) (aNil))) (aNil))))
noncomputable def f_square_of : FN := mkFn 1 1 m_square_of
noncomputable def m_square_between : SF := sSeq (sExpr (eCall f_look_at_point (aCons (eVar 0) (aNil)))) (sSeq (sExpr (eCall f_look_at_point (aCons (eVar 1) (aNil)))) (sRet (eCall f_square_of (aCons (eCall f_beside (aCons (eVar 0) (aCons (eVar 1) (aNil)))) (aNil)))))
noncomputable def f_square_between : FN := mkFn 2 2 m_square_between
noncomputable def m_told_side : SF := sSeq (sPar 3 4 (aCons (eCall f_beside (aCons (eVar 1) (aCons (eVar 0) (aNil)))) (aCons (eCall f_beside (aCons (eVar 2) (aCons (eVar 0) (aNil)))) (aNil)))) (sRet (eCall f_sign_of (aCons (eCall f_less (aCons (eCall f_times (aCons (eBin dIx (eVar 3) (eC (.int 0))) (aCons (eBin dIx (eVar 4) (eC (.int 1))) (aNil)))) (aCons (eCall f_times (aCons (eBin dIx (eVar 3) (eC (.int 1))) (aCons (eBin dIx (eVar 4) (eC (.int 0))) (aNil)))) (aNil)))) (aNil))))
noncomputable def f_told_side : FN := mkFn 3 5 m_told_side
noncomputable def m_side_of : SF := sSeq (sExpr (eCall f_look_at_point (aCons (eVar 0) (aNil)))) (sSeq (sExpr (eCall f_look_at_point (aCons (eVar 1) (aNil)))) (sSeq (sExpr (eCall f_look_at_point (aCons (eVar 2) (aNil)))) (sRet (eCall f_told_side (aCons (eVar 0) (aCons (eVar 1) (aCons (eVar 2) (aNil))))))))
noncomputable def f_side_of : FN := mkFn 3 3 m_side_of
noncomputable def m_told_is_on : SF := sSeq (sIf (tOf (eBin dNe (eCall f_told_side (aCons (eVar 0) (aCons (eVar 1) (aCons (eVar 2) (aNil))))) (eC (.int 0)))) (sRet (eC (.bl false))) (sNil)) (sSeq (sPar 3 4 (aCons (eCall f_beside (aCons (eVar 0) (aCons (eVar 2) (aNil)))) (aCons (eCall f_beside (aCons (eVar 1) (aCons (eVar 2) (aNil)))) (aNil)))) (sRet (eBin dLe (eCall f_sign_of (aCons (eCall f_plus (aCons (eCall f_times (aCons (eBin dIx (eVar 3) (eC (.int 0))) (aCons (eBin dIx (eVar 4) (eC (.int 0))) (aNil)))) (aCons (eCall f_times (aCons (eBin dIx (eVar 3) (eC (.int 1))) (aCons (eBin dIx (eVar 4) (eC (.int 1))) (aNil)))) (aNil)))) (aNil))) (eC (.int 0)))))
noncomputable def f_told_is_on : FN := mkFn 3 5 m_told_is_on
noncomputable def m_is_on : SF := sSeq (sExpr (eCall f_look_at_point (aCons (eVar 0) (aNil)))) (sSeq (sExpr (eCall f_look_at_point (aCons (eVar 1) (aNil)))) (sSeq (sExpr (eCall f_look_at_point (aCons (eVar 2) (aNil)))) (sRet (eCall f_told_is_on (aCons (eVar 0) (aCons (eVar 1) (aCons (eVar 2) (aNil))))))))
noncomputable def f_is_on : FN := mkFn 3 3 m_is_on
noncomputable def m_told_do_meet : SF := sSeq (sPar 2 3 (aCons (eCall f_told_side (aCons (eBin dIx (eVar 0) (eC (.int 0))) (aCons (eBin dIx (eVar 0) (eC (.int 1))) (aCons (eBin dIx (eVar 1) (eC (.int 0))) (aNil))))) (aCons (eCall f_told_side (aCons (eBin dIx (eVar 0) (eC (.int 0))) (aCons (eBin dIx (eVar 0) (eC (.int 1))) (aCons (eBin dIx (eVar 1) (eC (.int 1))) (aNil))))) (aNil)))) (sSeq (sPar 4 5 (aCons (eCall f_told_side (aCons (eBin dIx (eVar 1) (eC (.int 0))) (aCons (eBin dIx (eVar 1) (eC (.int 1))) (aCons (eBin dIx (eVar 0) (eC (.int 0))) (aNil))))) (aCons (eCall f_told_side (aCons (eBin dIx (eVar 1) (eC (.int 0))) (aCons (eBin dIx (eVar 1) (eC (.int 1))) (aCons (eBin dIx (eVar 0) (eC (.int 1))) (aNil))))) (aNil)))) (sSeq (sIf (DL.tAnd (tOf (eBin dLt (eBin dMul (eVar 2) (eVar 3)) (eC (.int 0)))) (tOf (eBin dLt (eBin dMul (eVar 4) (eVar 5)) (eC (.int 0))))) (sRet (eC (.bl true))) (sNil)) (sSeq (sIf (tTru (eCall fAny (aCons (eComp [6] (wTup (eVar 1)) (gSet 6) (tYes) (eCall f_told_is_on (aCons (eBin dIx (eVar 0) (eC (.int 0))) (aCons (eBin dIx (eVar 0) (eC (.int 1))) (aCons (eVar 6) (aNil)))))) (aNil)))) (sRet (eC (.bl true))) (sNil)) (sRet (eCall fAny (aCons (eComp [6] (wTup (eVar 0)) (gSet 6) (tYes) (eCall f_told_is_on (aCons (eBin dIx (eVar 1) (eC (.int 0))) (aCons (eBin dIx (eVar 1) (eC (.int 1))) (aCons (eVar 6) (aNil)))))) (aNil)))))))
noncomputable def f_told_do_meet : FN := mkFn 2 7 m_told_do_meet
noncomputable def q_do_meet_1B : SF := sExpr (eCall f_look_at_point (aCons (eVar 4) (aNil)))
noncomputable def q_do_meet_1 : SF := sFor (wTup (eTup (aCons (eVar 0) (aCons (eVar 1) (aCons (eVar 2) (aCons (eVar 3) (aNil))))))) (gSet 4) (q_do_meet_1B)
noncomputable def q_do_meet_2 : SF := sRet (eCall f_told_do_meet (aCons (eTup (aCons (eVar 0) (aCons (eVar 1) (aNil)))) (aCons (eTup (aCons (eVar 2) (aCons (eVar 3) (aNil)))) (aNil))))
noncomputable def m_do_meet : SF := sSeq (q_do_meet_1) (q_do_meet_2)
noncomputable def f_do_meet : FN := mkFn 4 5 m_do_meet
noncomputable def m_vector : SF := sRet (eTup (aCons (eCall f_plain (aCons (eBin dIx (eVar 0) (eC (.int 0))) (aNil))) (aCons (eCall f_plain (aCons (eBin dIx (eVar 0) (eC (.int 1))) (aNil))) (aNil))))
noncomputable def f_vector : FN := mkFn 1 1 m_vector
noncomputable def m_told_vector : SF := sRet (eTup (aCons (eCall f_told (aCons (eBin dIx (eVar 0) (eC (.int 0))) (aNil))) (aCons (eCall f_told (aCons (eBin dIx (eVar 0) (eC (.int 1))) (aNil))) (aNil))))
noncomputable def f_told_vector : FN := mkFn 1 1 m_told_vector
noncomputable def m_moved : SF := sRet (eTup (aCons (eCall f_added (aCons (eBin dIx (eVar 0) (eC (.int 0))) (aCons (eBin dIx (eVar 1) (eC (.int 0))) (aNil)))) (aCons (eCall f_added (aCons (eBin dIx (eVar 0) (eC (.int 1))) (aCons (eBin dIx (eVar 1) (eC (.int 1))) (aNil)))) (aNil))))
noncomputable def f_moved : FN := mkFn 2 2 m_moved
noncomputable def m_away : SF := sRet (eTup (aCons (eCall f_lessened (aCons (eBin dIx (eVar 0) (eC (.int 0))) (aCons (eBin dIx (eVar 1) (eC (.int 0))) (aNil)))) (aCons (eCall f_lessened (aCons (eBin dIx (eVar 0) (eC (.int 1))) (aCons (eBin dIx (eVar 1) (eC (.int 1))) (aNil)))) (aNil))))
noncomputable def f_away : FN := mkFn 2 2 m_away
noncomputable def q_on_line_1 : SF := sAsg (gTupD (gsCons (gSet 2) (gsCons (gSet 3) (gsCons (gSet 4) (gsNil))))) (eVar 0)
noncomputable def q_on_line_2 : SF := sSet 5 (eCall f_plus (aCons (eCall f_squared (aCons (eVar 2) (aNil))) (aCons (eCall f_squared (aCons (eVar 3) (aNil))) (aNil))))
noncomputable def q_on_line_3 : SF := sSet 6 (eCall f_less (aCons (eCall f_times (aCons (eVar 1) (aCons (eVar 5) (aNil)))) (aCons (eCall f_squared (aCons (eVar 4) (aNil))) (aNil))))
noncomputable def q_on_line_4 : SF := sIf (tOf (eBin dLt (eCall f_sign_of (aCons (eVar 6) (aNil))) (eC (.int 0)))) (sRet (eLst (aNil))) (sNil)
noncomputable def q_on_line_5 : SF := sSet 7 (eTup (aCons (eCall f_over (aCons (eCall f_times (aCons (eVar 2) (aCons (eTup (aCons (eUn dNeg (eBin dIx (eVar 4) (eC (.int 0)))) (aCons (eBin dIx (eVar 4) (eC (.int 1))) (aNil)))) (aNil)))) (aCons (eVar 5) (aNil)))) (aCons (eCall f_over (aCons (eCall f_times (aCons (eVar 3) (aCons (eTup (aCons (eUn dNeg (eBin dIx (eVar 4) (eC (.int 0)))) (aCons (eBin dIx (eVar 4) (eC (.int 1))) (aNil)))) (aNil)))) (aCons (eVar 5) (aNil)))) (aNil))))
noncomputable def q_on_line_6a_1 : SF := sRet (eLst (aCons (eCall f_vector (aCons (eVar 7) (aNil))) (aNil)))
noncomputable def q_on_line_6 : SF := sIf (tOf (eBin dEq (eCall f_sign_of (aCons (eVar 6) (aNil))) (eC (.int 0)))) (q_on_line_6a_1) (sNil)
noncomputable def q_on_line_8 : SF := sSet 9 (eTup (aCons (eCall f_scaled (aCons (eVar 8) (aCons (eCall f_over (aCons (eTup (aCons (eUn dNeg (eBin dIx (eVar 3) (eC (.int 0)))) (aCons (eBin dIx (eVar 3) (eC (.int 1))) (aNil)))) (aCons (eVar 5) (aNil)))) (aNil)))) (aCons (eCall f_scaled (aCons (eVar 8) (aCons (eCall f_over (aCons (eVar 2) (aCons (eVar 5) (aNil)))) (aNil)))) (aNil))))
noncomputable def q_on_line_9 : SF := sRet (eLst (aCons (eCall f_moved (aCons (eCall f_vector (aCons (eVar 7) (aNil))) (aCons (eVar 9) (aNil)))) (aCons (eCall f_away (aCons (eCall f_vector (aCons (eVar 7) (aNil))) (aCons (eVar 9) (aNil)))) (aNil))))
noncomputable def m_on_line : SF := sSeq (q_on_line_1) (sSeq (q_on_line_2) (sSeq (q_on_line_3) (sSeq (q_on_line_4) (sSeq (q_on_line_5) (sSeq (q_on_line_6) (sSeq (sSet 8 (eCall f_root_of (aCons (eVar 6) (aNil)))) (sSeq (q_on_line_8) (q_on_line_9))))))))
noncomputable def f_on_line : FN := mkFn 2 10 m_on_line
noncomputable def m_line_through : SF := sSeq (sPar 2 3 (aCons (eCall f_less (aCons (eBin dIx (eVar 0) (eC (.int 1))) (aCons (eBin dIx (eVar 1) (eC (.int 1))) (aNil)))) (aCons (eCall f_less (aCons (eBin dIx (eVar 1) (eC (.int 0))) (aCons (eBin dIx (eVar 0) (eC (.int 0))) (aNil)))) (aNil)))) (sRet (eTup (aCons (eVar 2) (aCons (eVar 3) (aCons (eCall f_less (aCons (eTup (aCons (eC (.int 0)) (aCons (eC (.int 1)) (aNil)))) (aCons (eCall f_plus (aCons (eCall f_times (aCons (eVar 2) (aCons (eBin dIx (eVar 0) (eC (.int 0))) (aNil)))) (aCons (eCall f_times (aCons (eVar 3) (aCons (eBin dIx (eVar 0) (eC (.int 1))) (aNil)))) (aNil)))) (aNil)))) (aNil))))))
noncomputable def f_line_through : FN := mkFn 2 4 m_line_through
noncomputable def m_on_circles : SF := sSeq (sSet 3 (eCall f_less (aCons (eVar 2) (aCons (eCall f_plus (aCons (eVar 0) (aCons (eCall f_square_of (aCons (eVar 1) (aNil))) (aNil)))) (aNil))))) (sRet (eCall f_on_line (aCons (eTup (aCons (eCall f_plus (aCons (eBin dIx (eVar 1) (eC (.int 0))) (aCons (eBin dIx (eVar 1) (eC (.int 0))) (aNil)))) (aCons (eCall f_plus (aCons (eBin dIx (eVar 1) (eC (.int 1))) (aCons (eBin dIx (eVar 1) (eC (.int 1))) (aNil)))) (aCons (eVar 3) (aNil))))) (aCons (eVar 0) (aNil)))))
noncomputable def f_on_circles : FN := mkFn 3 4 m_on_circles
noncomputable def m_look_at_square : SF := sIf (DL.tOr (DL.tNot (tTru (eCall f_is_fraction (aCons (eVar 0) (aNil))))) (tOf (eBin dLt (eBin dIx (eVar 0) (eC (.int 0))) (eC (.int 0))))) (sRaise "BadFraction" (eVar 0)) (sNil)
noncomputable def f_look_at_square : FN := mkFn 1 1 m_look_at_square
noncomputable def m_line_meets_circle : SF := sSeq (sExpr (eCall f_look_at_point (aCons (eVar 0) (aNil)))) (sSeq (sExpr (eCall f_look_at_point (aCons (eVar 1) (aNil)))) (sSeq (sIf (tOf (eBin dEq (eVar 0) (eVar 1))) (sRaise "Unlike" (eVar 1)) (sNil)) (sSeq (sExpr (eCall f_look_at_square (aCons (eVar 2) (aNil)))) (sRet (eCall fTuple (aCons (eComp [3] (wLst (eCall f_on_line (aCons (eCall f_line_through (aCons (eVar 0) (aCons (eVar 1) (aNil)))) (aCons (eVar 2) (aNil))))) (gSet 3) (tYes) (eCall f_told_vector (aCons (eVar 3) (aNil)))) (aNil)))))))
noncomputable def f_line_meets_circle : FN := mkFn 3 4 m_line_meets_circle
noncomputable def q_circles_meet_4a_1 : SF := sIf (tOf (eBin dNe (eVar 0) (eVar 2))) (sRet (eTup (aNil))) (sNil)
noncomputable def q_circles_meet_4a_2 : SF := sRet (eIf (tOf (eBin dNe (eBin dIx (eVar 0) (eC (.int 0))) (eC (.int 0)))) (eC .non) (eTup (aCons (eC k_NOWHERE) (aNil))))
noncomputable def q_circles_meet_4 : SF := sIf (tOf (eBin dEq (eVar 1) (eC k_NOWHERE))) (sSeq (q_circles_meet_4a_1) (q_circles_meet_4a_2)) (sNil)
noncomputable def q_circles_meet_5 : SF := sRet (eCall fTuple (aCons (eComp [3] (wLst (eCall f_on_circles (aCons (eVar 0) (aCons (eVar 1) (aCons (eVar 2) (aNil)))))) (gSet 3) (tYes) (eCall f_told_vector (aCons (eVar 3) (aNil)))) (aNil)))
noncomputable def m_circles_meet : SF := sSeq (sExpr (eCall f_look_at_square (aCons (eVar 0) (aNil)))) (sSeq (sExpr (eCall f_look_at_point (aCons (eVar 1) (aNil)))) (sSeq (sExpr (eCall f_look_at_square (aCons (eVar 2) (aNil)))) (sSeq (q_circles_meet_4) (q_circles_meet_5))))
noncomputable def f_circles_meet : FN := mkFn 3 4 m_circles_meet
noncomputable def m_law_pot : SF := sSeq (sSet 2 (eIf (tOf (eBin dLt (eVar 1) (eCall fLen (aCons (eVar 0) (aNil))))) (eBin dIx (eVar 0) (eVar 1)) (eBin dAdd (eBin dAdd (eBin dMod (eCall fInt (aCons (eCall fSum (aCons (eCut (eVar 0) (oNone) (oSome (eC (.int 1)))) (aNil))) (aNil))) (eC (.int 1000211))) (eBin dMul (eC (.int 4639)) (eVar 1))) (eC (.int 3163))))) (sSeq (sSet 3 (eBin dMul (eBin dMod (eCall fInt (aCons (eCall fAbs (aCons (eVar 2) (aNil))) (aNil))) (eBin dPow (eBin dPow (eC (.int 10)) (eC (.int 60))) (eC (.int 5)))) (eCall fInt (aCons (eBin dGe (eCall fAbs (aCons (eVar 2) (aNil))) (eBin dPow (eC (.int 10)) (eC (.int 18)))) (aNil))))) (sSeq (sSet 4 (eBin dMod (eCall fInt (aCons (eVar 2) (aNil))) (eC (.int 2305843009213693951)))) (sRet (eNew (aCons (eVar 3) (aCons (eBin dMod (eCall fInt (aCons (eBin dAdd (eBin dAdd (eBin dMul (eVar 4) (eC (.int 72161))) (eBin dMul (eBin dMul (eC (.int 10853)) (eVar 1)) (eVar 1))) (eC (.int 2843))) (aNil))) (eC (.int 2305843009213693921))) (aCons (eC (.int 0)) (aNil))))))))
noncomputable def f_law_pot : FN := mkFn 2 5 m_law_pot
noncomputable def m_law_take : SF := sSeq (sIf (tOf (eBin dGt (eBin dIx (eVar 0) (eC (.int 0))) (eC (.int 0)))) (sSeq (sSet 4 (eBin dMod (eCall fInt (aCons (eBin dIx (eVar 0) (eC (.int 0))) (aNil))) (eVar 1))) (sSeq (sSub (eVar 0) (eC (.int 0)) (eBin dDiv (eBin dIx (eVar 0) (eC (.int 0))) (eVar 1))) (sRet (eVar 4)))) (sNil)) (sSeq (sSub (eVar 0) (eC (.int 2)) (eBin dAdd (eBin dIx (eVar 0) (eC (.int 2))) (eC (.int 1)))) (sSeq (sSet 2 (eBin dIx (eLst (aCons (eC (.int 2147483647)) (aCons (eC (.int 2147483629)) (aCons (eC (.int 2147483587)) (aCons (eC (.int 2147483579)) (aCons (eC (.int 2147483563)) (aNil))))))) (eBin dMod (eCall fInt (aCons (eBin dIx (eVar 0) (eC (.int 2))) (aNil))) (eC (.int 5))))) (sSeq (sSet 3 (eBin dMod (eCall fInt (aCons (eBin dPow (eCall fInt (aCons (eBin dAdd (eBin dAdd (eBin dIx (eVar 0) (eC (.int 1))) (eBin dMul (eBin dMul (eC (.int 95257)) (eBin dIx (eVar 0) (eC (.int 2)))) (eBin dIx (eVar 0) (eC (.int 2))))) (eC (.int 3163))) (aNil))) (eC (.int 3))) (aNil))) (eVar 2))) (sSeq (sSet 3 (eBin dMod (eCall fInt (aCons (eBin dMul (eVar 3) (eBin dAdd (eBin dMod (eCall fInt (aCons (eVar 3) (aNil))) (eC (.int 13441))) (eBin dMul (eC (.int 419)) (eBin dIx (eVar 0) (eC (.int 2)))))) (aNil))) (eC (.int 2305843009213693907)))) (sRet (eBin dMod (eCall fInt (aCons (eBin dDiv (eVar 3) (eC (.int 229))) (aNil))) (eVar 1)))))))
noncomputable def f_law_take : FN := mkFn 2 5 m_law_take
noncomputable def m_law_of : SF := sRet (eBin dIx (eVar 1) (eCall f_law_take (aCons (eVar 0) (aCons (eCall fLen (aCons (eVar 1) (aNil))) (aNil)))))
noncomputable def f_law_of : FN := mkFn 2 2 m_law_of
noncomputable def m_law_cells : SF := sRet (eListRg (fRange1 (aCons (eCall fMax (aCons (eC (.int 1)) (aCons (eCall fMin (aCons (eVar 1) (aCons (eCall fLen (aCons (eVar 0) (aNil))) (aNil)))) (aNil)))) aNil)))
noncomputable def f_law_cells : FN := mkFn 2 2 m_law_cells
noncomputable def m_law_gcd : SF := sSeq (sPar 0 1 (aCons (eCall fAbs (aCons (eVar 0) (aNil))) (aCons (eCall fAbs (aCons (eVar 1) (aNil))) (aNil)))) (sSeq (sWhile (tOf (eBin dNe (eVar 1) (eC (.int 0)))) (sPar 0 1 (aCons (eVar 1) (aCons (eBin dMod (eVar 0) (eVar 1)) (aNil))))) (sRet (eVar 0)))
noncomputable def f_law_gcd : FN := mkFn 2 2 m_law_gcd
noncomputable def m_law_rate : SF := sSeq (sSet 2 (eBin dMul (eCall f_law_gcd (aCons (eVar 0) (aCons (eVar 1) (aNil)))) (eIf (tOf (eBin dGt (eVar 1) (eC (.int 0)))) (eC (.int 1)) (eUn dNeg (eC (.int 1)))))) (sRet (eTup (aCons (eBin dDiv (eVar 0) (eVar 2)) (aCons (eBin dDiv (eVar 1) (eVar 2)) (aNil)))))
noncomputable def f_law_rate : FN := mkFn 2 3 m_law_rate
noncomputable def m_law_plus : SF := sRet (eCall f_law_rate (aCons (eBin dAdd (eBin dMul (eBin dIx (eVar 0) (eC (.int 0))) (eBin dIx (eVar 1) (eC (.int 1)))) (eBin dMul (eBin dIx (eVar 1) (eC (.int 0))) (eBin dIx (eVar 0) (eC (.int 1))))) (aCons (eBin dMul (eBin dIx (eVar 0) (eC (.int 1))) (eBin dIx (eVar 1) (eC (.int 1)))) (aNil))))
noncomputable def f_law_plus : FN := mkFn 2 2 m_law_plus
noncomputable def m_law_is_below : SF := sRet (eBin dLt (eBin dMul (eBin dIx (eVar 0) (eC (.int 0))) (eBin dIx (eVar 1) (eC (.int 1)))) (eBin dMul (eBin dIx (eVar 1) (eC (.int 0))) (eBin dIx (eVar 0) (eC (.int 1)))))
noncomputable def f_law_is_below : FN := mkFn 2 2 m_law_is_below
noncomputable def q_law_root_of_1 : SF := sPar 1 2 (aCons (eC (.int 0)) (aCons (eBin dAdd (eVar 0) (eC (.int 1))) (aNil)))
noncomputable def q_law_root_of_2_1 : SF := sSet 3 (eBin dDiv (eBin dAdd (eVar 1) (eVar 2)) (eC (.int 2)))
noncomputable def q_law_root_of_2_2 : SF := sAsg (gTupD (gsCons (gSet 1) (gsCons (gSet 2) (gsNil)))) (eIf (tOf (eBin dLe (eBin dMul (eVar 3) (eVar 3)) (eVar 0))) (eTup (aCons (eVar 3) (aCons (eVar 2) (aNil)))) (eTup (aCons (eVar 1) (aCons (eVar 3) (aNil)))))
noncomputable def q_law_root_of_2B : SF := sSeq (q_law_root_of_2_1) (q_law_root_of_2_2)
noncomputable def q_law_root_of_2 : SF := sWhile (tOf (eBin dGt (eBin dSub (eVar 2) (eVar 1)) (eC (.int 1)))) (q_law_root_of_2B)
noncomputable def m_law_root_of : SF := sSeq (q_law_root_of_1) (sSeq (q_law_root_of_2) (sRet (eVar 1)))
noncomputable def f_law_root_of : FN := mkFn 1 4 m_law_root_of
noncomputable def m_law_el : SF := sSeq (sIf (tOf (eBin dEq (eCall fLen (aCons (eVar 0) (aNil))) (eC (.int 2)))) (sRet (eTup (aCons (eBin dIx (eVar 0) (eC (.int 0))) (aCons (eC (.int 0)) (aCons (eBin dIx (eVar 0) (eC (.int 1))) (aCons (eC (.int 0)) (aNil))))))) (sNil)) (sSeq (sAsg (gTupD (gsCons (gSet 1) (gsCons (gSet 2) (gsCons (gSet 3) (gsCons (gSet 4) (gsNil)))))) (eVar 0)) (sRet (eTup (aCons (eUn dNeg (eVar 2)) (aCons (eVar 4) (aCons (eBin dMul (eC (.int 2)) (eVar 1)) (aCons (eBin dSub (eBin dMul (eVar 2) (eVar 2)) (eBin dMul (eBin dMul (eC (.int 4)) (eVar 1)) (eVar 3))) (aNil))))))))
noncomputable def f_law_el : FN := mkFn 1 5 m_law_el
noncomputable def m_law_told : SF := sSeq (sAsg (gTupD (gsCons (gSet 1) (gsCons (gSet 2) (gsCons (gSet 3) (gsCons (gSet 4) (gsNil)))))) (eVar 0)) (sSeq (sSet 5 (eCall f_law_root_of (aCons (eVar 4) (aNil)))) (sSeq (sIf (DL.tOr (tOf (eBin dEq (eVar 2) (eC (.int 0)))) (tOf (eBin dEq (eBin dMul (eVar 5) (eVar 5)) (eVar 4)))) (sRet (eCall f_law_rate (aCons (eBin dAdd (eVar 1) (eBin dMul (eVar 2) (eIf (tOf (eBin dNe (eVar 2) (eC (.int 0)))) (eVar 5) (eC (.int 0))))) (aCons (eVar 3) (aNil))))) (sNil)) (sSeq (sPar3 6 7 8 (aCons (eBin dMul (eVar 3) (eVar 3)) (aCons (eBin dMul (eBin dMul (eUn dNeg (eC (.int 2))) (eVar 1)) (eVar 3)) (aCons (eBin dSub (eBin dMul (eVar 1) (eVar 1)) (eBin dMul (eBin dMul (eVar 2) (eVar 2)) (eVar 4))) (aNil))))) (sSeq (sSet 9 (eCall f_law_gcd (aCons (eCall f_law_gcd (aCons (eVar 6) (aCons (eVar 7) (aNil)))) (aCons (eVar 8) (aNil))))) (sRet (eTup (aCons (eBin dDiv (eVar 6) (eVar 9)) (aCons (eBin dDiv (eVar 7) (eVar 9)) (aCons (eBin dDiv (eVar 8) (eVar 9)) (aCons (eIf (tOf (eBin dEq (eBin dGt (eVar 2) (eC (.int 0))) (eBin dGt (eVar 3) (eC (.int 0))))) (eC (.int 1)) (eUn dNeg (eC (.int 1)))) (aNil)))))))))))
noncomputable def f_law_told : FN := mkFn 1 10 m_law_told
noncomputable def m_law_brought : SF := sSeq (sIf (tOf (eBin dIn (eBin dIx (eVar 0) (eC (.int 3))) (eTup (aCons (eC (.int 0)) (aCons (eVar 1) (aNil)))))) (sRet (eTup (aCons (eBin dIx (eVar 0) (eC (.int 0))) (aCons (eBin dIx (eVar 0) (eC (.int 1))) (aCons (eBin dIx (eVar 0) (eC (.int 2))) (aCons (eVar 1) (aNil))))))) (sNil)) (sSeq (sSet 2 (eCall f_law_root_of (aCons (eBin dMul (eBin dIx (eVar 0) (eC (.int 3))) (eVar 1)) (aNil)))) (sRet (eTup (aCons (eBin dMul (eBin dIx (eVar 0) (eC (.int 0))) (eVar 1)) (aCons (eBin dMul (eBin dIx (eVar 0) (eC (.int 1))) (eVar 2)) (aCons (eBin dMul (eBin dIx (eVar 0) (eC (.int 2))) (eVar 1)) (aCons (eVar 1) (aNil))))))))
noncomputable def f_law_brought : FN := mkFn 2 3 m_law_brought
noncomputable def m_law_both : SF := sSeq (sSet 2 (eIf (tOf (eBin dNe (eBin dIx (eVar 0) (eC (.int 3))) (eC (.int 0)))) (eBin dIx (eVar 0) (eC (.int 3))) (eBin dIx (eVar 1) (eC (.int 3))))) (sRet (eTup (aCons (eCall f_law_brought (aCons (eVar 0) (aCons (eVar 2) (aNil)))) (aCons (eCall f_law_brought (aCons (eVar 1) (aCons (eVar 2) (aNil)))) (aNil)))))
noncomputable def f_law_both : FN := mkFn 2 3 m_law_both
noncomputable def m_law_tidy : SF := sSeq (sSet 1 (eBin dMul (eCall f_law_gcd (aCons (eCall f_law_gcd (aCons (eBin dIx (eVar 0) (eC (.int 0))) (aCons (eBin dIx (eVar 0) (eC (.int 1))) (aNil)))) (aCons (eBin dIx (eVar 0) (eC (.int 2))) (aNil)))) (eIf (tOf (eBin dGt (eBin dIx (eVar 0) (eC (.int 2))) (eC (.int 0)))) (eC (.int 1)) (eUn dNeg (eC (.int 1)))))) (sRet (eTup (aCons (eBin dDiv (eBin dIx (eVar 0) (eC (.int 0))) (eVar 1)) (aCons (eBin dDiv (eBin dIx (eVar 0) (eC (.int 1))) (eVar 1)) (aCons (eBin dDiv (eBin dIx (eVar 0) (eC (.int 2))) (eVar 1)) (aCons (eBin dIx (eVar 0) (eC (.int 3))) (aNil)))))))
noncomputable def f_law_tidy : FN := mkFn 1 2 m_law_tidy
noncomputable def m_law_sum : SF := sSeq (sAsg (gTupD (gsCons (gSet 2) (gsCons (gSet 3) (gsNil)))) (eCall f_law_both (aCons (eVar 0) (aCons (eVar 1) (aNil))))) (sSeq (sPar 4 5 (aCons (eBin dAdd (eBin dMul (eBin dIx (eVar 2) (eC (.int 0))) (eBin dIx (eVar 3) (eC (.int 2)))) (eBin dMul (eBin dIx (eVar 3) (eC (.int 0))) (eBin dIx (eVar 2) (eC (.int 2))))) (aCons (eBin dAdd (eBin dMul (eBin dIx (eVar 2) (eC (.int 1))) (eBin dIx (eVar 3) (eC (.int 2)))) (eBin dMul (eBin dIx (eVar 3) (eC (.int 1))) (eBin dIx (eVar 2) (eC (.int 2))))) (aNil)))) (sRet (eCall f_law_tidy (aCons (eTup (aCons (eVar 4) (aCons (eVar 5) (aCons (eBin dMul (eBin dIx (eVar 2) (eC (.int 2))) (eBin dIx (eVar 3) (eC (.int 2)))) (aCons (eBin dIx (eVar 2) (eC (.int 3))) (aNil)))))) (aNil)))))
noncomputable def f_law_sum : FN := mkFn 2 6 m_law_sum
noncomputable def m_law_product : SF := sSeq (sAsg (gTupD (gsCons (gSet 2) (gsCons (gSet 3) (gsNil)))) (eCall f_law_both (aCons (eVar 0) (aCons (eVar 1) (aNil))))) (sSeq (sSet 4 (eBin dAdd (eBin dMul (eBin dIx (eVar 2) (eC (.int 0))) (eBin dIx (eVar 3) (eC (.int 0)))) (eBin dMul (eBin dMul (eBin dIx (eVar 2) (eC (.int 1))) (eBin dIx (eVar 3) (eC (.int 1)))) (eBin dIx (eVar 2) (eC (.int 3)))))) (sRet (eCall f_law_tidy (aCons (eTup (aCons (eVar 4) (aCons (eBin dAdd (eBin dMul (eBin dIx (eVar 2) (eC (.int 0))) (eBin dIx (eVar 3) (eC (.int 1)))) (eBin dMul (eBin dIx (eVar 2) (eC (.int 1))) (eBin dIx (eVar 3) (eC (.int 0))))) (aCons (eBin dMul (eBin dIx (eVar 2) (eC (.int 2))) (eBin dIx (eVar 3) (eC (.int 2)))) (aCons (eBin dIx (eVar 2) (eC (.int 3))) (aNil)))))) (aNil)))))
noncomputable def f_law_product : FN := mkFn 2 5 m_law_product
noncomputable def m_law_sign : SF := sSeq (sPar 1 2 (aCons (eBin dMul (eBin dIx (eVar 0) (eC (.int 0))) (eIf (tOf (eBin dGt (eBin dIx (eVar 0) (eC (.int 2))) (eC (.int 0)))) (eC (.int 1)) (eUn dNeg (eC (.int 1))))) (aCons (eBin dMul (eBin dIx (eVar 0) (eC (.int 1))) (eIf (tOf (eBin dGt (eBin dIx (eVar 0) (eC (.int 2))) (eC (.int 0)))) (eC (.int 1)) (eUn dNeg (eC (.int 1))))) (aNil)))) (sSeq (sPar 3 4 (aCons (eBin dSubB (eBin dGt (eVar 1) (eC (.int 0))) (eBin dLt (eVar 1) (eC (.int 0)))) (aCons (eBin dMul (eBin dSubB (eBin dGt (eVar 2) (eC (.int 0))) (eBin dLt (eVar 2) (eC (.int 0)))) (eCall fInt (aCons (eBin dGt (eBin dIx (eVar 0) (eC (.int 3))) (eC (.int 0))) (aNil)))) (aNil)))) (sSeq (sIf (DL.tOr (tOf (eBin dEq (eVar 3) (eVar 4))) (DL.tOr (tOf (eBin dEq (eVar 4) (eC (.int 0)))) (tOf (eBin dEq (eVar 3) (eC (.int 0)))))) (sRet (eIf (tOf (eBin dEq (eVar 4) (eC (.int 0)))) (eVar 3) (eVar 4))) (sNil)) (sSeq (sSet 5 (eBin dSub (eBin dMul (eVar 1) (eVar 1)) (eBin dMul (eBin dMul (eVar 2) (eVar 2)) (eBin dIx (eVar 0) (eC (.int 3)))))) (sRet (eBin dMul (eVar 3) (eBin dSubB (eBin dGt (eVar 5) (eC (.int 0))) (eBin dLt (eVar 5) (eC (.int 0)))))))))
noncomputable def f_law_sign : FN := mkFn 1 6 m_law_sign
noncomputable def m_law_part : SF := sRet (eCall f_law_rate (aCons (eBin dSub (eCall fInt (aCons (eCall f_law_take (aCons (eVar 0) (aCons (eBin dAdd (eBin dMul (eC (.int 2)) (eVar 1)) (eC (.int 1))) (aNil)))) (aNil))) (eVar 1)) (aCons (eBin dAdd (eC (.int 1)) (eCall fInt (aCons (eCall f_law_take (aCons (eVar 0) (aCons (eCall f_law_of (aCons (eVar 0) (aCons (eLst (aCons (eC (.int 1)) (aCons (eC (.int 1)) (aCons (eC (.int 2)) (aCons (eC (.int 4)) (aNil)))))) (aNil)))) (aNil)))) (aNil)))) (aNil))))
noncomputable def f_law_part : FN := mkFn 2 2 m_law_part
noncomputable def m_law_length : SF := sRet (eCall f_law_rate (aCons (eBin dAdd (eC (.int 1)) (eCall fInt (aCons (eCall f_law_take (aCons (eVar 0) (aCons (eVar 1) (aNil)))) (aNil)))) (aCons (eBin dAdd (eC (.int 1)) (eCall fInt (aCons (eCall f_law_take (aCons (eVar 0) (aCons (eCall f_law_of (aCons (eVar 0) (aCons (eLst (aCons (eC (.int 1)) (aCons (eC (.int 1)) (aCons (eC (.int 2)) (aCons (eC (.int 3)) (aNil)))))) (aNil)))) (aNil)))) (aNil)))) (aNil))))
noncomputable def f_law_length : FN := mkFn 2 2 m_law_length
noncomputable def m_law_minus : SF := sRet (eTup (aCons (eUn dNeg (eBin dIx (eVar 0) (eC (.int 0)))) (aCons (eUn dNeg (eBin dIx (eVar 0) (eC (.int 1)))) (aCons (eBin dIx (eVar 0) (eC (.int 2))) (aCons (eBin dIx (eVar 0) (eC (.int 3))) (aNil))))))
noncomputable def f_law_minus : FN := mkFn 1 1 m_law_minus
noncomputable def m_law_less : SF := sRet (eCall f_law_rate (aCons (eBin dSub (eBin dMul (eBin dIx (eVar 0) (eC (.int 0))) (eBin dIx (eVar 1) (eC (.int 1)))) (eBin dMul (eBin dIx (eVar 1) (eC (.int 0))) (eBin dIx (eVar 0) (eC (.int 1))))) (aCons (eBin dMul (eBin dIx (eVar 0) (eC (.int 1))) (eBin dIx (eVar 1) (eC (.int 1)))) (aNil))))
noncomputable def f_law_less : FN := mkFn 2 2 m_law_less
noncomputable def m_law_times : SF := sRet (eCall f_law_rate (aCons (eBin dMul (eBin dIx (eVar 0) (eC (.int 0))) (eBin dIx (eVar 1) (eC (.int 0)))) (aCons (eBin dMul (eBin dIx (eVar 0) (eC (.int 1))) (eBin dIx (eVar 1) (eC (.int 1)))) (aNil))))
noncomputable def f_law_times : FN := mkFn 2 2 m_law_times
noncomputable def m_law_point : SF := sRet (eTup (aCons (eCall f_law_part (aCons (eVar 0) (aCons (eVar 1) (aNil)))) (aCons (eCall f_law_part (aCons (eVar 0) (aCons (eVar 1) (aNil)))) (aNil))))
noncomputable def f_law_point : FN := mkFn 2 2 m_law_point
noncomputable def m_law_turn_of : SF := sSeq (sAsg (gTupD (gsCons (gSet 1) (gsCons (gSet 2) (gsNil)))) (eVar 0)) (sRet (eTup (aCons (eCall f_law_rate (aCons (eBin dSub (eBin dMul (eVar 2) (eVar 2)) (eBin dMul (eVar 1) (eVar 1))) (aCons (eBin dAdd (eBin dMul (eVar 1) (eVar 1)) (eBin dMul (eVar 2) (eVar 2))) (aNil)))) (aCons (eCall f_law_rate (aCons (eBin dMul (eBin dMul (eC (.int 2)) (eVar 1)) (eVar 2)) (aCons (eBin dAdd (eBin dMul (eVar 1) (eVar 1)) (eBin dMul (eVar 2) (eVar 2))) (aNil)))) (aNil)))))
noncomputable def f_law_turn_of : FN := mkFn 1 3 m_law_turn_of
noncomputable def m_law_beside : SF := sRet (eTup (aCons (eCall f_law_less (aCons (eBin dIx (eVar 0) (eC (.int 0))) (aCons (eBin dIx (eVar 1) (eC (.int 0))) (aNil)))) (aCons (eCall f_law_less (aCons (eBin dIx (eVar 0) (eC (.int 1))) (aCons (eBin dIx (eVar 1) (eC (.int 1))) (aNil)))) (aNil))))
noncomputable def f_law_beside : FN := mkFn 2 2 m_law_beside
noncomputable def m_law_vector : SF := sRet (eTup (aCons (eTup (aCons (eBin dIx (eBin dIx (eVar 0) (eC (.int 0))) (eC (.int 0))) (aCons (eC (.int 0)) (aCons (eBin dIx (eBin dIx (eVar 0) (eC (.int 0))) (eC (.int 1))) (aCons (eC (.int 0)) (aNil)))))) (aCons (eTup (aCons (eBin dIx (eBin dIx (eVar 0) (eC (.int 1))) (eC (.int 0))) (aCons (eC (.int 0)) (aCons (eBin dIx (eBin dIx (eVar 0) (eC (.int 1))) (eC (.int 1))) (aCons (eC (.int 0)) (aNil)))))) (aNil))))
noncomputable def f_law_vector : FN := mkFn 1 1 m_law_vector
noncomputable def m_law_moved : SF := sRet (eTup (aCons (eCall f_law_plus (aCons (eBin dIx (eVar 0) (eC (.int 0))) (aCons (eBin dIx (eVar 1) (eC (.int 0))) (aNil)))) (aCons (eCall f_law_plus (aCons (eBin dIx (eVar 0) (eC (.int 1))) (aCons (eBin dIx (eVar 1) (eC (.int 1))) (aNil)))) (aNil))))
noncomputable def f_law_moved : FN := mkFn 2 2 m_law_moved
noncomputable def m_law_cross_el : SF := sRet (eCall f_law_sign (aCons (eCall f_law_sum (aCons (eCall f_law_product (aCons (eBin dIx (eVar 0) (eC (.int 0))) (aCons (eBin dIx (eVar 1) (eC (.int 1))) (aNil)))) (aCons (eCall f_law_minus (aCons (eCall f_law_product (aCons (eBin dIx (eVar 0) (eC (.int 1))) (aCons (eBin dIx (eVar 1) (eC (.int 0))) (aNil)))) (aNil))) (aNil)))) (aNil)))
noncomputable def f_law_cross_el : FN := mkFn 2 2 m_law_cross_el
noncomputable def m_law_dot_el : SF := sRet (eCall f_law_sign (aCons (eCall f_law_sum (aCons (eCall f_law_product (aCons (eBin dIx (eVar 0) (eC (.int 0))) (aCons (eBin dIx (eVar 1) (eC (.int 0))) (aNil)))) (aCons (eCall f_law_product (aCons (eBin dIx (eVar 0) (eC (.int 1))) (aCons (eBin dIx (eVar 1) (eC (.int 1))) (aNil)))) (aNil)))) (aNil)))
noncomputable def f_law_dot_el : FN := mkFn 2 2 m_law_dot_el
noncomputable def m_law_small_turn : SF := sRet (eCall f_law_turn_of (aCons (eCall f_law_of (aCons (eVar 0) (aCons (eLst (aCons (eTup (aCons (eC (.int 0)) (aCons (eC (.int 1)) (aNil)))) (aCons (eTup (aCons (eC (.int 1)) (aCons (eC (.int 1)) (aNil)))) (aCons (eTup (aCons (eUn dNeg (eC (.int 1))) (aCons (eC (.int 1)) (aNil)))) (aCons (eTup (aCons (eC (.int 1)) (aCons (eC (.int 2)) (aNil)))) (aCons (eTup (aCons (eUn dNeg (eC (.int 1))) (aCons (eC (.int 2)) (aNil)))) (aCons (eTup (aCons (eC (.int 2)) (aCons (eC (.int 1)) (aNil)))) (aCons (eTup (aCons (eC (.int 1)) (aCons (eC (.int 3)) (aNil)))) (aCons (eTup (aCons (eUn dNeg (eC (.int 3))) (aCons (eC (.int 1)) (aNil)))) (aCons (eTup (aCons (eUn dNeg (eC (.int 2))) (aCons (eC (.int 1)) (aNil)))) (aNil))))))))))) (aNil)))) (aNil)))
noncomputable def f_law_small_turn : FN := mkFn 1 1 m_law_small_turn
noncomputable def m_law_is_at : SF := sSeq (sSet 4 (eComp [8] (wTup (eVar 0)) (gSet 8) (tYes) (eCall f_law_el (aCons (eVar 8) (aNil))))) (sSeq (sSet 5 (eCall f_law_told (aCons (eCall f_law_sum (aCons (eCall f_law_product (aCons (eBin dIx (eVar 4) (eC (.int 0))) (aCons (eBin dIx (eVar 4) (eC (.int 0))) (aNil)))) (aCons (eCall f_law_product (aCons (eBin dIx (eVar 4) (eC (.int 1))) (aCons (eBin dIx (eVar 4) (eC (.int 1))) (aNil)))) (aNil)))) (aNil)))) (sSeq (sSet 6 (eComp [9] (fRange1 (aCons (eC (.int 2)) aNil)) (gSet 9) (tYes) (eCall f_law_sum (aCons (eBin dIx (eVar 4) (eVar 9)) (aCons (eTup (aCons (eUn dNeg (eBin dIx (eBin dIx (eVar 2) (eVar 9)) (eC (.int 0)))) (aCons (eC (.int 0)) (aCons (eBin dIx (eBin dIx (eVar 2) (eVar 9)) (eC (.int 1))) (aCons (eC (.int 0)) (aNil)))))) (aNil)))))) (sSeq (sSet 7 (eCall f_law_told (aCons (eCall f_law_sum (aCons (eCall f_law_product (aCons (eBin dIx (eVar 6) (eC (.int 0))) (aCons (eBin dIx (eVar 6) (eC (.int 0))) (aNil)))) (aCons (eCall f_law_product (aCons (eBin dIx (eVar 6) (eC (.int 1))) (aCons (eBin dIx (eVar 6) (eC (.int 1))) (aNil)))) (aNil)))) (aNil)))) (sRet (eAnd (eBin dEq (eVar 5) (eVar 1)) (eBin dEq (eVar 7) (eVar 3)))))))
noncomputable def f_law_is_at : FN := mkFn 4 10 m_law_is_at
noncomputable def q_law_is_line_so_1 : SF := sAsg (gTupD (gsCons (gSet 2) (gsCons (gSet 3) (gsNil)))) (eTup (aCons (eCall f_law_small_turn (aCons (eVar 0) (aNil))) (aCons (eCall f_law_length (aCons (eVar 0) (aCons (eC (.int 4)) (aNil)))) (aNil))))
noncomputable def q_law_is_line_so_2 : SF := sAsg (gTupD (gsCons (gSet 4) (gsCons (gSet 5) (gsNil)))) (eTup (aCons (eCall fTuple (aCons (eComp [8] (wTup (eVar 2)) (gSet 8) (tYes) (eCall f_law_times (aCons (eVar 8) (aCons (eVar 3) (aNil))))) (aNil))) (aCons (eTup (aCons (eCall f_law_less (aCons (eTup (aCons (eC (.int 0)) (aCons (eC (.int 1)) (aNil)))) (aCons (eBin dIx (eVar 2) (eC (.int 1))) (aNil)))) (aCons (eBin dIx (eVar 2) (eC (.int 0))) (aNil)))) (aNil))))
noncomputable def q_law_is_line_so_4_1 : SF := sExpr (eAppend (eVar 6) (eCall f_law_moved (aCons (eVar 4) (aCons (eCall fTuple (aCons (eComp [8] (wTup (eVar 5)) (gSet 8) (tYes) (eCall f_law_times (aCons (eVar 8) (aCons (eVar 7) (aNil))))) (aNil))) (aNil)))))
noncomputable def q_law_is_line_so_4B : SF := q_law_is_line_so_4_1
noncomputable def q_law_is_line_so_4 : SF := sFor (wTup (eTup (aCons (eCall f_law_part (aCons (eVar 0) (aCons (eC (.int 3)) (aNil)))) (aCons (eCall f_law_part (aCons (eVar 0) (aCons (eC (.int 3)) (aNil)))) (aNil))))) (gSet 7) (q_law_is_line_so_4B)
noncomputable def q_law_is_line_so_5 : SF := sPar 8 9 (aCons (eBin dIx (eVar 6) (eC (.int 0))) (aCons (eIf (tOf (eBin dNe (eBin dIx (eVar 6) (eC (.int 1))) (eBin dIx (eVar 6) (eC (.int 0))))) (eBin dIx (eVar 6) (eC (.int 1))) (eCall f_law_moved (aCons (eVar 4) (aCons (eCall f_law_moved (aCons (eVar 5) (aCons (eVar 5) (aNil)))) (aNil))))) (aNil)))
noncomputable def q_law_is_line_so_6 : SF := sSet 8 (eIf (tOf (eBin dEq (eVar 8) (eVar 9))) (eVar 4) (eVar 8))
noncomputable def q_law_is_line_so_7 : SF := sSet 10 (eCall f_law_times (aCons (eVar 3) (aCons (eVar 3) (aNil))))
noncomputable def q_law_is_line_so_8 : SF := sIf (tOf (eBin dNe (eCall fRepr (aCons (eCall f_line_meets_circle (aCons (eVar 8) (aCons (eVar 9) (aCons (eVar 10) (aNil))))) (aNil))) (eCall fRepr (aCons (eTup (aCons (eVar 4) (aNil))) (aNil))))) (sRet (eC (.bl false))) (sNil)
noncomputable def q_law_is_line_so_9 : SF := sIf (DL.tAnd (DL.tNot (tTru (eCall f_law_is_below (aCons (eVar 10) (aCons (eVar 1) (aNil)))))) (tOf (eBin dNe (eCall fRepr (aCons (eCall f_line_meets_circle (aCons (eVar 8) (aCons (eVar 9) (aCons (eCall f_law_less (aCons (eVar 10) (aCons (eVar 1) (aNil)))) (aNil))))) (aNil))) (eC (.str "()"))))) (sRet (eC (.bl false))) (sNil)
noncomputable def q_law_is_line_so_10 : SF := sSet 11 (eCall f_line_meets_circle (aCons (eVar 8) (aCons (eVar 9) (aCons (eCall f_law_plus (aCons (eVar 10) (aCons (eVar 1) (aNil)))) (aNil)))))
noncomputable def q_law_is_line_so_11 : SF := sIf (DL.tOr (DL.tNot (tTru (eCall (fIsi sub0) (aCons (eVar 11) (aCons (eC (.ty "tuple")) (aNil)))))) (DL.tOr (tOf (eBin dNe (eCall fLen (aCons (eVar 11) (aNil))) (eC (.int 2)))) (DL.tNot (tTru (eCall fAll (aCons (eComp [15] (wTup (eVar 11)) (gSet 15) (tYes) (eBin dIsB (eCall f_is_far_point (aCons (eVar 15) (aNil))) (eC (.bl true)))) (aNil))))))) (sRet (eC (.bl false))) (sNil)
noncomputable def q_law_is_line_so_12 : SF := sIf (DL.tOr (DL.tNot (tTru (eCall fAll (aCons (eComp [15] (wTup (eVar 11)) (gSet 15) (tYes) (eCall f_law_is_at (aCons (eVar 15) (aCons (eCall f_law_plus (aCons (eVar 10) (aCons (eVar 1) (aNil)))) (aCons (eVar 4) (aCons (eVar 1) (aNil))))))) (aNil))))) (tOf (eBin dEq (eBin dIx (eVar 11) (eC (.int 0))) (eBin dIx (eVar 11) (eC (.int 1)))))) (sRet (eC (.bl false))) (sNil)
noncomputable def q_law_is_line_so_13 : SF := sSet 12 (eCall f_law_beside (aCons (eVar 8) (aCons (eVar 9) (aNil))))
noncomputable def q_law_is_line_so_14 : SF := sSet 13 (eComp [14] (fRange1 (aCons (eC (.int 2)) aNil)) (gSet 14) (tYes) (eCall f_law_sum (aCons (eCall f_law_el (aCons (eBin dIx (eBin dIx (eVar 11) (eC (.int 0))) (eVar 14)) (aNil))) (aCons (eTup (aCons (eUn dNeg (eBin dIx (eBin dIx (eVar 4) (eVar 14)) (eC (.int 0)))) (aCons (eC (.int 0)) (aCons (eBin dIx (eBin dIx (eVar 4) (eVar 14)) (eC (.int 1))) (aCons (eC (.int 0)) (aNil)))))) (aNil)))))
noncomputable def q_law_is_line_so_15 : SF := sRet (eBin dGt (eCall f_law_dot_el (aCons (eTup (aCons (eBin dIx (eVar 13) (eC (.int 0))) (aCons (eBin dIx (eVar 13) (eC (.int 1))) (aNil)))) (aCons (eCall f_law_vector (aCons (eVar 12) (aNil))) (aNil)))) (eC (.int 0)))
noncomputable def m_law_is_line_so : SF := sSeq (q_law_is_line_so_1) (sSeq (q_law_is_line_so_2) (sSeq (sSet 6 (eNew (aNil))) (sSeq (q_law_is_line_so_4) (sSeq (q_law_is_line_so_5) (sSeq (q_law_is_line_so_6) (sSeq (q_law_is_line_so_7) (sSeq (q_law_is_line_so_8) (sSeq (q_law_is_line_so_9) (sSeq (q_law_is_line_so_10) (sSeq (q_law_is_line_so_11) (sSeq (q_law_is_line_so_12) (sSeq (q_law_is_line_so_13) (sSeq (q_law_is_line_so_14) (q_law_is_line_so_15))))))))))))))
noncomputable def f_law_is_line_so : FN := drop (mkFn 2 16 m_law_is_line_so)
noncomputable def q_law_are_circles_so_1 : SF := sAsg (gTupD (gsCons (gSet 2) (gsCons (gSet 3) (gsCons (gSet 4) (gsNil))))) (eTup (aCons (eCall f_law_small_turn (aCons (eVar 0) (aNil))) (aCons (eCall f_law_length (aCons (eVar 0) (aCons (eC (.int 3)) (aNil)))) (aCons (eCall f_law_length (aCons (eVar 0) (aCons (eC (.int 3)) (aNil)))) (aNil)))))
noncomputable def q_law_are_circles_so_2_1 : SF := sIf (tOf (eBin dEq (eBin dIx (eVar 5) (eC (.int 0))) (eC (.int 0)))) (sCont) (sNil)
noncomputable def q_law_are_circles_so_2_2 : SF := sSet 6 (eCall fTuple (aCons (eComp [15] (wTup (eVar 2)) (gSet 15) (tYes) (eCall f_law_times (aCons (eVar 15) (aCons (eVar 5) (aNil))))) (aNil)))
noncomputable def q_law_are_circles_so_2_3 : SF := sSet 7 (eCall fTuple (aCons (eComp [15] (wTup (eVar 2)) (gSet 15) (tYes) (eCall f_law_times (aCons (eVar 15) (aCons (eVar 3) (aNil))))) (aNil)))
noncomputable def q_law_are_circles_so_2_4 : SF := sAsg (gTupD (gsCons (gSet 8) (gsCons (gSet 9) (gsNil)))) (eTup (aCons (eCall f_law_times (aCons (eVar 3) (aCons (eVar 3) (aNil)))) (aCons (eCall f_law_times (aCons (eVar 4) (aCons (eVar 4) (aNil)))) (aNil))))
noncomputable def q_law_are_circles_so_2_5 : SF := sIf (DL.tOr (tOf (eBin dNe (eCall fRepr (aCons (eCall f_circles_meet (aCons (eVar 8) (aCons (eVar 6) (aCons (eVar 9) (aNil))))) (aNil))) (eCall fRepr (aCons (eTup (aCons (eVar 7) (aNil))) (aNil))))) (tOf (eBin dNe (eCall f_square_between (aCons (eVar 7) (aCons (eVar 6) (aNil)))) (eVar 9)))) (sRet (eC (.bl false))) (sNil)
noncomputable def q_law_are_circles_so_2_6 : SF := sSet 10 (eIf (tOf (eBin dGt (eBin dIx (eVar 5) (eC (.int 0))) (eC (.int 0)))) (eC (.int 2)) (eC (.int 0)))
noncomputable def q_law_are_circles_so_2_7_1 : SF := sSet 13 (eCall f_circles_meet (aCons (eVar 8) (aCons (eVar 6) (aCons (eVar 11) (aNil)))))
noncomputable def q_law_are_circles_so_2_7_2 : SF := sIf (DL.tOr (DL.tNot (tTru (eCall (fIsi sub0) (aCons (eVar 13) (aCons (eC (.ty "tuple")) (aNil)))))) (tOf (eBin dNe (eCall fLen (aCons (eVar 13) (aNil))) (eVar 12)))) (sRet (eC (.bl false))) (sNil)
noncomputable def q_law_are_circles_so_2_7_3 : SF := sIf (DL.tAnd (tOf (eBin dEq (eVar 12) (eC (.int 2)))) (DL.tNot (tTru (eCall fAll (aCons (eComp [16] (wTup (eVar 13)) (gSet 16) (tYes) (eCall f_law_is_at (aCons (eVar 16) (aCons (eVar 8) (aCons (eVar 6) (aCons (eVar 11) (aNil))))))) (aNil)))))) (sRet (eC (.bl false))) (sNil)
noncomputable def q_law_are_circles_so_2_7_4a_1 : SF := sSet 14 (eCall fTuple (aCons (eComp [15] (wTup (eBin dIx (eVar 13) (eC (.int 0)))) (gSet 15) (tYes) (eCall f_law_el (aCons (eVar 15) (aNil)))) (aNil)))
noncomputable def q_law_are_circles_so_2_7_4a_2 : SF := sIf (tOf (eBin dNe (eCall f_law_cross_el (aCons (eCall f_law_vector (aCons (eVar 6) (aNil))) (aCons (eVar 14) (aNil)))) (eC (.int 1)))) (sRet (eC (.bl false))) (sNil)
noncomputable def q_law_are_circles_so_2_7_4 : SF := sIf (tOf (eBin dEq (eVar 12) (eC (.int 2)))) (sSeq (q_law_are_circles_so_2_7_4a_1) (q_law_are_circles_so_2_7_4a_2)) (sNil)
noncomputable def q_law_are_circles_so_2_7B : SF := sSeq (q_law_are_circles_so_2_7_1) (sSeq (q_law_are_circles_so_2_7_2) (sSeq (q_law_are_circles_so_2_7_3) (q_law_are_circles_so_2_7_4)))
noncomputable def q_law_are_circles_so_2_7 : SF := sFor (wTup (eTup (aCons (eTup (aCons (eCall f_law_plus (aCons (eVar 9) (aCons (eVar 1) (aNil)))) (aCons (eVar 10) (aNil)))) (aCons (eTup (aCons (eCall f_law_less (aCons (eVar 9) (aCons (eVar 1) (aNil)))) (aCons (eBin dSub (eC (.int 2)) (eVar 10)) (aNil)))) (aNil))))) (gTupD (gsCons (gSet 11) (gsCons (gSet 12) (gsNil)))) (q_law_are_circles_so_2_7B)
noncomputable def q_law_are_circles_so_2B : SF := sSeq (q_law_are_circles_so_2_1) (sSeq (q_law_are_circles_so_2_2) (sSeq (q_law_are_circles_so_2_3) (sSeq (q_law_are_circles_so_2_4) (sSeq (q_law_are_circles_so_2_5) (sSeq (q_law_are_circles_so_2_6) (q_law_are_circles_so_2_7))))))
noncomputable def q_law_are_circles_so_2 : SF := sFor (wTup (eTup (aCons (eCall f_law_plus (aCons (eVar 3) (aCons (eVar 4) (aNil)))) (aCons (eCall f_law_less (aCons (eVar 3) (aCons (eVar 4) (aNil)))) (aNil))))) (gSet 5) (q_law_are_circles_so_2B)
noncomputable def m_law_are_circles_so : SF := sSeq (q_law_are_circles_so_1) (sSeq (q_law_are_circles_so_2) (sRet (eC (.bl true))))
noncomputable def f_law_are_circles_so : FN := mkFn 2 17 m_law_are_circles_so
noncomputable def q_law_are_stretches_so_1 : SF := sAsg (gTupD (gsCons (gSet 2) (gsCons (gSet 3) (gsCons (gSet 4) (gsNil))))) (eTup (aCons (eCall f_law_point (aCons (eVar 0) (aCons (eC (.int 3)) (aNil)))) (aCons (eCall f_law_point (aCons (eVar 0) (aCons (eC (.int 3)) (aNil)))) (aCons (eCall f_law_point (aCons (eVar 0) (aCons (eC (.int 3)) (aNil)))) (aNil)))))
noncomputable def q_law_are_stretches_so_2 : SF := sIf (tOf (eBin dEq (eCall f_side_of (aCons (eVar 2) (aCons (eVar 3) (aCons (eVar 4) (aNil))))) (eC (.int 0)))) (sRet (eC (.bl true))) (sNil)
noncomputable def q_law_are_stretches_so_3 : SF := sSet 5 (eCall fTuple (aCons (eComp [8] (fRange1 (aCons (eC (.int 2)) aNil)) (gSet 8) (tYes) (eCall f_law_rate (aCons (eBin dAdd (eBin dMul (eBin dIx (eBin dIx (eVar 2) (eVar 8)) (eC (.int 0))) (eBin dIx (eBin dIx (eVar 3) (eVar 8)) (eC (.int 1)))) (eBin dMul (eBin dIx (eBin dIx (eVar 3) (eVar 8)) (eC (.int 0))) (eBin dIx (eBin dIx (eVar 2) (eVar 8)) (eC (.int 1))))) (aCons (eBin dMul (eBin dMul (eC (.int 2)) (eBin dIx (eBin dIx (eVar 2) (eVar 8)) (eC (.int 1)))) (eBin dIx (eBin dIx (eVar 3) (eVar 8)) (eC (.int 1)))) (aNil))))) (aNil)))
noncomputable def q_law_are_stretches_so_4 : SF := sSet 6 (eCall fTuple (aCons (eComp [8] (fRange1 (aCons (eC (.int 2)) aNil)) (gSet 8) (tYes) (eCall f_law_plus (aCons (eBin dIx (eVar 5) (eVar 8)) (aCons (eCall f_law_times (aCons (eCall f_law_less (aCons (eBin dIx (eVar 4) (eVar 8)) (aCons (eBin dIx (eVar 5) (eVar 8)) (aNil)))) (aCons (eVar 1) (aNil)))) (aNil))))) (aNil)))
noncomputable def q_law_are_stretches_so_5 : SF := sIf (DL.tOr (tOf (eBin dNotB (eCall f_is_on (aCons (eVar 2) (aCons (eVar 3) (aCons (eVar 5) (aNil))))) (eC (.bl true)))) (tOf (eBin dNotB (eCall f_is_on (aCons (eVar 2) (aCons (eVar 3) (aCons (eVar 6) (aNil))))) (eC (.bl false))))) (sRet (eC (.bl false))) (sNil)
noncomputable def q_law_are_stretches_so_6 : SF := sIf (DL.tOr (tOf (eBin dNotB (eCall f_do_meet (aCons (eVar 2) (aCons (eVar 3) (aCons (eVar 4) (aCons (eVar 5) (aNil)))))) (eC (.bl true)))) (tOf (eBin dNotB (eCall f_do_meet (aCons (eVar 4) (aCons (eVar 6) (aCons (eVar 3) (aCons (eVar 2) (aNil)))))) (eC (.bl false))))) (sRet (eC (.bl false))) (sNil)
noncomputable def q_law_are_stretches_so_7 : SF := sSet 7 (eCall f_side_of (aCons (eVar 2) (aCons (eVar 3) (aCons (eVar 4) (aNil)))))
noncomputable def q_law_are_stretches_so_8 : SF := sRet (eAnd (eBin dEq (eCall f_side_of (aCons (eVar 2) (aCons (eVar 3) (aCons (eVar 6) (aNil))))) (eVar 7)) (eBin dEq (eCall f_side_of (aCons (eVar 3) (aCons (eVar 2) (aCons (eVar 6) (aNil))))) (eUn dNeg (eVar 7))))
noncomputable def m_law_are_stretches_so : SF := sSeq (q_law_are_stretches_so_1) (sSeq (q_law_are_stretches_so_2) (sSeq (q_law_are_stretches_so_3) (sSeq (q_law_are_stretches_so_4) (sSeq (q_law_are_stretches_so_5) (sSeq (q_law_are_stretches_so_6) (sSeq (q_law_are_stretches_so_7) (q_law_are_stretches_so_8)))))))
noncomputable def f_law_are_stretches_so : FN := mkFn 2 9 m_law_are_stretches_so
noncomputable def q_law_right_1_1 : SF := sSet 2 (eTup (aCons (eC (.int 1)) (aCons (eBin dAdd (eC (.int 50)) (eCall fInt (aCons (eCall f_law_take (aCons (eVar 0) (aCons (eC (.int 951)) (aNil)))) (aNil)))) (aNil))))
noncomputable def q_law_right_1_2 : SF := sIf (DL.tOr (DL.tNot (tTru (eCall f_law_is_line_so (aCons (eVar 0) (aCons (eVar 2) (aNil)))))) (DL.tNot (tTru (eCall f_law_are_circles_so (aCons (eVar 0) (aCons (eVar 2) (aNil))))))) (sRet (eC (.bl false))) (sNil)
noncomputable def q_law_right_1_3 : SF := sIf (DL.tNot (tTru (eCall f_law_are_stretches_so (aCons (eVar 0) (aCons (eVar 2) (aNil)))))) (sRet (eC (.bl false))) (sNil)
noncomputable def q_law_right_1B : SF := sSeq (q_law_right_1_1) (sSeq (q_law_right_1_2) (q_law_right_1_3))
noncomputable def q_law_right_1 : SF := sFor (fRange1 (aCons (eC (.int 4)) aNil)) (gSet 1) (q_law_right_1B)
noncomputable def m_law_right : SF := sSeq (q_law_right_1) (sRet (eC (.bl true)))
noncomputable def f_law_right : FN := mkFn 1 3 m_law_right
noncomputable def m_law : SF := sRet (eCall fAll (aCons (eComp [1] (wLst (eCall f_law_cells (aCons (eVar 0) (aCons (eC (.int 3)) (aNil))))) (gSet 1) (tYes) (eCall f_law_right (aCons (eCall f_law_pot (aCons (eVar 0) (aCons (eVar 1) (aNil)))) (aNil)))) (aNil)))
noncomputable def f_law : FN := mkFn 1 2 m_law
end K20


set_option linter.all false
set_option autoImplicit false
set_option Elab.async false
set_option maxRecDepth 100000
set_option maxHeartbeats 4000000
/-! the walk of elbowsexactly_k20_whole_circles_and_line, printed by gen.py -/
namespace K20
open PySem PySem.Spec L2 DL
open PyProof.Rows hiding St b2i
def top (i : Nat) : Stmt := PySem.Challenge.pw_elbowsexactly_k20_whole_circles_and_line.main.body.getD i (.Pass ⟨0, 0, 0, 0⟩)
/-- what the module's names hold -/
structure Gl0 (P : Program) (K : PySem.W.Frag) (mg : Str → Option Value) : Prop where
  b_abs : mg "abs" = none
  b_all : mg "all" = none
  b_any : mg "any" = none
  b_bool : mg "bool" = none
  b_int : mg "int" = none
  b_isinstance : mg "isinstance" = none
  b_len : mg "len" = none
  b_list : mg "list" = none
  b_max : mg "max" = none
  b_min : mg "min" = none
  b_range : mg "range" = none
  b_repr : mg "repr" = none
  b_sum : mg "sum" = none
  b_tuple : mg "tuple" = none
  c_MOST : Cst K mg "MOST" k_MOST
  c_NOWHERE : Cst K mg "NOWHERE" k_NOWHERE
  c_ZERO : Cst K mg "ZERO" k_ZERO
  ex_BadFraction : ExcAt P K mg "BadFraction"
  ex_BadPoint : ExcAt P K mg "BadPoint"
  ex_Unlike : ExcAt P K mg "Unlike"
  ex : SubAt P K mg sub0
section
variable {P : Program} {w : World} {K : PySem.W.Frag} {mg : Str → Option Value} {base : Heap} {T : List (Addr × Str)}
abbrev s_is_whole : Stmt := top 6
theorem sc_is_whole : FnScope ["value"] ["value"] (defScope s_is_whole) := ⟨rfl, rfl, rfl, by decide +kernel, rfl, by decide +kernel, by decide +kernel⟩
theorem d_is_whole (G : Gl0 P K mg) (D : DefIn K mg "is_whole" s_is_whole) : Callee P w K mg base T false 1 "is_whole" ["value"] f_is_whole :=
  callee_of (gd := false) (k := 0) D sc_is_whole rfl rfl (fun _ _ _ _ _ _ us hl => match us, hl with | [_], _ => rfl) fun f cdv A outer s H E hg hr => pxs_one (px_ret (px_and (pb_isinstance G.ex G.b_isinstance (pxa_cons (px_var 0) (pxa_cons (px_ty G.b_int (by decide +kernel)) (pxa_nil)))) (px_one (px_not (pb_isinstance G.ex G.b_isinstance (pxa_cons (px_var 0) (pxa_cons (px_ty G.b_bool (by decide +kernel)) (pxa_nil))))))))
abbrev s_whole_root : Stmt := top 7
theorem sc_whole_root : FnScope ["number", "here", "nearer"] ["number"] (defScope s_whole_root) := ⟨rfl, rfl, rfl, by decide +kernel, rfl, by decide +kernel, by decide +kernel⟩
theorem d_whole_root (G : Gl0 P K mg) (D : DefIn K mg "whole_root" s_whole_root) : Callee P w K mg base T false 1 "whole_root" ["number"] f_whole_root :=
  callee_of (gd := false) (k := 0) D sc_whole_root rfl rfl (fun _ _ _ _ _ _ us hl => match us, hl with | [_], _ => rfl) fun f cdv A outer s H E hg hr => pxs_cons (px_if (pxt_lt (px_var 0) (px_int)) (pxs_one (px_ret (px_var 0))) (pxs_nil)) (pxs_cons (px_set 1 sc_whole_root.nd (px_shl (px_int) (px_div (px_add (px_bits (px_var 0)) (px_int)) (px_int)))) (pxs_one (px_while (passes_of rfl) (pxt_truth (px_bl)) (pxs_cons (px_set 2 sc_whole_root.nd (px_div (px_add (px_var 1) (px_div (px_var 0) (px_var 1))) (px_int))) (pxs_cons (px_if (pxt_ge (px_var 2) (px_var 1)) (pxs_one (px_ret (px_var 1))) (pxs_nil)) (pxs_one (px_set 1 sc_whole_root.nd (px_var 2))))))))
abbrev s_common : Stmt := top 11
theorem sc_common : FnScope ["one", "other"] ["one", "other"] (defScope s_common) := ⟨rfl, rfl, rfl, by decide +kernel, rfl, by decide +kernel, by decide +kernel⟩
theorem d_common (G : Gl0 P K mg) (D : DefIn K mg "common" s_common) : Callee P w K mg base T false 1 "common" ["one", "other"] f_common :=
  callee_of (gd := false) (k := 0) D sc_common rfl rfl (fun _ _ _ _ _ _ us hl => match us, hl with | [_, _], _ => rfl) fun f cdv A outer s H E hg hr => pxs_cons (px_par 0 1 rfl sc_common.nd (by decide) (pxa_cons (pb_abs G.b_abs (pxa_cons (px_var 0) (pxa_nil))) (pxa_cons (pb_abs G.b_abs (pxa_cons (px_var 1) (pxa_nil))) (pxa_nil)))) (pxs_cons (px_while (passes_of rfl) (pxt_ne hr (px_var 1) (px_int)) (pxs_one (px_par 0 1 rfl sc_common.nd (by decide) (pxa_cons (px_var 1) (pxa_cons (px_mod (px_var 0) (px_var 1)) (pxa_nil)))))) (pxs_one (px_ret (px_var 0))))
abbrev s_rate : Stmt := top 12
theorem sc_rate : FnScope ["top", "bottom", "part"] ["top", "bottom"] (defScope s_rate) := ⟨rfl, rfl, rfl, by decide +kernel, rfl, by decide +kernel, by decide +kernel⟩
theorem d_rate (G : Gl0 P K mg) (D : DefIn K mg "rate" s_rate) (c_common : Callee P w K mg base T false 1 "common" ["one", "other"] f_common) : Callee P w K mg base T false 2 "rate" ["top", "bottom"] f_rate :=
  callee_of (gd := false) (k := 1) D sc_rate rfl rfl (fun _ _ _ _ _ _ us hl => match us, hl with | [_, _], _ => rfl) fun f cdv A outer s H E hg hr => pxs_cons (px_set 2 sc_rate.nd (px_fn c_common hr (by decide) (fun z => nomatch z) (pxa_cons (px_var 0) (pxa_cons (px_var 1) (pxa_nil))))) (pxs_cons (px_if (pxt_lt (px_var 1) (px_int)) (pxs_one (px_set 2 sc_rate.nd (px_neg (px_var 2)))) (pxs_nil)) (pxs_one (px_ret (px_tup (pxa_cons (px_div (px_var 0) (px_var 2)) (pxa_cons (px_div (px_var 1) (px_var 2)) (pxa_nil)))))))
abbrev s_is_lowest : Stmt := top 13
theorem sc_is_lowest : FnScope ["value"] ["value"] (defScope s_is_lowest) := ⟨rfl, rfl, rfl, by decide +kernel, rfl, by decide +kernel, by decide +kernel⟩
theorem d_is_lowest (G : Gl0 P K mg) (D : DefIn K mg "is_lowest" s_is_lowest) (c_is_whole : Callee P w K mg base T false 1 "is_whole" ["value"] f_is_whole) (c_common : Callee P w K mg base T false 1 "common" ["one", "other"] f_common) : Callee P w K mg base T false 2 "is_lowest" ["value"] f_is_lowest :=
  callee_of (gd := false) (k := 1) D sc_is_lowest rfl rfl (fun _ _ _ _ _ _ us hl => match us, hl with | [_], _ => rfl) fun f cdv A outer s H E hg hr => pxs_cons (px_if (PXW.t (pxw_or (pxt_not (pxt_truth (pb_isinstance G.ex G.b_isinstance (pxa_cons (px_var 0) (pxa_cons (px_ty G.b_tuple (by decide +kernel)) (pxa_nil)))))) (pxw_or (pxt_ne hr (pb_len G.b_len (pxa_cons (px_var 0) (pxa_nil))) (px_int)) (pxw_or (pxt_not (pxt_truth (px_fn c_is_whole hr (by decide) (fun z => nomatch z) (pxa_cons (px_ix (px_var 0) (px_int)) (pxa_nil))))) (pxw_or1 (pxt_not (pxt_truth (px_fn c_is_whole hr (by decide) (fun z => nomatch z) (pxa_cons (px_ix (px_var 0) (px_int)) (pxa_nil)))))))))) (pxs_one (px_ret (px_bl))) (pxs_nil)) (pxs_one (px_ret (px_and (px_gt (px_ix (px_var 0) (px_int)) (px_int)) (px_one (px_eq hr (px_fn c_common hr (by decide) (fun z => nomatch z) (pxa_cons (px_ix (px_var 0) (px_int)) (pxa_cons (px_ix (px_var 0) (px_int)) (pxa_nil)))) (px_int))))))
abbrev s_is_fraction : Stmt := top 14
theorem sc_is_fraction : FnScope ["value"] ["value"] (defScope s_is_fraction) := ⟨rfl, rfl, rfl, by decide +kernel, rfl, by decide +kernel, by decide +kernel⟩
theorem d_is_fraction (G : Gl0 P K mg) (D : DefIn K mg "is_fraction" s_is_fraction) (c_is_lowest : Callee P w K mg base T false 2 "is_lowest" ["value"] f_is_lowest) : Callee P w K mg base T false 3 "is_fraction" ["value"] f_is_fraction :=
  callee_of (gd := false) (k := 2) D sc_is_fraction rfl rfl (fun _ _ _ _ _ _ us hl => match us, hl with | [_], _ => rfl) fun f cdv A outer s H E hg hr => pxs_one (px_ret (px_and (px_fn c_is_lowest hr (by decide) (fun z => nomatch z) (pxa_cons (px_var 0) (pxa_nil))) (px_and (px_chain op_le op_le (ok_iCmp _) (ok_iCmp _) (px_neg (px_cst G.c_MOST)) (px_ix (px_var 0) (px_int)) (px_cst G.c_MOST)) (px_one (px_le (px_ix (px_var 0) (px_int)) (px_cst G.c_MOST))))))
abbrev s_plus : Stmt := top 15
theorem sc_plus : FnScope ["one", "other"] ["one", "other"] (defScope s_plus) := ⟨rfl, rfl, rfl, by decide +kernel, rfl, by decide +kernel, by decide +kernel⟩
theorem d_plus (G : Gl0 P K mg) (D : DefIn K mg "plus" s_plus) (c_rate : Callee P w K mg base T false 2 "rate" ["top", "bottom"] f_rate) : Callee P w K mg base T false 3 "plus" ["one", "other"] f_plus :=
  callee_of (gd := false) (k := 2) D sc_plus rfl rfl (fun _ _ _ _ _ _ us hl => match us, hl with | [_, _], _ => rfl) fun f cdv A outer s H E hg hr => pxs_one (px_ret (px_fn c_rate hr (by decide) (fun z => nomatch z) (pxa_cons (px_add (px_mul (px_ix (px_var 0) (px_int)) (px_ix (px_var 1) (px_int))) (px_mul (px_ix (px_var 1) (px_int)) (px_ix (px_var 0) (px_int)))) (pxa_cons (px_mul (px_ix (px_var 0) (px_int)) (px_ix (px_var 1) (px_int))) (pxa_nil)))))
abbrev s_less : Stmt := top 16
theorem sc_less : FnScope ["one", "other"] ["one", "other"] (defScope s_less) := ⟨rfl, rfl, rfl, by decide +kernel, rfl, by decide +kernel, by decide +kernel⟩
theorem d_less (G : Gl0 P K mg) (D : DefIn K mg "less" s_less) (c_rate : Callee P w K mg base T false 2 "rate" ["top", "bottom"] f_rate) : Callee P w K mg base T false 3 "less" ["one", "other"] f_less :=
  callee_of (gd := false) (k := 2) D sc_less rfl rfl (fun _ _ _ _ _ _ us hl => match us, hl with | [_, _], _ => rfl) fun f cdv A outer s H E hg hr => pxs_one (px_ret (px_fn c_rate hr (by decide) (fun z => nomatch z) (pxa_cons (px_sub (px_mul (px_ix (px_var 0) (px_int)) (px_ix (px_var 1) (px_int))) (px_mul (px_ix (px_var 1) (px_int)) (px_ix (px_var 0) (px_int)))) (pxa_cons (px_mul (px_ix (px_var 0) (px_int)) (px_ix (px_var 1) (px_int))) (pxa_nil)))))
abbrev s_times : Stmt := top 17
theorem sc_times : FnScope ["one", "other"] ["one", "other"] (defScope s_times) := ⟨rfl, rfl, rfl, by decide +kernel, rfl, by decide +kernel, by decide +kernel⟩
theorem d_times (G : Gl0 P K mg) (D : DefIn K mg "times" s_times) (c_rate : Callee P w K mg base T false 2 "rate" ["top", "bottom"] f_rate) : Callee P w K mg base T false 3 "times" ["one", "other"] f_times :=
  callee_of (gd := false) (k := 2) D sc_times rfl rfl (fun _ _ _ _ _ _ us hl => match us, hl with | [_, _], _ => rfl) fun f cdv A outer s H E hg hr => pxs_one (px_ret (px_fn c_rate hr (by decide) (fun z => nomatch z) (pxa_cons (px_mul (px_ix (px_var 0) (px_int)) (px_ix (px_var 1) (px_int))) (pxa_cons (px_mul (px_ix (px_var 0) (px_int)) (px_ix (px_var 1) (px_int))) (pxa_nil)))))
abbrev s_over : Stmt := top 18
theorem sc_over : FnScope ["one", "other"] ["one", "other"] (defScope s_over) := ⟨rfl, rfl, rfl, by decide +kernel, rfl, by decide +kernel, by decide +kernel⟩
theorem d_over (G : Gl0 P K mg) (D : DefIn K mg "over" s_over) (c_rate : Callee P w K mg base T false 2 "rate" ["top", "bottom"] f_rate) : Callee P w K mg base T false 3 "over" ["one", "other"] f_over :=
  callee_of (gd := false) (k := 2) D sc_over rfl rfl (fun _ _ _ _ _ _ us hl => match us, hl with | [_, _], _ => rfl) fun f cdv A outer s H E hg hr => pxs_one (px_ret (px_fn c_rate hr (by decide) (fun z => nomatch z) (pxa_cons (px_mul (px_ix (px_var 0) (px_int)) (px_ix (px_var 1) (px_int))) (pxa_cons (px_mul (px_ix (px_var 0) (px_int)) (px_ix (px_var 1) (px_int))) (pxa_nil)))))
abbrev s_turned_sign : Stmt := top 19
theorem sc_turned_sign : FnScope ["one"] ["one"] (defScope s_turned_sign) := ⟨rfl, rfl, rfl, by decide +kernel, rfl, by decide +kernel, by decide +kernel⟩
theorem d_turned_sign (G : Gl0 P K mg) (D : DefIn K mg "turned_sign" s_turned_sign) : Callee P w K mg base T false 1 "turned_sign" ["one"] f_turned_sign :=
  callee_of (gd := false) (k := 0) D sc_turned_sign rfl rfl (fun _ _ _ _ _ _ us hl => match us, hl with | [_], _ => rfl) fun f cdv A outer s H E hg hr => pxs_one (px_ret (px_tup (pxa_cons (px_neg (px_ix (px_var 0) (px_int))) (pxa_cons (px_ix (px_var 0) (px_int)) (pxa_nil)))))
abbrev s_squared : Stmt := top 20
theorem sc_squared : FnScope ["one"] ["one"] (defScope s_squared) := ⟨rfl, rfl, rfl, by decide +kernel, rfl, by decide +kernel, by decide +kernel⟩
theorem d_squared (G : Gl0 P K mg) (D : DefIn K mg "squared" s_squared) : Callee P w K mg base T false 1 "squared" ["one"] f_squared :=
  callee_of (gd := false) (k := 0) D sc_squared rfl rfl (fun _ _ _ _ _ _ us hl => match us, hl with | [_], _ => rfl) fun f cdv A outer s H E hg hr => pxs_one (px_ret (px_tup (pxa_cons (px_mul (px_ix (px_var 0) (px_int)) (px_ix (px_var 0) (px_int))) (pxa_cons (px_mul (px_ix (px_var 0) (px_int)) (px_ix (px_var 0) (px_int))) (pxa_nil)))))
abbrev s_sign_of : Stmt := top 21
theorem sc_sign_of : FnScope ["one"] ["one"] (defScope s_sign_of) := ⟨rfl, rfl, rfl, by decide +kernel, rfl, by decide +kernel, by decide +kernel⟩
theorem d_sign_of (G : Gl0 P K mg) (D : DefIn K mg "sign_of" s_sign_of) : Callee P w K mg base T false 1 "sign_of" ["one"] f_sign_of :=
  callee_of (gd := false) (k := 0) D sc_sign_of rfl rfl (fun _ _ _ _ _ _ us hl => match us, hl with | [_], _ => rfl) fun f cdv A outer s H E hg hr => pxs_one (px_ret (px_subB (px_gt (px_ix (px_var 0) (px_int)) (px_int)) (px_lt (px_ix (px_var 0) (px_int)) (px_int))))
abbrev s_plain : Stmt := top 23
theorem sc_plain : FnScope ["one"] ["one"] (defScope s_plain) := ⟨rfl, rfl, rfl, by decide +kernel, rfl, by decide +kernel, by decide +kernel⟩
theorem d_plain (G : Gl0 P K mg) (D : DefIn K mg "plain" s_plain) : Callee P w K mg base T false 1 "plain" ["one"] f_plain :=
  callee_of (gd := false) (k := 0) D sc_plain rfl rfl (fun _ _ _ _ _ _ us hl => match us, hl with | [_], _ => rfl) fun f cdv A outer s H E hg hr => pxs_one (px_ret (px_tup (pxa_cons (px_var 0) (pxa_cons (px_cst G.c_ZERO) (pxa_cons (px_int) (pxa_nil))))))
abbrev s_made : Stmt := top 24
theorem sc_made : FnScope ["first", "second", "root"] ["first", "second", "root"] (defScope s_made) := ⟨rfl, rfl, rfl, by decide +kernel, rfl, by decide +kernel, by decide +kernel⟩
theorem d_made (G : Gl0 P K mg) (D : DefIn K mg "made" s_made) : Callee P w K mg base T false 1 "made" ["first", "second", "root"] f_made :=
  callee_of (gd := false) (k := 0) D sc_made rfl rfl (fun _ _ _ _ _ _ us hl => match us, hl with | [_, _, _], _ => rfl) fun f cdv A outer s H E hg hr => pxs_one (px_ret (px_ifExp (pxt_ne hr (px_ix (px_var 1) (px_int)) (px_int)) (px_tup (pxa_cons (px_var 0) (pxa_cons (px_var 1) (pxa_cons (px_var 2) (pxa_nil))))) (px_tup (pxa_cons (px_var 0) (pxa_cons (px_cst G.c_ZERO) (pxa_cons (px_int) (pxa_nil)))))))
abbrev s_field_of : Stmt := top 25
theorem sc_field_of : FnScope ["one", "other"] ["one", "other"] (defScope s_field_of) := ⟨rfl, rfl, rfl, by decide +kernel, rfl, by decide +kernel, by decide +kernel⟩
theorem d_field_of (G : Gl0 P K mg) (D : DefIn K mg "field_of" s_field_of) : Callee P w K mg base T false 1 "field_of" ["one", "other"] f_field_of :=
  callee_of (gd := false) (k := 0) D sc_field_of rfl rfl (fun _ _ _ _ _ _ us hl => match us, hl with | [_, _], _ => rfl) fun f cdv A outer s H E hg hr => pxs_one (px_ret (px_ifExp (pxt_ne hr (px_ix (px_var 0) (px_int)) (px_int)) (px_ix (px_var 0) (px_int)) (px_ix (px_var 1) (px_int))))
abbrev s_added : Stmt := top 26
theorem sc_added : FnScope ["one", "other"] ["one", "other"] (defScope s_added) := ⟨rfl, rfl, rfl, by decide +kernel, rfl, by decide +kernel, by decide +kernel⟩
theorem d_added (G : Gl0 P K mg) (D : DefIn K mg "added" s_added) (c_field_of : Callee P w K mg base T false 1 "field_of" ["one", "other"] f_field_of) (c_plus : Callee P w K mg base T false 3 "plus" ["one", "other"] f_plus) (c_made : Callee P w K mg base T false 1 "made" ["first", "second", "root"] f_made) : Callee P w K mg base T false 4 "added" ["one", "other"] f_added :=
  callee_of (gd := false) (k := 3) D sc_added rfl rfl (fun _ _ _ _ _ _ us hl => match us, hl with | [_, _], _ => rfl) fun f cdv A outer s H E hg hr => pxs_one (px_ret (px_fn c_made hr (by decide) (fun z => nomatch z) (pxa_cons (px_fn c_plus hr (by decide) (fun z => nomatch z) (pxa_cons (px_ix (px_var 0) (px_int)) (pxa_cons (px_ix (px_var 1) (px_int)) (pxa_nil)))) (pxa_cons (px_fn c_plus hr (by decide) (fun z => nomatch z) (pxa_cons (px_ix (px_var 0) (px_int)) (pxa_cons (px_ix (px_var 1) (px_int)) (pxa_nil)))) (pxa_cons (px_fn c_field_of hr (by decide) (fun z => nomatch z) (pxa_cons (px_var 0) (pxa_cons (px_var 1) (pxa_nil)))) (pxa_nil))))))
abbrev s_lessened : Stmt := top 27
theorem sc_lessened : FnScope ["one", "other"] ["one", "other"] (defScope s_lessened) := ⟨rfl, rfl, rfl, by decide +kernel, rfl, by decide +kernel, by decide +kernel⟩
theorem d_lessened (G : Gl0 P K mg) (D : DefIn K mg "lessened" s_lessened) (c_field_of : Callee P w K mg base T false 1 "field_of" ["one", "other"] f_field_of) (c_less : Callee P w K mg base T false 3 "less" ["one", "other"] f_less) (c_made : Callee P w K mg base T false 1 "made" ["first", "second", "root"] f_made) : Callee P w K mg base T false 4 "lessened" ["one", "other"] f_lessened :=
  callee_of (gd := false) (k := 3) D sc_lessened rfl rfl (fun _ _ _ _ _ _ us hl => match us, hl with | [_, _], _ => rfl) fun f cdv A outer s H E hg hr => pxs_one (px_ret (px_fn c_made hr (by decide) (fun z => nomatch z) (pxa_cons (px_fn c_less hr (by decide) (fun z => nomatch z) (pxa_cons (px_ix (px_var 0) (px_int)) (pxa_cons (px_ix (px_var 1) (px_int)) (pxa_nil)))) (pxa_cons (px_fn c_less hr (by decide) (fun z => nomatch z) (pxa_cons (px_ix (px_var 0) (px_int)) (pxa_cons (px_ix (px_var 1) (px_int)) (pxa_nil)))) (pxa_cons (px_fn c_field_of hr (by decide) (fun z => nomatch z) (pxa_cons (px_var 0) (pxa_cons (px_var 1) (pxa_nil)))) (pxa_nil))))))
abbrev s_scaled : Stmt := top 28
theorem sc_scaled : FnScope ["one", "part"] ["one", "part"] (defScope s_scaled) := ⟨rfl, rfl, rfl, by decide +kernel, rfl, by decide +kernel, by decide +kernel⟩
theorem d_scaled (G : Gl0 P K mg) (D : DefIn K mg "scaled" s_scaled) (c_times : Callee P w K mg base T false 3 "times" ["one", "other"] f_times) (c_made : Callee P w K mg base T false 1 "made" ["first", "second", "root"] f_made) : Callee P w K mg base T false 4 "scaled" ["one", "part"] f_scaled :=
  callee_of (gd := false) (k := 3) D sc_scaled rfl rfl (fun _ _ _ _ _ _ us hl => match us, hl with | [_, _], _ => rfl) fun f cdv A outer s H E hg hr => pxs_one (px_ret (px_fn c_made hr (by decide) (fun z => nomatch z) (pxa_cons (px_fn c_times hr (by decide) (fun z => nomatch z) (pxa_cons (px_ix (px_var 0) (px_int)) (pxa_cons (px_var 1) (pxa_nil)))) (pxa_cons (px_fn c_times hr (by decide) (fun z => nomatch z) (pxa_cons (px_ix (px_var 0) (px_int)) (pxa_cons (px_var 1) (pxa_nil)))) (pxa_cons (px_ix (px_var 0) (px_int)) (pxa_nil))))))
abbrev s_root_of : Stmt := top 29
theorem sc_root_of : FnScope ["part", "whole", "root"] ["part"] (defScope s_root_of) := ⟨rfl, rfl, rfl, by decide +kernel, rfl, by decide +kernel, by decide +kernel⟩
theorem d_root_of (G : Gl0 P K mg) (D : DefIn K mg "root_of" s_root_of) (c_whole_root : Callee P w K mg base T false 1 "whole_root" ["number"] f_whole_root) (c_rate : Callee P w K mg base T false 2 "rate" ["top", "bottom"] f_rate) (c_plain : Callee P w K mg base T false 1 "plain" ["one"] f_plain) : Callee P w K mg base T false 3 "root_of" ["part"] f_root_of :=
  callee_of (gd := false) (k := 2) D sc_root_of rfl rfl (fun _ _ _ _ _ _ us hl => match us, hl with | [_], _ => rfl) fun f cdv A outer s H E hg hr => pxs_cons (px_set 1 sc_root_of.nd (px_mul (px_ix (px_var 0) (px_int)) (px_ix (px_var 0) (px_int)))) (pxs_cons (px_set 2 sc_root_of.nd (px_fn c_whole_root hr (by decide) (fun z => nomatch z) (pxa_cons (px_var 1) (pxa_nil)))) (pxs_cons (px_if (pxt_eq hr (px_mul (px_var 2) (px_var 2)) (px_var 1)) (pxs_one (px_ret (px_fn c_plain hr (by decide) (fun z => nomatch z) (pxa_cons (px_fn c_rate hr (by decide) (fun z => nomatch z) (pxa_cons (px_var 2) (pxa_cons (px_ix (px_var 0) (px_int)) (pxa_nil)))) (pxa_nil))))) (pxs_nil)) (pxs_one (px_ret (px_tup (pxa_cons (px_cst G.c_ZERO) (pxa_cons (px_tup (pxa_cons (px_int) (pxa_cons (px_ix (px_var 0) (px_int)) (pxa_nil)))) (pxa_cons (px_var 1) (pxa_nil)))))))))
abbrev s_told : Stmt := top 30
theorem sc_told : FnScope ["one", "last", "second", "bottom", "first", "part"] ["one"] (defScope s_told) := ⟨rfl, rfl, rfl, by decide +kernel, rfl, by decide +kernel, by decide +kernel⟩
theorem d_told (G : Gl0 P K mg) (D : DefIn K mg "told" s_told) (c_squared : Callee P w K mg base T false 1 "squared" ["one"] f_squared) (c_times : Callee P w K mg base T false 3 "times" ["one", "other"] f_times) (c_less : Callee P w K mg base T false 3 "less" ["one", "other"] f_less) (c_plus : Callee P w K mg base T false 3 "plus" ["one", "other"] f_plus) (c_turned_sign : Callee P w K mg base T false 1 "turned_sign" ["one"] f_turned_sign) (c_common : Callee P w K mg base T false 1 "common" ["one", "other"] f_common) (c_sign_of : Callee P w K mg base T false 1 "sign_of" ["one"] f_sign_of) : Callee P w K mg base T false 4 "told" ["one"] f_told :=
  callee_of (gd := false) (k := 3) D sc_told rfl rfl (fun _ _ _ _ _ _ us hl => match us, hl with | [_], _ => rfl) fun f cdv A outer s H E hg hr => pxs_cons (px_if (pxt_eq hr (px_ix (px_ix (px_var 0) (px_int)) (px_int)) (px_int)) (pxs_one (px_ret (px_ix (px_var 0) (px_int)))) (pxs_nil)) (pxs_cons (px_set 1 sc_told.nd (px_fn c_less hr (by decide) (fun z => nomatch z) (pxa_cons (px_fn c_squared hr (by decide) (fun z => nomatch z) (pxa_cons (px_ix (px_var 0) (px_int)) (pxa_nil))) (pxa_cons (px_fn c_times hr (by decide) (fun z => nomatch z) (pxa_cons (px_fn c_squared hr (by decide) (fun z => nomatch z) (pxa_cons (px_ix (px_var 0) (px_int)) (pxa_nil))) (pxa_cons (px_tup (pxa_cons (px_ix (px_var 0) (px_int)) (pxa_cons (px_int) (pxa_nil)))) (pxa_nil)))) (pxa_nil))))) (pxs_cons (px_set 2 sc_told.nd (px_fn c_turned_sign hr (by decide) (fun z => nomatch z) (pxa_cons (px_fn c_plus hr (by decide) (fun z => nomatch z) (pxa_cons (px_ix (px_var 0) (px_int)) (pxa_cons (px_ix (px_var 0) (px_int)) (pxa_nil)))) (pxa_nil)))) (pxs_cons (px_set 3 sc_told.nd (px_div (px_mul (px_ix (px_var 1) (px_int)) (px_ix (px_var 2) (px_int))) (px_fn c_common hr (by decide) (fun z => nomatch z) (pxa_cons (px_ix (px_var 1) (px_int)) (pxa_cons (px_ix (px_var 2) (px_int)) (pxa_nil)))))) (pxs_cons (px_par3 4 2 1 rfl sc_told.nd (by decide) (by decide) (by decide) (pxa_cons (px_var 3) (pxa_cons (px_mul (px_ix (px_var 2) (px_int)) (px_div (px_var 3) (px_ix (px_var 2) (px_int)))) (pxa_cons (px_mul (px_ix (px_var 1) (px_int)) (px_div (px_var 3) (px_ix (px_var 1) (px_int)))) (pxa_nil))))) (pxs_cons (px_set 5 sc_told.nd (px_fn c_common hr (by decide) (fun z => nomatch z) (pxa_cons (px_fn c_common hr (by decide) (fun z => nomatch z) (pxa_cons (px_var 4) (pxa_cons (px_var 2) (pxa_nil)))) (pxa_cons (px_var 1) (pxa_nil))))) (pxs_one (px_ret (px_tup (pxa_cons (px_div (px_var 4) (px_var 5)) (pxa_cons (px_div (px_var 2) (px_var 5)) (pxa_cons (px_div (px_var 1) (px_var 5)) (pxa_cons (px_fn c_sign_of hr (by decide) (fun z => nomatch z) (pxa_cons (px_ix (px_var 0) (px_int)) (pxa_nil))) (pxa_nil)))))))))))))
abbrev s_is_root : Stmt := top 31
theorem sc_is_root : FnScope ["value", "first", "second", "last", "side", "inner", "one"] ["value"] (defScope s_is_root) := ⟨rfl, rfl, rfl, by decide +kernel, rfl, by decide +kernel, by decide +kernel⟩
theorem d_is_root (G : Gl0 P K mg) (D : DefIn K mg "is_root" s_is_root) (c_is_whole : Callee P w K mg base T false 1 "is_whole" ["value"] f_is_whole) (c_common : Callee P w K mg base T false 1 "common" ["one", "other"] f_common) (c_whole_root : Callee P w K mg base T false 1 "whole_root" ["number"] f_whole_root) : Callee P w K mg base T false 2 "is_root" ["value"] f_is_root :=
  callee_of (gd := false) (k := 1) D sc_is_root rfl rfl (fun _ _ _ _ _ _ us hl => match us, hl with | [_], _ => rfl) fun f cdv A outer s H E hg hr => pxs_cons (px_if (PXW.t (pxw_or (pxt_not (pxt_truth (pb_isinstance G.ex G.b_isinstance (pxa_cons (px_var 0) (pxa_cons (px_ty G.b_tuple (by decide +kernel)) (pxa_nil)))))) (pxw_or (pxt_ne hr (pb_len G.b_len (pxa_cons (px_var 0) (pxa_nil))) (px_int)) (pxw_or1 (pxt_not (pxt_truth (pb_all rfl G.b_all (pxa_cons (px_comp (own := [("one", 6)]) rfl sc_is_root.nd (pxi_tup (px_var 0)) (blkOk_by (N := ["value", "first", "second", "last", "side", "inner", "one"]) (sc := defScope s_is_root) (by decide +kernel)) (fun _ _ _ _ _ => pxg_name 6 sc_is_root.nd) (fun _ _ _ _ _ => pxts_nil) (fun _ _ _ _ _ => px_fn c_is_whole hr (by decide) (fun z => nomatch z) (pxa_cons (px_var 6) (pxa_nil))) (by decide)) (pxa_nil))))))))) (pxs_one (px_ret (px_bl))) (pxs_nil)) (pxs_cons (px_asg (px_var 0) (pxg_tup rfl (pxgs_cons (pxg_name 1 sc_is_root.nd) (pxgs_cons (pxg_name 2 sc_is_root.nd) (pxgs_cons (pxg_name 3 sc_is_root.nd) (pxgs_cons (pxg_name 4 sc_is_root.nd) (pxgs_nil))))) (gsl_cons (gsl_cons (gsl_cons (gsl_cons (gsl_nil))))))) (pxs_cons (px_if (PXW.t (pxw_or (pxt_lt (px_var 1) (px_int)) (pxw_or (pxt_notIn hr (px_var 4) (px_tup (pxa_cons (px_neg (px_int)) (pxa_cons (px_int) (pxa_nil))))) (pxw_or1 (pxt_ne hr (px_fn c_common hr (by decide) (fun z => nomatch z) (pxa_cons (px_fn c_common hr (by decide) (fun z => nomatch z) (pxa_cons (px_var 1) (pxa_cons (px_var 2) (pxa_nil)))) (pxa_cons (px_var 3) (pxa_nil)))) (px_int)))))) (pxs_one (px_ret (px_bl))) (pxs_nil)) (pxs_cons (px_set 5 sc_is_root.nd (px_sub (px_mul (px_var 2) (px_var 2)) (px_mul (px_mul (px_int) (px_var 1)) (px_var 3)))) (pxs_one (px_ret (px_and (px_gt (px_var 5) (px_int)) (px_one (px_ne hr (px_pow (px_fn c_whole_root hr (by decide) (fun z => nomatch z) (pxa_cons (px_var 5) (pxa_nil))) (px_int)) (px_var 5)))))))))
abbrev s_is_number : Stmt := top 32
theorem sc_is_number : FnScope ["value"] ["value"] (defScope s_is_number) := ⟨rfl, rfl, rfl, by decide +kernel, rfl, by decide +kernel, by decide +kernel⟩
theorem d_is_number (G : Gl0 P K mg) (D : DefIn K mg "is_number" s_is_number) (c_is_lowest : Callee P w K mg base T false 2 "is_lowest" ["value"] f_is_lowest) (c_is_root : Callee P w K mg base T false 2 "is_root" ["value"] f_is_root) : Callee P w K mg base T false 3 "is_number" ["value"] f_is_number :=
  callee_of (gd := false) (k := 2) D sc_is_number rfl rfl (fun _ _ _ _ _ _ us hl => match us, hl with | [_], _ => rfl) fun f cdv A outer s H E hg hr => pxs_one (px_ret (px_or (px_fn c_is_lowest hr (by decide) (fun z => nomatch z) (pxa_cons (px_var 0) (pxa_nil))) (px_one (px_fn c_is_root hr (by decide) (fun z => nomatch z) (pxa_cons (px_var 0) (pxa_nil))))))
abbrev s_is_point : Stmt := top 35
theorem sc_is_point : FnScope ["value", "one"] ["value"] (defScope s_is_point) := ⟨rfl, rfl, rfl, by decide +kernel, rfl, by decide +kernel, by decide +kernel⟩
theorem d_is_point (G : Gl0 P K mg) (D : DefIn K mg "is_point" s_is_point) (c_is_fraction : Callee P w K mg base T false 3 "is_fraction" ["value"] f_is_fraction) : Callee P w K mg base T false 4 "is_point" ["value"] f_is_point :=
  callee_of (gd := false) (k := 3) D sc_is_point rfl rfl (fun _ _ _ _ _ _ us hl => match us, hl with | [_], _ => rfl) fun f cdv A outer s H E hg hr => pxs_one (px_ret (px_and (pb_isinstance G.ex G.b_isinstance (pxa_cons (px_var 0) (pxa_cons (px_ty G.b_tuple (by decide +kernel)) (pxa_nil)))) (px_and (px_eq hr (pb_len G.b_len (pxa_cons (px_var 0) (pxa_nil))) (px_int)) (px_one (pb_all rfl G.b_all (pxa_cons (px_comp (own := [("one", 1)]) rfl sc_is_point.nd (pxi_tup (px_var 0)) (blkOk_by (N := ["value", "one"]) (sc := defScope s_is_point) (by decide +kernel)) (fun _ _ _ _ _ => pxg_name 1 sc_is_point.nd) (fun _ _ _ _ _ => pxts_nil) (fun _ _ _ _ _ => px_fn c_is_fraction hr (by decide) (fun z => nomatch z) (pxa_cons (px_var 1) (pxa_nil))) (by decide)) (pxa_nil)))))))
abbrev s_look_at_point : Stmt := top 36
theorem sc_look_at_point : FnScope ["value"] ["value"] (defScope s_look_at_point) := ⟨rfl, rfl, rfl, by decide +kernel, rfl, by decide +kernel, by decide +kernel⟩
theorem d_look_at_point (G : Gl0 P K mg) (D : DefIn K mg "look_at_point" s_look_at_point) (c_is_point : Callee P w K mg base T false 4 "is_point" ["value"] f_is_point) : Callee P w K mg base T false 5 "look_at_point" ["value"] f_look_at_point :=
  callee_of (gd := false) (k := 4) D sc_look_at_point rfl rfl (fun _ _ _ _ _ _ us hl => match us, hl with | [_], _ => rfl) fun f cdv A outer s H E hg hr => pxs_one (px_if (pxt_not (pxt_truth (px_fn c_is_point hr (by decide) (fun z => nomatch z) (pxa_cons (px_var 0) (pxa_nil))))) (pxs_one (px_raise rfl G.ex_BadPoint hr (px_var 0))) (pxs_nil))
abbrev s_is_far_point : Stmt := top 37
theorem sc_is_far_point : FnScope ["value", "one"] ["value"] (defScope s_is_far_point) := ⟨rfl, rfl, rfl, by decide +kernel, rfl, by decide +kernel, by decide +kernel⟩
theorem d_is_far_point (G : Gl0 P K mg) (D : DefIn K mg "is_far_point" s_is_far_point) (c_is_number : Callee P w K mg base T false 3 "is_number" ["value"] f_is_number) : Callee P w K mg base T false 4 "is_far_point" ["value"] f_is_far_point :=
  callee_of (gd := false) (k := 3) D sc_is_far_point rfl rfl (fun _ _ _ _ _ _ us hl => match us, hl with | [_], _ => rfl) fun f cdv A outer s H E hg hr => pxs_one (px_ret (px_and (pb_isinstance G.ex G.b_isinstance (pxa_cons (px_var 0) (pxa_cons (px_ty G.b_tuple (by decide +kernel)) (pxa_nil)))) (px_and (px_eq hr (pb_len G.b_len (pxa_cons (px_var 0) (pxa_nil))) (px_int)) (px_one (pb_all rfl G.b_all (pxa_cons (px_comp (own := [("one", 1)]) rfl sc_is_far_point.nd (pxi_tup (px_var 0)) (blkOk_by (N := ["value", "one"]) (sc := defScope s_is_far_point) (by decide +kernel)) (fun _ _ _ _ _ => pxg_name 1 sc_is_far_point.nd) (fun _ _ _ _ _ => pxts_nil) (fun _ _ _ _ _ => px_fn c_is_number hr (by decide) (fun z => nomatch z) (pxa_cons (px_var 1) (pxa_nil))) (by decide)) (pxa_nil)))))))
abbrev s_beside : Stmt := top 38
theorem sc_beside : FnScope ["one", "other"] ["one", "other"] (defScope s_beside) := ⟨rfl, rfl, rfl, by decide +kernel, rfl, by decide +kernel, by decide +kernel⟩
theorem d_beside (G : Gl0 P K mg) (D : DefIn K mg "beside" s_beside) (c_less : Callee P w K mg base T false 3 "less" ["one", "other"] f_less) : Callee P w K mg base T false 4 "beside" ["one", "other"] f_beside :=
  callee_of (gd := false) (k := 3) D sc_beside rfl rfl (fun _ _ _ _ _ _ us hl => match us, hl with | [_, _], _ => rfl) fun f cdv A outer s H E hg hr => pxs_one (px_ret (px_tup (pxa_cons (px_fn c_less hr (by decide) (fun z => nomatch z) (pxa_cons (px_ix (px_var 0) (px_int)) (pxa_cons (px_ix (px_var 1) (px_int)) (pxa_nil)))) (pxa_cons (px_fn c_less hr (by decide) (fun z => nomatch z) (pxa_cons (px_ix (px_var 0) (px_int)) (pxa_cons (px_ix (px_var 1) (px_int)) (pxa_nil)))) (pxa_nil)))))
abbrev s_square_of : Stmt := top 39
theorem sc_square_of : FnScope ["one"] ["one"] (defScope s_square_of) := ⟨rfl, rfl, rfl, by decide +kernel, rfl, by decide +kernel, by decide +kernel⟩
theorem d_square_of (G : Gl0 P K mg) (D : DefIn K mg "square_of" s_square_of) (c_squared : Callee P w K mg base T false 1 "squared" ["one"] f_squared) (c_plus : Callee P w K mg base T false 3 "plus" ["one", "other"] f_plus) : Callee P w K mg base T false 4 "square_of" ["one"] f_square_of :=
  callee_of (gd := false) (k := 3) D sc_square_of rfl rfl (fun _ _ _ _ _ _ us hl => match us, hl with | [_], _ => rfl) fun f cdv A outer s H E hg hr => pxs_one (px_ret (px_fn c_plus hr (by decide) (fun z => nomatch z) (pxa_cons (px_fn c_squared hr (by decide) (fun z => nomatch z) (pxa_cons (px_ix (px_var 0) (px_int)) (pxa_nil))) (pxa_cons (px_fn c_squared hr (by decide) (fun z => nomatch z) (pxa_cons (px_ix (px_var 0) (px_int)) (pxa_nil))) (pxa_nil)))))
abbrev s_square_between : Stmt := top 40
theorem sc_square_between : FnScope ["one", "other"] ["one", "other"] (defScope s_square_between) := ⟨rfl, rfl, rfl, by decide +kernel, rfl, by decide +kernel, by decide +kernel⟩
theorem d_square_between (G : Gl0 P K mg) (D : DefIn K mg "square_between" s_square_between) (c_look_at_point : Callee P w K mg base T false 5 "look_at_point" ["value"] f_look_at_point) (c_beside : Callee P w K mg base T false 4 "beside" ["one", "other"] f_beside) (c_square_of : Callee P w K mg base T false 4 "square_of" ["one"] f_square_of) : Callee P w K mg base T false 6 "square_between" ["one", "other"] f_square_between :=
  callee_of (gd := false) (k := 5) D sc_square_between rfl rfl (fun _ _ _ _ _ _ us hl => match us, hl with | [_, _], _ => rfl) fun f cdv A outer s H E hg hr => pxs_cons (px_expr (px_fn c_look_at_point hr (by decide) (fun z => nomatch z) (pxa_cons (px_var 0) (pxa_nil)))) (pxs_cons (px_expr (px_fn c_look_at_point hr (by decide) (fun z => nomatch z) (pxa_cons (px_var 1) (pxa_nil)))) (pxs_one (px_ret (px_fn c_square_of hr (by decide) (fun z => nomatch z) (pxa_cons (px_fn c_beside hr (by decide) (fun z => nomatch z) (pxa_cons (px_var 0) (pxa_cons (px_var 1) (pxa_nil)))) (pxa_nil))))))
abbrev s_told_side : Stmt := top 42
theorem sc_told_side : FnScope ["one", "other", "third", "mine", "its"] ["one", "other", "third"] (defScope s_told_side) := ⟨rfl, rfl, rfl, by decide +kernel, rfl, by decide +kernel, by decide +kernel⟩
theorem d_told_side (G : Gl0 P K mg) (D : DefIn K mg "told_side" s_told_side) (c_beside : Callee P w K mg base T false 4 "beside" ["one", "other"] f_beside) (c_times : Callee P w K mg base T false 3 "times" ["one", "other"] f_times) (c_less : Callee P w K mg base T false 3 "less" ["one", "other"] f_less) (c_sign_of : Callee P w K mg base T false 1 "sign_of" ["one"] f_sign_of) : Callee P w K mg base T false 5 "told_side" ["one", "other", "third"] f_told_side :=
  callee_of (gd := false) (k := 4) D sc_told_side rfl rfl (fun _ _ _ _ _ _ us hl => match us, hl with | [_, _, _], _ => rfl) fun f cdv A outer s H E hg hr => pxs_cons (px_par 3 4 rfl sc_told_side.nd (by decide) (pxa_cons (px_fn c_beside hr (by decide) (fun z => nomatch z) (pxa_cons (px_var 1) (pxa_cons (px_var 0) (pxa_nil)))) (pxa_cons (px_fn c_beside hr (by decide) (fun z => nomatch z) (pxa_cons (px_var 2) (pxa_cons (px_var 0) (pxa_nil)))) (pxa_nil)))) (pxs_one (px_ret (px_fn c_sign_of hr (by decide) (fun z => nomatch z) (pxa_cons (px_fn c_less hr (by decide) (fun z => nomatch z) (pxa_cons (px_fn c_times hr (by decide) (fun z => nomatch z) (pxa_cons (px_ix (px_var 3) (px_int)) (pxa_cons (px_ix (px_var 4) (px_int)) (pxa_nil)))) (pxa_cons (px_fn c_times hr (by decide) (fun z => nomatch z) (pxa_cons (px_ix (px_var 3) (px_int)) (pxa_cons (px_ix (px_var 4) (px_int)) (pxa_nil)))) (pxa_nil)))) (pxa_nil)))))
abbrev s_side_of : Stmt := top 41
theorem sc_side_of : FnScope ["one", "other", "third"] ["one", "other", "third"] (defScope s_side_of) := ⟨rfl, rfl, rfl, by decide +kernel, rfl, by decide +kernel, by decide +kernel⟩
theorem d_side_of (G : Gl0 P K mg) (D : DefIn K mg "side_of" s_side_of) (c_look_at_point : Callee P w K mg base T false 5 "look_at_point" ["value"] f_look_at_point) (c_told_side : Callee P w K mg base T false 5 "told_side" ["one", "other", "third"] f_told_side) : Callee P w K mg base T false 6 "side_of" ["one", "other", "third"] f_side_of :=
  callee_of (gd := false) (k := 5) D sc_side_of rfl rfl (fun _ _ _ _ _ _ us hl => match us, hl with | [_, _, _], _ => rfl) fun f cdv A outer s H E hg hr => pxs_cons (px_expr (px_fn c_look_at_point hr (by decide) (fun z => nomatch z) (pxa_cons (px_var 0) (pxa_nil)))) (pxs_cons (px_expr (px_fn c_look_at_point hr (by decide) (fun z => nomatch z) (pxa_cons (px_var 1) (pxa_nil)))) (pxs_cons (px_expr (px_fn c_look_at_point hr (by decide) (fun z => nomatch z) (pxa_cons (px_var 2) (pxa_nil)))) (pxs_one (px_ret (px_fn c_told_side hr (by decide) (fun z => nomatch z) (pxa_cons (px_var 0) (pxa_cons (px_var 1) (pxa_cons (px_var 2) (pxa_nil)))))))))
abbrev s_told_is_on : Stmt := top 44
theorem sc_told_is_on : FnScope ["one", "other", "third", "mine", "its"] ["one", "other", "third"] (defScope s_told_is_on) := ⟨rfl, rfl, rfl, by decide +kernel, rfl, by decide +kernel, by decide +kernel⟩
theorem d_told_is_on (G : Gl0 P K mg) (D : DefIn K mg "told_is_on" s_told_is_on) (c_told_side : Callee P w K mg base T false 5 "told_side" ["one", "other", "third"] f_told_side) (c_beside : Callee P w K mg base T false 4 "beside" ["one", "other"] f_beside) (c_times : Callee P w K mg base T false 3 "times" ["one", "other"] f_times) (c_plus : Callee P w K mg base T false 3 "plus" ["one", "other"] f_plus) (c_sign_of : Callee P w K mg base T false 1 "sign_of" ["one"] f_sign_of) : Callee P w K mg base T false 6 "told_is_on" ["one", "other", "third"] f_told_is_on :=
  callee_of (gd := false) (k := 5) D sc_told_is_on rfl rfl (fun _ _ _ _ _ _ us hl => match us, hl with | [_, _, _], _ => rfl) fun f cdv A outer s H E hg hr => pxs_cons (px_if (pxt_ne hr (px_fn c_told_side hr (by decide) (fun z => nomatch z) (pxa_cons (px_var 0) (pxa_cons (px_var 1) (pxa_cons (px_var 2) (pxa_nil))))) (px_int)) (pxs_one (px_ret (px_bl))) (pxs_nil)) (pxs_cons (px_par 3 4 rfl sc_told_is_on.nd (by decide) (pxa_cons (px_fn c_beside hr (by decide) (fun z => nomatch z) (pxa_cons (px_var 0) (pxa_cons (px_var 2) (pxa_nil)))) (pxa_cons (px_fn c_beside hr (by decide) (fun z => nomatch z) (pxa_cons (px_var 1) (pxa_cons (px_var 2) (pxa_nil)))) (pxa_nil)))) (pxs_one (px_ret (px_le (px_fn c_sign_of hr (by decide) (fun z => nomatch z) (pxa_cons (px_fn c_plus hr (by decide) (fun z => nomatch z) (pxa_cons (px_fn c_times hr (by decide) (fun z => nomatch z) (pxa_cons (px_ix (px_var 3) (px_int)) (pxa_cons (px_ix (px_var 4) (px_int)) (pxa_nil)))) (pxa_cons (px_fn c_times hr (by decide) (fun z => nomatch z) (pxa_cons (px_ix (px_var 3) (px_int)) (pxa_cons (px_ix (px_var 4) (px_int)) (pxa_nil)))) (pxa_nil)))) (pxa_nil))) (px_int)))))
abbrev s_is_on : Stmt := top 43
theorem sc_is_on : FnScope ["one", "other", "third"] ["one", "other", "third"] (defScope s_is_on) := ⟨rfl, rfl, rfl, by decide +kernel, rfl, by decide +kernel, by decide +kernel⟩
theorem d_is_on (G : Gl0 P K mg) (D : DefIn K mg "is_on" s_is_on) (c_look_at_point : Callee P w K mg base T false 5 "look_at_point" ["value"] f_look_at_point) (c_told_is_on : Callee P w K mg base T false 6 "told_is_on" ["one", "other", "third"] f_told_is_on) : Callee P w K mg base T false 7 "is_on" ["one", "other", "third"] f_is_on :=
  callee_of (gd := false) (k := 6) D sc_is_on rfl rfl (fun _ _ _ _ _ _ us hl => match us, hl with | [_, _, _], _ => rfl) fun f cdv A outer s H E hg hr => pxs_cons (px_expr (px_fn c_look_at_point hr (by decide) (fun z => nomatch z) (pxa_cons (px_var 0) (pxa_nil)))) (pxs_cons (px_expr (px_fn c_look_at_point hr (by decide) (fun z => nomatch z) (pxa_cons (px_var 1) (pxa_nil)))) (pxs_cons (px_expr (px_fn c_look_at_point hr (by decide) (fun z => nomatch z) (pxa_cons (px_var 2) (pxa_nil)))) (pxs_one (px_ret (px_fn c_told_is_on hr (by decide) (fun z => nomatch z) (pxa_cons (px_var 0) (pxa_cons (px_var 1) (pxa_cons (px_var 2) (pxa_nil)))))))))
abbrev s_told_do_meet : Stmt := top 46
theorem sc_told_do_meet : FnScope ["one", "other", "first", "second", "third", "fourth", "end"] ["one", "other"] (defScope s_told_do_meet) := ⟨rfl, rfl, rfl, by decide +kernel, rfl, by decide +kernel, by decide +kernel⟩
theorem d_told_do_meet (G : Gl0 P K mg) (D : DefIn K mg "told_do_meet" s_told_do_meet) (c_told_side : Callee P w K mg base T false 5 "told_side" ["one", "other", "third"] f_told_side) (c_told_is_on : Callee P w K mg base T false 6 "told_is_on" ["one", "other", "third"] f_told_is_on) : Callee P w K mg base T false 7 "told_do_meet" ["one", "other"] f_told_do_meet :=
  callee_of (gd := false) (k := 6) D sc_told_do_meet rfl rfl (fun _ _ _ _ _ _ us hl => match us, hl with | [_, _], _ => rfl) fun f cdv A outer s H E hg hr => pxs_cons (px_par 2 3 rfl sc_told_do_meet.nd (by decide) (pxa_cons (px_fn c_told_side hr (by decide) (fun z => nomatch z) (pxa_cons (px_ix (px_var 0) (px_int)) (pxa_cons (px_ix (px_var 0) (px_int)) (pxa_cons (px_ix (px_var 1) (px_int)) (pxa_nil))))) (pxa_cons (px_fn c_told_side hr (by decide) (fun z => nomatch z) (pxa_cons (px_ix (px_var 0) (px_int)) (pxa_cons (px_ix (px_var 0) (px_int)) (pxa_cons (px_ix (px_var 1) (px_int)) (pxa_nil))))) (pxa_nil)))) (pxs_cons (px_par 4 5 rfl sc_told_do_meet.nd (by decide) (pxa_cons (px_fn c_told_side hr (by decide) (fun z => nomatch z) (pxa_cons (px_ix (px_var 1) (px_int)) (pxa_cons (px_ix (px_var 1) (px_int)) (pxa_cons (px_ix (px_var 0) (px_int)) (pxa_nil))))) (pxa_cons (px_fn c_told_side hr (by decide) (fun z => nomatch z) (pxa_cons (px_ix (px_var 1) (px_int)) (pxa_cons (px_ix (px_var 1) (px_int)) (pxa_cons (px_ix (px_var 0) (px_int)) (pxa_nil))))) (pxa_nil)))) (pxs_cons (px_if (PXW.t (pxw_and (pxt_lt (px_mul (px_var 2) (px_var 3)) (px_int)) (pxw_and1 (pxt_lt (px_mul (px_var 4) (px_var 5)) (px_int))))) (pxs_one (px_ret (px_bl))) (pxs_nil)) (pxs_cons (px_if (pxt_truth (pb_any rfl G.b_any (pxa_cons (px_comp (own := [("end", 6)]) rfl sc_told_do_meet.nd (pxi_tup (px_var 1)) (blkOk_by (N := ["one", "other", "first", "second", "third", "fourth", "end"]) (sc := defScope s_told_do_meet) (by decide +kernel)) (fun _ _ _ _ _ => pxg_name 6 sc_told_do_meet.nd) (fun _ _ _ _ _ => pxts_nil) (fun _ _ _ _ _ => px_fn c_told_is_on hr (by decide) (fun z => nomatch z) (pxa_cons (px_ix (px_var 0) (px_int)) (pxa_cons (px_ix (px_var 0) (px_int)) (pxa_cons (px_var 6) (pxa_nil))))) (by decide)) (pxa_nil)))) (pxs_one (px_ret (px_bl))) (pxs_nil)) (pxs_one (px_ret (pb_any rfl G.b_any (pxa_cons (px_comp (own := [("end", 6)]) rfl sc_told_do_meet.nd (pxi_tup (px_var 0)) (blkOk_by (N := ["one", "other", "first", "second", "third", "fourth", "end"]) (sc := defScope s_told_do_meet) (by decide +kernel)) (fun _ _ _ _ _ => pxg_name 6 sc_told_do_meet.nd) (fun _ _ _ _ _ => pxts_nil) (fun _ _ _ _ _ => px_fn c_told_is_on hr (by decide) (fun z => nomatch z) (pxa_cons (px_ix (px_var 1) (px_int)) (pxa_cons (px_ix (px_var 1) (px_int)) (pxa_cons (px_var 6) (pxa_nil))))) (by decide)) (pxa_nil))))))))
abbrev s_do_meet : Stmt := top 45
theorem sc_do_meet : FnScope ["one", "other", "third", "fourth", "point"] ["one", "other", "third", "fourth"] (defScope s_do_meet) := ⟨rfl, rfl, rfl, by decide +kernel, rfl, by decide +kernel, by decide +kernel⟩
theorem d_do_meet (G : Gl0 P K mg) (D : DefIn K mg "do_meet" s_do_meet) (c_look_at_point : Callee P w K mg base T false 5 "look_at_point" ["value"] f_look_at_point) (c_told_do_meet : Callee P w K mg base T false 7 "told_do_meet" ["one", "other"] f_told_do_meet) : Callee P w K mg base T false 8 "do_meet" ["one", "other", "third", "fourth"] f_do_meet :=
  callee_of (gd := false) (k := 7) D sc_do_meet rfl rfl (fun _ _ _ _ _ _ us hl => match us, hl with | [_, _, _, _], _ => rfl) fun f cdv A outer s H E hg hr => pxs_cons (px_for (passes_of rfl) rfl (pxi_tup (px_tup (pxa_cons (px_var 0) (pxa_cons (px_var 1) (pxa_cons (px_var 2) (pxa_cons (px_var 3) (pxa_nil))))))) (pxg_name 4 sc_do_meet.nd) (pxs_one (px_expr (px_fn c_look_at_point hr (by decide) (fun z => nomatch z) (pxa_cons (px_var 4) (pxa_nil)))))) (pxs_one (px_ret (px_fn c_told_do_meet hr (by decide) (fun z => nomatch z) (pxa_cons (px_tup (pxa_cons (px_var 0) (pxa_cons (px_var 1) (pxa_nil)))) (pxa_cons (px_tup (pxa_cons (px_var 2) (pxa_cons (px_var 3) (pxa_nil)))) (pxa_nil))))))
abbrev s_vector : Stmt := top 47
theorem sc_vector : FnScope ["one"] ["one"] (defScope s_vector) := ⟨rfl, rfl, rfl, by decide +kernel, rfl, by decide +kernel, by decide +kernel⟩
theorem d_vector (G : Gl0 P K mg) (D : DefIn K mg "vector" s_vector) (c_plain : Callee P w K mg base T false 1 "plain" ["one"] f_plain) : Callee P w K mg base T false 2 "vector" ["one"] f_vector :=
  callee_of (gd := false) (k := 1) D sc_vector rfl rfl (fun _ _ _ _ _ _ us hl => match us, hl with | [_], _ => rfl) fun f cdv A outer s H E hg hr => pxs_one (px_ret (px_tup (pxa_cons (px_fn c_plain hr (by decide) (fun z => nomatch z) (pxa_cons (px_ix (px_var 0) (px_int)) (pxa_nil))) (pxa_cons (px_fn c_plain hr (by decide) (fun z => nomatch z) (pxa_cons (px_ix (px_var 0) (px_int)) (pxa_nil))) (pxa_nil)))))
abbrev s_told_vector : Stmt := top 48
theorem sc_told_vector : FnScope ["one"] ["one"] (defScope s_told_vector) := ⟨rfl, rfl, rfl, by decide +kernel, rfl, by decide +kernel, by decide +kernel⟩
theorem d_told_vector (G : Gl0 P K mg) (D : DefIn K mg "told_vector" s_told_vector) (c_told : Callee P w K mg base T false 4 "told" ["one"] f_told) : Callee P w K mg base T false 5 "told_vector" ["one"] f_told_vector :=
  callee_of (gd := false) (k := 4) D sc_told_vector rfl rfl (fun _ _ _ _ _ _ us hl => match us, hl with | [_], _ => rfl) fun f cdv A outer s H E hg hr => pxs_one (px_ret (px_tup (pxa_cons (px_fn c_told hr (by decide) (fun z => nomatch z) (pxa_cons (px_ix (px_var 0) (px_int)) (pxa_nil))) (pxa_cons (px_fn c_told hr (by decide) (fun z => nomatch z) (pxa_cons (px_ix (px_var 0) (px_int)) (pxa_nil))) (pxa_nil)))))
abbrev s_moved : Stmt := top 49
theorem sc_moved : FnScope ["one", "other"] ["one", "other"] (defScope s_moved) := ⟨rfl, rfl, rfl, by decide +kernel, rfl, by decide +kernel, by decide +kernel⟩
theorem d_moved (G : Gl0 P K mg) (D : DefIn K mg "moved" s_moved) (c_added : Callee P w K mg base T false 4 "added" ["one", "other"] f_added) : Callee P w K mg base T false 5 "moved" ["one", "other"] f_moved :=
  callee_of (gd := false) (k := 4) D sc_moved rfl rfl (fun _ _ _ _ _ _ us hl => match us, hl with | [_, _], _ => rfl) fun f cdv A outer s H E hg hr => pxs_one (px_ret (px_tup (pxa_cons (px_fn c_added hr (by decide) (fun z => nomatch z) (pxa_cons (px_ix (px_var 0) (px_int)) (pxa_cons (px_ix (px_var 1) (px_int)) (pxa_nil)))) (pxa_cons (px_fn c_added hr (by decide) (fun z => nomatch z) (pxa_cons (px_ix (px_var 0) (px_int)) (pxa_cons (px_ix (px_var 1) (px_int)) (pxa_nil)))) (pxa_nil)))))
abbrev s_away : Stmt := top 50
theorem sc_away : FnScope ["one", "other"] ["one", "other"] (defScope s_away) := ⟨rfl, rfl, rfl, by decide +kernel, rfl, by decide +kernel, by decide +kernel⟩
theorem d_away (G : Gl0 P K mg) (D : DefIn K mg "away" s_away) (c_lessened : Callee P w K mg base T false 4 "lessened" ["one", "other"] f_lessened) : Callee P w K mg base T false 5 "away" ["one", "other"] f_away :=
  callee_of (gd := false) (k := 4) D sc_away rfl rfl (fun _ _ _ _ _ _ us hl => match us, hl with | [_, _], _ => rfl) fun f cdv A outer s H E hg hr => pxs_one (px_ret (px_tup (pxa_cons (px_fn c_lessened hr (by decide) (fun z => nomatch z) (pxa_cons (px_ix (px_var 0) (px_int)) (pxa_cons (px_ix (px_var 1) (px_int)) (pxa_nil)))) (pxa_cons (px_fn c_lessened hr (by decide) (fun z => nomatch z) (pxa_cons (px_ix (px_var 0) (px_int)) (pxa_cons (px_ix (px_var 1) (px_int)) (pxa_nil)))) (pxa_nil)))))
abbrev s_on_line : Stmt := top 51
theorem sc_on_line : FnScope ["line", "square", "first", "second", "last", "norm", "inner", "foot", "root", "along"] ["line", "square"] (defScope s_on_line) := ⟨rfl, rfl, rfl, by decide +kernel, rfl, by decide +kernel, by decide +kernel⟩
theorem d_on_line (G : Gl0 P K mg) (D : DefIn K mg "on_line" s_on_line) (c_squared : Callee P w K mg base T false 1 "squared" ["one"] f_squared) (c_plus : Callee P w K mg base T false 3 "plus" ["one", "other"] f_plus) (c_times : Callee P w K mg base T false 3 "times" ["one", "other"] f_times) (c_less : Callee P w K mg base T false 3 "less" ["one", "other"] f_less) (c_sign_of : Callee P w K mg base T false 1 "sign_of" ["one"] f_sign_of) (c_over : Callee P w K mg base T false 3 "over" ["one", "other"] f_over) (c_vector : Callee P w K mg base T false 2 "vector" ["one"] f_vector) (c_root_of : Callee P w K mg base T false 3 "root_of" ["part"] f_root_of) (c_scaled : Callee P w K mg base T false 4 "scaled" ["one", "part"] f_scaled) (c_away : Callee P w K mg base T false 5 "away" ["one", "other"] f_away) (c_moved : Callee P w K mg base T false 5 "moved" ["one", "other"] f_moved) : Callee P w K mg base T false 6 "on_line" ["line", "square"] f_on_line :=
  callee_of (gd := false) (k := 5) D sc_on_line rfl rfl (fun _ _ _ _ _ _ us hl => match us, hl with | [_, _], _ => rfl) fun f cdv A outer s H E hg hr => pxs_cons (px_asg (px_var 0) (pxg_tup rfl (pxgs_cons (pxg_name 2 sc_on_line.nd) (pxgs_cons (pxg_name 3 sc_on_line.nd) (pxgs_cons (pxg_name 4 sc_on_line.nd) (pxgs_nil)))) (gsl_cons (gsl_cons (gsl_cons (gsl_nil)))))) (pxs_cons (px_set 5 sc_on_line.nd (px_fn c_plus hr (by decide) (fun z => nomatch z) (pxa_cons (px_fn c_squared hr (by decide) (fun z => nomatch z) (pxa_cons (px_var 2) (pxa_nil))) (pxa_cons (px_fn c_squared hr (by decide) (fun z => nomatch z) (pxa_cons (px_var 3) (pxa_nil))) (pxa_nil))))) (pxs_cons (px_set 6 sc_on_line.nd (px_fn c_less hr (by decide) (fun z => nomatch z) (pxa_cons (px_fn c_times hr (by decide) (fun z => nomatch z) (pxa_cons (px_var 1) (pxa_cons (px_var 5) (pxa_nil)))) (pxa_cons (px_fn c_squared hr (by decide) (fun z => nomatch z) (pxa_cons (px_var 4) (pxa_nil))) (pxa_nil))))) (pxs_cons (px_if (pxt_lt (px_fn c_sign_of hr (by decide) (fun z => nomatch z) (pxa_cons (px_var 6) (pxa_nil))) (px_int)) (pxs_one (px_ret (px_lst (pxa_nil)))) (pxs_nil)) (pxs_cons (px_set 7 sc_on_line.nd (px_tup (pxa_cons (px_fn c_over hr (by decide) (fun z => nomatch z) (pxa_cons (px_fn c_times hr (by decide) (fun z => nomatch z) (pxa_cons (px_var 2) (pxa_cons (px_tup (pxa_cons (px_neg (px_ix (px_var 4) (px_int))) (pxa_cons (px_ix (px_var 4) (px_int)) (pxa_nil)))) (pxa_nil)))) (pxa_cons (px_var 5) (pxa_nil)))) (pxa_cons (px_fn c_over hr (by decide) (fun z => nomatch z) (pxa_cons (px_fn c_times hr (by decide) (fun z => nomatch z) (pxa_cons (px_var 3) (pxa_cons (px_tup (pxa_cons (px_neg (px_ix (px_var 4) (px_int))) (pxa_cons (px_ix (px_var 4) (px_int)) (pxa_nil)))) (pxa_nil)))) (pxa_cons (px_var 5) (pxa_nil)))) (pxa_nil))))) (pxs_cons (px_if (pxt_eq hr (px_fn c_sign_of hr (by decide) (fun z => nomatch z) (pxa_cons (px_var 6) (pxa_nil))) (px_int)) (pxs_one (px_ret (px_lst (pxa_cons (px_fn c_vector hr (by decide) (fun z => nomatch z) (pxa_cons (px_var 7) (pxa_nil))) (pxa_nil))))) (pxs_nil)) (pxs_cons (px_set 8 sc_on_line.nd (px_fn c_root_of hr (by decide) (fun z => nomatch z) (pxa_cons (px_var 6) (pxa_nil)))) (pxs_cons (px_set 9 sc_on_line.nd (px_tup (pxa_cons (px_fn c_scaled hr (by decide) (fun z => nomatch z) (pxa_cons (px_var 8) (pxa_cons (px_fn c_over hr (by decide) (fun z => nomatch z) (pxa_cons (px_tup (pxa_cons (px_neg (px_ix (px_var 3) (px_int))) (pxa_cons (px_ix (px_var 3) (px_int)) (pxa_nil)))) (pxa_cons (px_var 5) (pxa_nil)))) (pxa_nil)))) (pxa_cons (px_fn c_scaled hr (by decide) (fun z => nomatch z) (pxa_cons (px_var 8) (pxa_cons (px_fn c_over hr (by decide) (fun z => nomatch z) (pxa_cons (px_var 2) (pxa_cons (px_var 5) (pxa_nil)))) (pxa_nil)))) (pxa_nil))))) (pxs_one (px_ret (px_lst (pxa_cons (px_fn c_moved hr (by decide) (fun z => nomatch z) (pxa_cons (px_fn c_vector hr (by decide) (fun z => nomatch z) (pxa_cons (px_var 7) (pxa_nil))) (pxa_cons (px_var 9) (pxa_nil)))) (pxa_cons (px_fn c_away hr (by decide) (fun z => nomatch z) (pxa_cons (px_fn c_vector hr (by decide) (fun z => nomatch z) (pxa_cons (px_var 7) (pxa_nil))) (pxa_cons (px_var 9) (pxa_nil)))) (pxa_nil)))))))))))))
abbrev s_line_through : Stmt := top 52
theorem sc_line_through : FnScope ["one", "other", "first", "second"] ["one", "other"] (defScope s_line_through) := ⟨rfl, rfl, rfl, by decide +kernel, rfl, by decide +kernel, by decide +kernel⟩
theorem d_line_through (G : Gl0 P K mg) (D : DefIn K mg "line_through" s_line_through) (c_less : Callee P w K mg base T false 3 "less" ["one", "other"] f_less) (c_times : Callee P w K mg base T false 3 "times" ["one", "other"] f_times) (c_plus : Callee P w K mg base T false 3 "plus" ["one", "other"] f_plus) : Callee P w K mg base T false 4 "line_through" ["one", "other"] f_line_through :=
  callee_of (gd := false) (k := 3) D sc_line_through rfl rfl (fun _ _ _ _ _ _ us hl => match us, hl with | [_, _], _ => rfl) fun f cdv A outer s H E hg hr => pxs_cons (px_par 2 3 rfl sc_line_through.nd (by decide) (pxa_cons (px_fn c_less hr (by decide) (fun z => nomatch z) (pxa_cons (px_ix (px_var 0) (px_int)) (pxa_cons (px_ix (px_var 1) (px_int)) (pxa_nil)))) (pxa_cons (px_fn c_less hr (by decide) (fun z => nomatch z) (pxa_cons (px_ix (px_var 1) (px_int)) (pxa_cons (px_ix (px_var 0) (px_int)) (pxa_nil)))) (pxa_nil)))) (pxs_one (px_ret (px_tup (pxa_cons (px_var 2) (pxa_cons (px_var 3) (pxa_cons (px_fn c_less hr (by decide) (fun z => nomatch z) (pxa_cons (px_tup (pxa_cons (px_int) (pxa_cons (px_int) (pxa_nil)))) (pxa_cons (px_fn c_plus hr (by decide) (fun z => nomatch z) (pxa_cons (px_fn c_times hr (by decide) (fun z => nomatch z) (pxa_cons (px_var 2) (pxa_cons (px_ix (px_var 0) (px_int)) (pxa_nil)))) (pxa_cons (px_fn c_times hr (by decide) (fun z => nomatch z) (pxa_cons (px_var 3) (pxa_cons (px_ix (px_var 0) (px_int)) (pxa_nil)))) (pxa_nil)))) (pxa_nil)))) (pxa_nil)))))))
abbrev s_on_circles : Stmt := top 53
theorem sc_on_circles : FnScope ["square", "point", "its", "last"] ["square", "point", "its"] (defScope s_on_circles) := ⟨rfl, rfl, rfl, by decide +kernel, rfl, by decide +kernel, by decide +kernel⟩
theorem d_on_circles (G : Gl0 P K mg) (D : DefIn K mg "on_circles" s_on_circles) (c_square_of : Callee P w K mg base T false 4 "square_of" ["one"] f_square_of) (c_plus : Callee P w K mg base T false 3 "plus" ["one", "other"] f_plus) (c_less : Callee P w K mg base T false 3 "less" ["one", "other"] f_less) (c_on_line : Callee P w K mg base T false 6 "on_line" ["line", "square"] f_on_line) : Callee P w K mg base T false 7 "on_circles" ["square", "point", "its"] f_on_circles :=
  callee_of (gd := false) (k := 6) D sc_on_circles rfl rfl (fun _ _ _ _ _ _ us hl => match us, hl with | [_, _, _], _ => rfl) fun f cdv A outer s H E hg hr => pxs_cons (px_set 3 sc_on_circles.nd (px_fn c_less hr (by decide) (fun z => nomatch z) (pxa_cons (px_var 2) (pxa_cons (px_fn c_plus hr (by decide) (fun z => nomatch z) (pxa_cons (px_var 0) (pxa_cons (px_fn c_square_of hr (by decide) (fun z => nomatch z) (pxa_cons (px_var 1) (pxa_nil))) (pxa_nil)))) (pxa_nil))))) (pxs_one (px_ret (px_fn c_on_line hr (by decide) (fun z => nomatch z) (pxa_cons (px_tup (pxa_cons (px_fn c_plus hr (by decide) (fun z => nomatch z) (pxa_cons (px_ix (px_var 1) (px_int)) (pxa_cons (px_ix (px_var 1) (px_int)) (pxa_nil)))) (pxa_cons (px_fn c_plus hr (by decide) (fun z => nomatch z) (pxa_cons (px_ix (px_var 1) (px_int)) (pxa_cons (px_ix (px_var 1) (px_int)) (pxa_nil)))) (pxa_cons (px_var 3) (pxa_nil))))) (pxa_cons (px_var 0) (pxa_nil))))))
abbrev s_look_at_square : Stmt := top 56
theorem sc_look_at_square : FnScope ["value"] ["value"] (defScope s_look_at_square) := ⟨rfl, rfl, rfl, by decide +kernel, rfl, by decide +kernel, by decide +kernel⟩
theorem d_look_at_square (G : Gl0 P K mg) (D : DefIn K mg "look_at_square" s_look_at_square) (c_is_fraction : Callee P w K mg base T false 3 "is_fraction" ["value"] f_is_fraction) : Callee P w K mg base T false 4 "look_at_square" ["value"] f_look_at_square :=
  callee_of (gd := false) (k := 3) D sc_look_at_square rfl rfl (fun _ _ _ _ _ _ us hl => match us, hl with | [_], _ => rfl) fun f cdv A outer s H E hg hr => pxs_one (px_if (PXW.t (pxw_or (pxt_not (pxt_truth (px_fn c_is_fraction hr (by decide) (fun z => nomatch z) (pxa_cons (px_var 0) (pxa_nil))))) (pxw_or1 (pxt_lt (px_ix (px_var 0) (px_int)) (px_int))))) (pxs_one (px_raise rfl G.ex_BadFraction hr (px_var 0))) (pxs_nil))
abbrev s_line_meets_circle : Stmt := top 54
theorem sc_line_meets_circle : FnScope ["one", "other", "square", "spot"] ["one", "other", "square"] (defScope s_line_meets_circle) := ⟨rfl, rfl, rfl, by decide +kernel, rfl, by decide +kernel, by decide +kernel⟩
theorem d_line_meets_circle (G : Gl0 P K mg) (D : DefIn K mg "line_meets_circle" s_line_meets_circle) (c_look_at_point : Callee P w K mg base T false 5 "look_at_point" ["value"] f_look_at_point) (c_look_at_square : Callee P w K mg base T false 4 "look_at_square" ["value"] f_look_at_square) (c_line_through : Callee P w K mg base T false 4 "line_through" ["one", "other"] f_line_through) (c_on_line : Callee P w K mg base T false 6 "on_line" ["line", "square"] f_on_line) (c_told_vector : Callee P w K mg base T false 5 "told_vector" ["one"] f_told_vector) : Callee P w K mg base T false 7 "line_meets_circle" ["one", "other", "square"] f_line_meets_circle :=
  callee_of (gd := false) (k := 6) D sc_line_meets_circle rfl rfl (fun _ _ _ _ _ _ us hl => match us, hl with | [_, _, _], _ => rfl) fun f cdv A outer s H E hg hr => pxs_cons (px_expr (px_fn c_look_at_point hr (by decide) (fun z => nomatch z) (pxa_cons (px_var 0) (pxa_nil)))) (pxs_cons (px_expr (px_fn c_look_at_point hr (by decide) (fun z => nomatch z) (pxa_cons (px_var 1) (pxa_nil)))) (pxs_cons (px_if (pxt_eq hr (px_var 0) (px_var 1)) (pxs_one (px_raise rfl G.ex_Unlike hr (px_var 1))) (pxs_nil)) (pxs_cons (px_expr (px_fn c_look_at_square hr (by decide) (fun z => nomatch z) (pxa_cons (px_var 2) (pxa_nil)))) (pxs_one (px_ret (pb_tuple G.b_tuple (pxa_cons (px_comp (own := [("spot", 3)]) rfl sc_line_meets_circle.nd (pxi_lst (px_fn c_on_line hr (by decide) (fun z => nomatch z) (pxa_cons (px_fn c_line_through hr (by decide) (fun z => nomatch z) (pxa_cons (px_var 0) (pxa_cons (px_var 1) (pxa_nil)))) (pxa_cons (px_var 2) (pxa_nil))))) (blkOk_by (N := ["one", "other", "square", "spot"]) (sc := defScope s_line_meets_circle) (by decide +kernel)) (fun _ _ _ _ _ => pxg_name 3 sc_line_meets_circle.nd) (fun _ _ _ _ _ => pxts_nil) (fun _ _ _ _ _ => px_fn c_told_vector hr (by decide) (fun z => nomatch z) (pxa_cons (px_var 3) (pxa_nil))) (by decide)) (pxa_nil))))))))
abbrev s_circles_meet : Stmt := top 55
theorem sc_circles_meet : FnScope ["square", "point", "its", "spot"] ["square", "point", "its"] (defScope s_circles_meet) := ⟨rfl, rfl, rfl, by decide +kernel, rfl, by decide +kernel, by decide +kernel⟩
theorem d_circles_meet (G : Gl0 P K mg) (D : DefIn K mg "circles_meet" s_circles_meet) (c_look_at_square : Callee P w K mg base T false 4 "look_at_square" ["value"] f_look_at_square) (c_look_at_point : Callee P w K mg base T false 5 "look_at_point" ["value"] f_look_at_point) (c_on_circles : Callee P w K mg base T false 7 "on_circles" ["square", "point", "its"] f_on_circles) (c_told_vector : Callee P w K mg base T false 5 "told_vector" ["one"] f_told_vector) : Callee P w K mg base T false 8 "circles_meet" ["square", "point", "its"] f_circles_meet :=
  callee_of (gd := false) (k := 7) D sc_circles_meet rfl rfl (fun _ _ _ _ _ _ us hl => match us, hl with | [_, _, _], _ => rfl) fun f cdv A outer s H E hg hr => pxs_cons (px_expr (px_fn c_look_at_square hr (by decide) (fun z => nomatch z) (pxa_cons (px_var 0) (pxa_nil)))) (pxs_cons (px_expr (px_fn c_look_at_point hr (by decide) (fun z => nomatch z) (pxa_cons (px_var 1) (pxa_nil)))) (pxs_cons (px_expr (px_fn c_look_at_square hr (by decide) (fun z => nomatch z) (pxa_cons (px_var 2) (pxa_nil)))) (pxs_cons (px_if (pxt_eq hr (px_var 1) (px_cst G.c_NOWHERE)) (pxs_cons (px_if (pxt_ne hr (px_var 0) (px_var 2)) (pxs_one (px_ret (px_tup (pxa_nil)))) (pxs_nil)) (pxs_one (px_ret (px_ifExp (pxt_ne hr (px_ix (px_var 0) (px_int)) (px_int)) (px_non) (px_tup (pxa_cons (px_cst G.c_NOWHERE) (pxa_nil))))))) (pxs_nil)) (pxs_one (px_ret (pb_tuple G.b_tuple (pxa_cons (px_comp (own := [("spot", 3)]) rfl sc_circles_meet.nd (pxi_lst (px_fn c_on_circles hr (by decide) (fun z => nomatch z) (pxa_cons (px_var 0) (pxa_cons (px_var 1) (pxa_cons (px_var 2) (pxa_nil)))))) (blkOk_by (N := ["square", "point", "its", "spot"]) (sc := defScope s_circles_meet) (by decide +kernel)) (fun _ _ _ _ _ => pxg_name 3 sc_circles_meet.nd) (fun _ _ _ _ _ => pxts_nil) (fun _ _ _ _ _ => px_fn c_told_vector hr (by decide) (fun z => nomatch z) (pxa_cons (px_var 3) (pxa_nil))) (by decide)) (pxa_nil))))))))
abbrev s_law_pot : Stmt := top 58
theorem sc_law_pot : FnScope ["script", "place", "cell", "own", "small"] ["script", "place"] (defScope s_law_pot) := ⟨rfl, rfl, rfl, by decide +kernel, rfl, by decide +kernel, by decide +kernel⟩
theorem d_law_pot (G : Gl0 P K mg) (D : DefIn K mg "_law_pot" s_law_pot) : Callee P w K mg base T false 1 "_law_pot" ["script", "place"] f_law_pot :=
  callee_of (gd := false) (k := 0) D sc_law_pot rfl rfl (fun _ _ _ _ _ _ us hl => match us, hl with | [_, _], _ => rfl) fun f cdv A outer s H E hg hr => pxs_cons (px_set 2 sc_law_pot.nd (px_ifExp (pxt_lt (px_var 1) (pb_len G.b_len (pxa_cons (px_var 0) (pxa_nil)))) (px_ix (px_var 0) (px_var 1)) (px_add (px_add (px_mod (pb_int G.b_int (pxa_cons (pb_sum rfl G.b_sum (pxa_cons (px_cut (px_var 0) (pxo_none) (pxo_some (px_int))) (pxa_nil))) (pxa_nil))) (px_int)) (px_mul (px_int) (px_var 1))) (px_int)))) (pxs_cons (px_set 3 sc_law_pot.nd (px_mul (px_mod (pb_int G.b_int (pxa_cons (pb_abs G.b_abs (pxa_cons (px_var 2) (pxa_nil))) (pxa_nil))) (px_pow (px_pow (px_int) (px_int)) (px_int))) (pb_int G.b_int (pxa_cons (px_ge (pb_abs G.b_abs (pxa_cons (px_var 2) (pxa_nil))) (px_pow (px_int) (px_int))) (pxa_nil))))) (pxs_cons (px_set 4 sc_law_pot.nd (px_mod (pb_int G.b_int (pxa_cons (px_var 2) (pxa_nil))) (px_int))) (pxs_one (px_ret (px_new (pxa_cons (px_var 3) (pxa_cons (px_mod (pb_int G.b_int (pxa_cons (px_add (px_add (px_mul (px_var 4) (px_int)) (px_mul (px_mul (px_int) (px_var 1)) (px_var 1))) (px_int)) (pxa_nil))) (px_int)) (pxa_cons (px_int) (pxa_nil)))))))))
abbrev s_law_take : Stmt := top 59
theorem sc_law_take : FnScope ["pot", "upto", "prime", "blend", "digit"] ["pot", "upto"] (defScope s_law_take) := ⟨rfl, rfl, rfl, by decide +kernel, rfl, by decide +kernel, by decide +kernel⟩
theorem d_law_take (G : Gl0 P K mg) (D : DefIn K mg "_law_take" s_law_take) : Callee P w K mg base T false 1 "_law_take" ["pot", "upto"] f_law_take :=
  callee_of (gd := false) (k := 0) D sc_law_take rfl rfl (fun _ _ _ _ _ _ us hl => match us, hl with | [_, _], _ => rfl) fun f cdv A outer s H E hg hr => pxs_cons (px_if (pxt_gt (px_ix (px_var 0) (px_int)) (px_int)) (pxs_cons (px_set 4 sc_law_take.nd (px_mod (pb_int G.b_int (pxa_cons (px_ix (px_var 0) (px_int)) (pxa_nil))) (px_var 1))) (pxs_cons (px_sub_set (px_div (px_ix (px_var 0) (px_int)) (px_var 1)) (px_var 0) (px_int)) (pxs_one (px_ret (px_var 4))))) (pxs_nil)) (pxs_cons (px_sub_set (px_add (px_ix (px_var 0) (px_int)) (px_int)) (px_var 0) (px_int)) (pxs_cons (px_set 2 sc_law_take.nd (px_ix (px_lst (pxa_cons (px_int) (pxa_cons (px_int) (pxa_cons (px_int) (pxa_cons (px_int) (pxa_cons (px_int) (pxa_nil))))))) (px_mod (pb_int G.b_int (pxa_cons (px_ix (px_var 0) (px_int)) (pxa_nil))) (px_int)))) (pxs_cons (px_set 3 sc_law_take.nd (px_mod (pb_int G.b_int (pxa_cons (px_pow (pb_int G.b_int (pxa_cons (px_add (px_add (px_ix (px_var 0) (px_int)) (px_mul (px_mul (px_int) (px_ix (px_var 0) (px_int))) (px_ix (px_var 0) (px_int)))) (px_int)) (pxa_nil))) (px_int)) (pxa_nil))) (px_var 2))) (pxs_cons (px_set 3 sc_law_take.nd (px_mod (pb_int G.b_int (pxa_cons (px_mul (px_var 3) (px_add (px_mod (pb_int G.b_int (pxa_cons (px_var 3) (pxa_nil))) (px_int)) (px_mul (px_int) (px_ix (px_var 0) (px_int))))) (pxa_nil))) (px_int))) (pxs_one (px_ret (px_mod (pb_int G.b_int (pxa_cons (px_div (px_var 3) (px_int)) (pxa_nil))) (px_var 1))))))))
abbrev s_law_of : Stmt := top 60
theorem sc_law_of : FnScope ["pot", "some"] ["pot", "some"] (defScope s_law_of) := ⟨rfl, rfl, rfl, by decide +kernel, rfl, by decide +kernel, by decide +kernel⟩
theorem d_law_of (G : Gl0 P K mg) (D : DefIn K mg "_law_of" s_law_of) (c_law_take : Callee P w K mg base T false 1 "_law_take" ["pot", "upto"] f_law_take) : Callee P w K mg base T false 2 "_law_of" ["pot", "some"] f_law_of :=
  callee_of (gd := false) (k := 1) D sc_law_of rfl rfl (fun _ _ _ _ _ _ us hl => match us, hl with | [_, _], _ => rfl) fun f cdv A outer s H E hg hr => pxs_one (px_ret (px_ix (px_var 1) (px_fn c_law_take hr (by decide) (fun z => nomatch z) (pxa_cons (px_var 0) (pxa_cons (pb_len G.b_len (pxa_cons (px_var 1) (pxa_nil))) (pxa_nil))))))
abbrev s_law_cells : Stmt := top 61
theorem sc_law_cells : FnScope ["script", "most"] ["script", "most"] (defScope s_law_cells) := ⟨rfl, rfl, rfl, by decide +kernel, rfl, by decide +kernel, by decide +kernel⟩
theorem d_law_cells (G : Gl0 P K mg) (D : DefIn K mg "_law_cells" s_law_cells) : Callee P w K mg base T false 1 "_law_cells" ["script", "most"] f_law_cells :=
  callee_of (gd := false) (k := 0) D sc_law_cells rfl rfl (fun _ _ _ _ _ _ us hl => match us, hl with | [_, _], _ => rfl) fun f cdv A outer s H E hg hr => pxs_one (px_ret (px_listRg rfl G.b_list (pxr_1 G.b_range (pb_max rfl G.b_max (pxa_cons (px_int) (pxa_cons (pb_min rfl G.b_min (pxa_cons (px_var 1) (pxa_cons (pb_len G.b_len (pxa_cons (px_var 0) (pxa_nil))) (pxa_nil)))) (pxa_nil)))))))
abbrev s_law_gcd : Stmt := top 62
theorem sc_law_gcd : FnScope ["one", "other"] ["one", "other"] (defScope s_law_gcd) := ⟨rfl, rfl, rfl, by decide +kernel, rfl, by decide +kernel, by decide +kernel⟩
theorem d_law_gcd (G : Gl0 P K mg) (D : DefIn K mg "_law_gcd" s_law_gcd) : Callee P w K mg base T false 1 "_law_gcd" ["one", "other"] f_law_gcd :=
  callee_of (gd := false) (k := 0) D sc_law_gcd rfl rfl (fun _ _ _ _ _ _ us hl => match us, hl with | [_, _], _ => rfl) fun f cdv A outer s H E hg hr => pxs_cons (px_par 0 1 rfl sc_law_gcd.nd (by decide) (pxa_cons (pb_abs G.b_abs (pxa_cons (px_var 0) (pxa_nil))) (pxa_cons (pb_abs G.b_abs (pxa_cons (px_var 1) (pxa_nil))) (pxa_nil)))) (pxs_cons (px_while (passes_of rfl) (pxt_ne hr (px_var 1) (px_int)) (pxs_one (px_par 0 1 rfl sc_law_gcd.nd (by decide) (pxa_cons (px_var 1) (pxa_cons (px_mod (px_var 0) (px_var 1)) (pxa_nil)))))) (pxs_one (px_ret (px_var 0))))
abbrev s_law_rate : Stmt := top 63
theorem sc_law_rate : FnScope ["top", "bottom", "part"] ["top", "bottom"] (defScope s_law_rate) := ⟨rfl, rfl, rfl, by decide +kernel, rfl, by decide +kernel, by decide +kernel⟩
theorem d_law_rate (G : Gl0 P K mg) (D : DefIn K mg "_law_rate" s_law_rate) (c_law_gcd : Callee P w K mg base T false 1 "_law_gcd" ["one", "other"] f_law_gcd) : Callee P w K mg base T false 2 "_law_rate" ["top", "bottom"] f_law_rate :=
  callee_of (gd := false) (k := 1) D sc_law_rate rfl rfl (fun _ _ _ _ _ _ us hl => match us, hl with | [_, _], _ => rfl) fun f cdv A outer s H E hg hr => pxs_cons (px_set 2 sc_law_rate.nd (px_mul (px_fn c_law_gcd hr (by decide) (fun z => nomatch z) (pxa_cons (px_var 0) (pxa_cons (px_var 1) (pxa_nil)))) (px_ifExp (pxt_gt (px_var 1) (px_int)) (px_int) (px_neg (px_int))))) (pxs_one (px_ret (px_tup (pxa_cons (px_div (px_var 0) (px_var 2)) (pxa_cons (px_div (px_var 1) (px_var 2)) (pxa_nil))))))
abbrev s_law_plus : Stmt := top 64
theorem sc_law_plus : FnScope ["one", "other"] ["one", "other"] (defScope s_law_plus) := ⟨rfl, rfl, rfl, by decide +kernel, rfl, by decide +kernel, by decide +kernel⟩
theorem d_law_plus (G : Gl0 P K mg) (D : DefIn K mg "_law_plus" s_law_plus) (c_law_rate : Callee P w K mg base T false 2 "_law_rate" ["top", "bottom"] f_law_rate) : Callee P w K mg base T false 3 "_law_plus" ["one", "other"] f_law_plus :=
  callee_of (gd := false) (k := 2) D sc_law_plus rfl rfl (fun _ _ _ _ _ _ us hl => match us, hl with | [_, _], _ => rfl) fun f cdv A outer s H E hg hr => pxs_one (px_ret (px_fn c_law_rate hr (by decide) (fun z => nomatch z) (pxa_cons (px_add (px_mul (px_ix (px_var 0) (px_int)) (px_ix (px_var 1) (px_int))) (px_mul (px_ix (px_var 1) (px_int)) (px_ix (px_var 0) (px_int)))) (pxa_cons (px_mul (px_ix (px_var 0) (px_int)) (px_ix (px_var 1) (px_int))) (pxa_nil)))))
abbrev s_law_is_below : Stmt := top 65
theorem sc_law_is_below : FnScope ["one", "other"] ["one", "other"] (defScope s_law_is_below) := ⟨rfl, rfl, rfl, by decide +kernel, rfl, by decide +kernel, by decide +kernel⟩
theorem d_law_is_below (G : Gl0 P K mg) (D : DefIn K mg "_law_is_below" s_law_is_below) : Callee P w K mg base T false 1 "_law_is_below" ["one", "other"] f_law_is_below :=
  callee_of (gd := false) (k := 0) D sc_law_is_below rfl rfl (fun _ _ _ _ _ _ us hl => match us, hl with | [_, _], _ => rfl) fun f cdv A outer s H E hg hr => pxs_one (px_ret (px_lt (px_mul (px_ix (px_var 0) (px_int)) (px_ix (px_var 1) (px_int))) (px_mul (px_ix (px_var 1) (px_int)) (px_ix (px_var 0) (px_int)))))
abbrev s_law_root_of : Stmt := top 66
theorem sc_law_root_of : FnScope ["number", "low", "high", "middle"] ["number"] (defScope s_law_root_of) := ⟨rfl, rfl, rfl, by decide +kernel, rfl, by decide +kernel, by decide +kernel⟩
theorem d_law_root_of (G : Gl0 P K mg) (D : DefIn K mg "_law_root_of" s_law_root_of) : Callee P w K mg base T false 1 "_law_root_of" ["number"] f_law_root_of :=
  callee_of (gd := false) (k := 0) D sc_law_root_of rfl rfl (fun _ _ _ _ _ _ us hl => match us, hl with | [_], _ => rfl) fun f cdv A outer s H E hg hr => pxs_cons (px_par 1 2 rfl sc_law_root_of.nd (by decide) (pxa_cons (px_int) (pxa_cons (px_add (px_var 0) (px_int)) (pxa_nil)))) (pxs_cons (px_while (passes_of rfl) (pxt_gt (px_sub (px_var 2) (px_var 1)) (px_int)) (pxs_cons (px_set 3 sc_law_root_of.nd (px_div (px_add (px_var 1) (px_var 2)) (px_int))) (pxs_one (px_asg (px_ifExp (pxt_le (px_mul (px_var 3) (px_var 3)) (px_var 0)) (px_tup (pxa_cons (px_var 3) (pxa_cons (px_var 2) (pxa_nil)))) (px_tup (pxa_cons (px_var 1) (pxa_cons (px_var 3) (pxa_nil))))) (pxg_tup rfl (pxgs_cons (pxg_name 1 sc_law_root_of.nd) (pxgs_cons (pxg_name 2 sc_law_root_of.nd) (pxgs_nil))) (gsl_cons (gsl_cons (gsl_nil)))))))) (pxs_one (px_ret (px_var 1))))
abbrev s_law_el : Stmt := top 67
theorem sc_law_el : FnScope ["number", "first", "second", "last", "side"] ["number"] (defScope s_law_el) := ⟨rfl, rfl, rfl, by decide +kernel, rfl, by decide +kernel, by decide +kernel⟩
theorem d_law_el (G : Gl0 P K mg) (D : DefIn K mg "_law_el" s_law_el) : Callee P w K mg base T false 1 "_law_el" ["number"] f_law_el :=
  callee_of (gd := false) (k := 0) D sc_law_el rfl rfl (fun _ _ _ _ _ _ us hl => match us, hl with | [_], _ => rfl) fun f cdv A outer s H E hg hr => pxs_cons (px_if (pxt_eq hr (pb_len G.b_len (pxa_cons (px_var 0) (pxa_nil))) (px_int)) (pxs_one (px_ret (px_tup (pxa_cons (px_ix (px_var 0) (px_int)) (pxa_cons (px_int) (pxa_cons (px_ix (px_var 0) (px_int)) (pxa_cons (px_int) (pxa_nil)))))))) (pxs_nil)) (pxs_cons (px_asg (px_var 0) (pxg_tup rfl (pxgs_cons (pxg_name 1 sc_law_el.nd) (pxgs_cons (pxg_name 2 sc_law_el.nd) (pxgs_cons (pxg_name 3 sc_law_el.nd) (pxgs_cons (pxg_name 4 sc_law_el.nd) (pxgs_nil))))) (gsl_cons (gsl_cons (gsl_cons (gsl_cons (gsl_nil))))))) (pxs_one (px_ret (px_tup (pxa_cons (px_neg (px_var 2)) (pxa_cons (px_var 4) (pxa_cons (px_mul (px_int) (px_var 1)) (pxa_cons (px_sub (px_mul (px_var 2) (px_var 2)) (px_mul (px_mul (px_int) (px_var 1)) (px_var 3))) (pxa_nil)))))))))
abbrev s_law_told : Stmt := top 68
theorem sc_law_told : FnScope ["one", "p", "q", "r", "d", "root", "first", "second", "last", "part"] ["one"] (defScope s_law_told) := ⟨rfl, rfl, rfl, by decide +kernel, rfl, by decide +kernel, by decide +kernel⟩
theorem d_law_told (G : Gl0 P K mg) (D : DefIn K mg "_law_told" s_law_told) (c_law_root_of : Callee P w K mg base T false 1 "_law_root_of" ["number"] f_law_root_of) (c_law_rate : Callee P w K mg base T false 2 "_law_rate" ["top", "bottom"] f_law_rate) (c_law_gcd : Callee P w K mg base T false 1 "_law_gcd" ["one", "other"] f_law_gcd) : Callee P w K mg base T false 3 "_law_told" ["one"] f_law_told :=
  callee_of (gd := false) (k := 2) D sc_law_told rfl rfl (fun _ _ _ _ _ _ us hl => match us, hl with | [_], _ => rfl) fun f cdv A outer s H E hg hr => pxs_cons (px_asg (px_var 0) (pxg_tup rfl (pxgs_cons (pxg_name 1 sc_law_told.nd) (pxgs_cons (pxg_name 2 sc_law_told.nd) (pxgs_cons (pxg_name 3 sc_law_told.nd) (pxgs_cons (pxg_name 4 sc_law_told.nd) (pxgs_nil))))) (gsl_cons (gsl_cons (gsl_cons (gsl_cons (gsl_nil))))))) (pxs_cons (px_set 5 sc_law_told.nd (px_fn c_law_root_of hr (by decide) (fun z => nomatch z) (pxa_cons (px_var 4) (pxa_nil)))) (pxs_cons (px_if (PXW.t (pxw_or (pxt_eq hr (px_var 2) (px_int)) (pxw_or1 (pxt_eq hr (px_mul (px_var 5) (px_var 5)) (px_var 4))))) (pxs_one (px_ret (px_fn c_law_rate hr (by decide) (fun z => nomatch z) (pxa_cons (px_add (px_var 1) (px_mul (px_var 2) (px_ifExp (pxt_ne hr (px_var 2) (px_int)) (px_var 5) (px_int)))) (pxa_cons (px_var 3) (pxa_nil)))))) (pxs_nil)) (pxs_cons (px_par3 6 7 8 rfl sc_law_told.nd (by decide) (by decide) (by decide) (pxa_cons (px_mul (px_var 3) (px_var 3)) (pxa_cons (px_mul (px_mul (px_neg (px_int)) (px_var 1)) (px_var 3)) (pxa_cons (px_sub (px_mul (px_var 1) (px_var 1)) (px_mul (px_mul (px_var 2) (px_var 2)) (px_var 4))) (pxa_nil))))) (pxs_cons (px_set 9 sc_law_told.nd (px_fn c_law_gcd hr (by decide) (fun z => nomatch z) (pxa_cons (px_fn c_law_gcd hr (by decide) (fun z => nomatch z) (pxa_cons (px_var 6) (pxa_cons (px_var 7) (pxa_nil)))) (pxa_cons (px_var 8) (pxa_nil))))) (pxs_one (px_ret (px_tup (pxa_cons (px_div (px_var 6) (px_var 9)) (pxa_cons (px_div (px_var 7) (px_var 9)) (pxa_cons (px_div (px_var 8) (px_var 9)) (pxa_cons (px_ifExp (pxt_eq hr (px_gt (px_var 2) (px_int)) (px_gt (px_var 3) (px_int))) (px_int) (px_neg (px_int))) (pxa_nil))))))))))))
abbrev s_law_brought : Stmt := top 69
theorem sc_law_brought : FnScope ["one", "d", "whole"] ["one", "d"] (defScope s_law_brought) := ⟨rfl, rfl, rfl, by decide +kernel, rfl, by decide +kernel, by decide +kernel⟩
theorem d_law_brought (G : Gl0 P K mg) (D : DefIn K mg "_law_brought" s_law_brought) (c_law_root_of : Callee P w K mg base T false 1 "_law_root_of" ["number"] f_law_root_of) : Callee P w K mg base T false 2 "_law_brought" ["one", "d"] f_law_brought :=
  callee_of (gd := false) (k := 1) D sc_law_brought rfl rfl (fun _ _ _ _ _ _ us hl => match us, hl with | [_, _], _ => rfl) fun f cdv A outer s H E hg hr => pxs_cons (px_if (pxt_in hr (px_ix (px_var 0) (px_int)) (px_tup (pxa_cons (px_int) (pxa_cons (px_var 1) (pxa_nil))))) (pxs_one (px_ret (px_tup (pxa_cons (px_ix (px_var 0) (px_int)) (pxa_cons (px_ix (px_var 0) (px_int)) (pxa_cons (px_ix (px_var 0) (px_int)) (pxa_cons (px_var 1) (pxa_nil)))))))) (pxs_nil)) (pxs_cons (px_set 2 sc_law_brought.nd (px_fn c_law_root_of hr (by decide) (fun z => nomatch z) (pxa_cons (px_mul (px_ix (px_var 0) (px_int)) (px_var 1)) (pxa_nil)))) (pxs_one (px_ret (px_tup (pxa_cons (px_mul (px_ix (px_var 0) (px_int)) (px_var 1)) (pxa_cons (px_mul (px_ix (px_var 0) (px_int)) (px_var 2)) (pxa_cons (px_mul (px_ix (px_var 0) (px_int)) (px_var 1)) (pxa_cons (px_var 1) (pxa_nil)))))))))
abbrev s_law_both : Stmt := top 70
theorem sc_law_both : FnScope ["one", "other", "d"] ["one", "other"] (defScope s_law_both) := ⟨rfl, rfl, rfl, by decide +kernel, rfl, by decide +kernel, by decide +kernel⟩
theorem d_law_both (G : Gl0 P K mg) (D : DefIn K mg "_law_both" s_law_both) (c_law_brought : Callee P w K mg base T false 2 "_law_brought" ["one", "d"] f_law_brought) : Callee P w K mg base T false 3 "_law_both" ["one", "other"] f_law_both :=
  callee_of (gd := false) (k := 2) D sc_law_both rfl rfl (fun _ _ _ _ _ _ us hl => match us, hl with | [_, _], _ => rfl) fun f cdv A outer s H E hg hr => pxs_cons (px_set 2 sc_law_both.nd (px_ifExp (pxt_ne hr (px_ix (px_var 0) (px_int)) (px_int)) (px_ix (px_var 0) (px_int)) (px_ix (px_var 1) (px_int)))) (pxs_one (px_ret (px_tup (pxa_cons (px_fn c_law_brought hr (by decide) (fun z => nomatch z) (pxa_cons (px_var 0) (pxa_cons (px_var 2) (pxa_nil)))) (pxa_cons (px_fn c_law_brought hr (by decide) (fun z => nomatch z) (pxa_cons (px_var 1) (pxa_cons (px_var 2) (pxa_nil)))) (pxa_nil))))))
abbrev s_law_tidy : Stmt := top 71
theorem sc_law_tidy : FnScope ["one", "part"] ["one"] (defScope s_law_tidy) := ⟨rfl, rfl, rfl, by decide +kernel, rfl, by decide +kernel, by decide +kernel⟩
theorem d_law_tidy (G : Gl0 P K mg) (D : DefIn K mg "_law_tidy" s_law_tidy) (c_law_gcd : Callee P w K mg base T false 1 "_law_gcd" ["one", "other"] f_law_gcd) : Callee P w K mg base T false 2 "_law_tidy" ["one"] f_law_tidy :=
  callee_of (gd := false) (k := 1) D sc_law_tidy rfl rfl (fun _ _ _ _ _ _ us hl => match us, hl with | [_], _ => rfl) fun f cdv A outer s H E hg hr => pxs_cons (px_set 1 sc_law_tidy.nd (px_mul (px_fn c_law_gcd hr (by decide) (fun z => nomatch z) (pxa_cons (px_fn c_law_gcd hr (by decide) (fun z => nomatch z) (pxa_cons (px_ix (px_var 0) (px_int)) (pxa_cons (px_ix (px_var 0) (px_int)) (pxa_nil)))) (pxa_cons (px_ix (px_var 0) (px_int)) (pxa_nil)))) (px_ifExp (pxt_gt (px_ix (px_var 0) (px_int)) (px_int)) (px_int) (px_neg (px_int))))) (pxs_one (px_ret (px_tup (pxa_cons (px_div (px_ix (px_var 0) (px_int)) (px_var 1)) (pxa_cons (px_div (px_ix (px_var 0) (px_int)) (px_var 1)) (pxa_cons (px_div (px_ix (px_var 0) (px_int)) (px_var 1)) (pxa_cons (px_ix (px_var 0) (px_int)) (pxa_nil))))))))
abbrev s_law_sum : Stmt := top 72
theorem sc_law_sum : FnScope ["one", "other", "mine", "its", "top", "root"] ["one", "other"] (defScope s_law_sum) := ⟨rfl, rfl, rfl, by decide +kernel, rfl, by decide +kernel, by decide +kernel⟩
theorem d_law_sum (G : Gl0 P K mg) (D : DefIn K mg "_law_sum" s_law_sum) (c_law_both : Callee P w K mg base T false 3 "_law_both" ["one", "other"] f_law_both) (c_law_tidy : Callee P w K mg base T false 2 "_law_tidy" ["one"] f_law_tidy) : Callee P w K mg base T false 4 "_law_sum" ["one", "other"] f_law_sum :=
  callee_of (gd := false) (k := 3) D sc_law_sum rfl rfl (fun _ _ _ _ _ _ us hl => match us, hl with | [_, _], _ => rfl) fun f cdv A outer s H E hg hr => pxs_cons (px_asg (px_fn c_law_both hr (by decide) (fun z => nomatch z) (pxa_cons (px_var 0) (pxa_cons (px_var 1) (pxa_nil)))) (pxg_tup rfl (pxgs_cons (pxg_name 2 sc_law_sum.nd) (pxgs_cons (pxg_name 3 sc_law_sum.nd) (pxgs_nil))) (gsl_cons (gsl_cons (gsl_nil))))) (pxs_cons (px_par 4 5 rfl sc_law_sum.nd (by decide) (pxa_cons (px_add (px_mul (px_ix (px_var 2) (px_int)) (px_ix (px_var 3) (px_int))) (px_mul (px_ix (px_var 3) (px_int)) (px_ix (px_var 2) (px_int)))) (pxa_cons (px_add (px_mul (px_ix (px_var 2) (px_int)) (px_ix (px_var 3) (px_int))) (px_mul (px_ix (px_var 3) (px_int)) (px_ix (px_var 2) (px_int)))) (pxa_nil)))) (pxs_one (px_ret (px_fn c_law_tidy hr (by decide) (fun z => nomatch z) (pxa_cons (px_tup (pxa_cons (px_var 4) (pxa_cons (px_var 5) (pxa_cons (px_mul (px_ix (px_var 2) (px_int)) (px_ix (px_var 3) (px_int))) (pxa_cons (px_ix (px_var 2) (px_int)) (pxa_nil)))))) (pxa_nil))))))
abbrev s_law_product : Stmt := top 73
theorem sc_law_product : FnScope ["one", "other", "mine", "its", "top"] ["one", "other"] (defScope s_law_product) := ⟨rfl, rfl, rfl, by decide +kernel, rfl, by decide +kernel, by decide +kernel⟩
theorem d_law_product (G : Gl0 P K mg) (D : DefIn K mg "_law_product" s_law_product) (c_law_both : Callee P w K mg base T false 3 "_law_both" ["one", "other"] f_law_both) (c_law_tidy : Callee P w K mg base T false 2 "_law_tidy" ["one"] f_law_tidy) : Callee P w K mg base T false 4 "_law_product" ["one", "other"] f_law_product :=
  callee_of (gd := false) (k := 3) D sc_law_product rfl rfl (fun _ _ _ _ _ _ us hl => match us, hl with | [_, _], _ => rfl) fun f cdv A outer s H E hg hr => pxs_cons (px_asg (px_fn c_law_both hr (by decide) (fun z => nomatch z) (pxa_cons (px_var 0) (pxa_cons (px_var 1) (pxa_nil)))) (pxg_tup rfl (pxgs_cons (pxg_name 2 sc_law_product.nd) (pxgs_cons (pxg_name 3 sc_law_product.nd) (pxgs_nil))) (gsl_cons (gsl_cons (gsl_nil))))) (pxs_cons (px_set 4 sc_law_product.nd (px_add (px_mul (px_ix (px_var 2) (px_int)) (px_ix (px_var 3) (px_int))) (px_mul (px_mul (px_ix (px_var 2) (px_int)) (px_ix (px_var 3) (px_int))) (px_ix (px_var 2) (px_int))))) (pxs_one (px_ret (px_fn c_law_tidy hr (by decide) (fun z => nomatch z) (pxa_cons (px_tup (pxa_cons (px_var 4) (pxa_cons (px_add (px_mul (px_ix (px_var 2) (px_int)) (px_ix (px_var 3) (px_int))) (px_mul (px_ix (px_var 2) (px_int)) (px_ix (px_var 3) (px_int)))) (pxa_cons (px_mul (px_ix (px_var 2) (px_int)) (px_ix (px_var 3) (px_int))) (pxa_cons (px_ix (px_var 2) (px_int)) (pxa_nil)))))) (pxa_nil))))))
abbrev s_law_sign : Stmt := top 74
theorem sc_law_sign : FnScope ["one", "p", "q", "first", "second", "far"] ["one"] (defScope s_law_sign) := ⟨rfl, rfl, rfl, by decide +kernel, rfl, by decide +kernel, by decide +kernel⟩
theorem d_law_sign (G : Gl0 P K mg) (D : DefIn K mg "_law_sign" s_law_sign) : Callee P w K mg base T false 1 "_law_sign" ["one"] f_law_sign :=
  callee_of (gd := false) (k := 0) D sc_law_sign rfl rfl (fun _ _ _ _ _ _ us hl => match us, hl with | [_], _ => rfl) fun f cdv A outer s H E hg hr => pxs_cons (px_par 1 2 rfl sc_law_sign.nd (by decide) (pxa_cons (px_mul (px_ix (px_var 0) (px_int)) (px_ifExp (pxt_gt (px_ix (px_var 0) (px_int)) (px_int)) (px_int) (px_neg (px_int)))) (pxa_cons (px_mul (px_ix (px_var 0) (px_int)) (px_ifExp (pxt_gt (px_ix (px_var 0) (px_int)) (px_int)) (px_int) (px_neg (px_int)))) (pxa_nil)))) (pxs_cons (px_par 3 4 rfl sc_law_sign.nd (by decide) (pxa_cons (px_subB (px_gt (px_var 1) (px_int)) (px_lt (px_var 1) (px_int))) (pxa_cons (px_mul (px_subB (px_gt (px_var 2) (px_int)) (px_lt (px_var 2) (px_int))) (pb_int G.b_int (pxa_cons (px_gt (px_ix (px_var 0) (px_int)) (px_int)) (pxa_nil)))) (pxa_nil)))) (pxs_cons (px_if (PXW.t (pxw_or (pxt_eq hr (px_var 3) (px_var 4)) (pxw_or (pxt_eq hr (px_var 4) (px_int)) (pxw_or1 (pxt_eq hr (px_var 3) (px_int)))))) (pxs_one (px_ret (px_ifExp (pxt_eq hr (px_var 4) (px_int)) (px_var 3) (px_var 4)))) (pxs_nil)) (pxs_cons (px_set 5 sc_law_sign.nd (px_sub (px_mul (px_var 1) (px_var 1)) (px_mul (px_mul (px_var 2) (px_var 2)) (px_ix (px_var 0) (px_int))))) (pxs_one (px_ret (px_mul (px_var 3) (px_subB (px_gt (px_var 5) (px_int)) (px_lt (px_var 5) (px_int)))))))))
abbrev s_law_part : Stmt := top 75
theorem sc_law_part : FnScope ["pot", "most"] ["pot", "most"] (defScope s_law_part) := ⟨rfl, rfl, rfl, by decide +kernel, rfl, by decide +kernel, by decide +kernel⟩
theorem d_law_part (G : Gl0 P K mg) (D : DefIn K mg "_law_part" s_law_part) (c_law_of : Callee P w K mg base T false 2 "_law_of" ["pot", "some"] f_law_of) (c_law_take : Callee P w K mg base T false 1 "_law_take" ["pot", "upto"] f_law_take) (c_law_rate : Callee P w K mg base T false 2 "_law_rate" ["top", "bottom"] f_law_rate) : Callee P w K mg base T false 3 "_law_part" ["pot", "most"] f_law_part :=
  callee_of (gd := false) (k := 2) D sc_law_part rfl rfl (fun _ _ _ _ _ _ us hl => match us, hl with | [_, _], _ => rfl) fun f cdv A outer s H E hg hr => pxs_one (px_ret (px_fn c_law_rate hr (by decide) (fun z => nomatch z) (pxa_cons (px_sub (pb_int G.b_int (pxa_cons (px_fn c_law_take hr (by decide) (fun z => nomatch z) (pxa_cons (px_var 0) (pxa_cons (px_add (px_mul (px_int) (px_var 1)) (px_int)) (pxa_nil)))) (pxa_nil))) (px_var 1)) (pxa_cons (px_add (px_int) (pb_int G.b_int (pxa_cons (px_fn c_law_take hr (by decide) (fun z => nomatch z) (pxa_cons (px_var 0) (pxa_cons (px_fn c_law_of hr (by decide) (fun z => nomatch z) (pxa_cons (px_var 0) (pxa_cons (px_lst (pxa_cons (px_int) (pxa_cons (px_int) (pxa_cons (px_int) (pxa_cons (px_int) (pxa_nil)))))) (pxa_nil)))) (pxa_nil)))) (pxa_nil)))) (pxa_nil)))))
abbrev s_law_length : Stmt := top 76
theorem sc_law_length : FnScope ["pot", "most"] ["pot", "most"] (defScope s_law_length) := ⟨rfl, rfl, rfl, by decide +kernel, rfl, by decide +kernel, by decide +kernel⟩
theorem d_law_length (G : Gl0 P K mg) (D : DefIn K mg "_law_length" s_law_length) (c_law_of : Callee P w K mg base T false 2 "_law_of" ["pot", "some"] f_law_of) (c_law_take : Callee P w K mg base T false 1 "_law_take" ["pot", "upto"] f_law_take) (c_law_rate : Callee P w K mg base T false 2 "_law_rate" ["top", "bottom"] f_law_rate) : Callee P w K mg base T false 3 "_law_length" ["pot", "most"] f_law_length :=
  callee_of (gd := false) (k := 2) D sc_law_length rfl rfl (fun _ _ _ _ _ _ us hl => match us, hl with | [_, _], _ => rfl) fun f cdv A outer s H E hg hr => pxs_one (px_ret (px_fn c_law_rate hr (by decide) (fun z => nomatch z) (pxa_cons (px_add (px_int) (pb_int G.b_int (pxa_cons (px_fn c_law_take hr (by decide) (fun z => nomatch z) (pxa_cons (px_var 0) (pxa_cons (px_var 1) (pxa_nil)))) (pxa_nil)))) (pxa_cons (px_add (px_int) (pb_int G.b_int (pxa_cons (px_fn c_law_take hr (by decide) (fun z => nomatch z) (pxa_cons (px_var 0) (pxa_cons (px_fn c_law_of hr (by decide) (fun z => nomatch z) (pxa_cons (px_var 0) (pxa_cons (px_lst (pxa_cons (px_int) (pxa_cons (px_int) (pxa_cons (px_int) (pxa_cons (px_int) (pxa_nil)))))) (pxa_nil)))) (pxa_nil)))) (pxa_nil)))) (pxa_nil)))))
abbrev s_law_minus : Stmt := top 77
theorem sc_law_minus : FnScope ["one"] ["one"] (defScope s_law_minus) := ⟨rfl, rfl, rfl, by decide +kernel, rfl, by decide +kernel, by decide +kernel⟩
theorem d_law_minus (G : Gl0 P K mg) (D : DefIn K mg "_law_minus" s_law_minus) : Callee P w K mg base T false 1 "_law_minus" ["one"] f_law_minus :=
  callee_of (gd := false) (k := 0) D sc_law_minus rfl rfl (fun _ _ _ _ _ _ us hl => match us, hl with | [_], _ => rfl) fun f cdv A outer s H E hg hr => pxs_one (px_ret (px_tup (pxa_cons (px_neg (px_ix (px_var 0) (px_int))) (pxa_cons (px_neg (px_ix (px_var 0) (px_int))) (pxa_cons (px_ix (px_var 0) (px_int)) (pxa_cons (px_ix (px_var 0) (px_int)) (pxa_nil)))))))
abbrev s_law_less : Stmt := top 78
theorem sc_law_less : FnScope ["one", "other"] ["one", "other"] (defScope s_law_less) := ⟨rfl, rfl, rfl, by decide +kernel, rfl, by decide +kernel, by decide +kernel⟩
theorem d_law_less (G : Gl0 P K mg) (D : DefIn K mg "_law_less" s_law_less) (c_law_rate : Callee P w K mg base T false 2 "_law_rate" ["top", "bottom"] f_law_rate) : Callee P w K mg base T false 3 "_law_less" ["one", "other"] f_law_less :=
  callee_of (gd := false) (k := 2) D sc_law_less rfl rfl (fun _ _ _ _ _ _ us hl => match us, hl with | [_, _], _ => rfl) fun f cdv A outer s H E hg hr => pxs_one (px_ret (px_fn c_law_rate hr (by decide) (fun z => nomatch z) (pxa_cons (px_sub (px_mul (px_ix (px_var 0) (px_int)) (px_ix (px_var 1) (px_int))) (px_mul (px_ix (px_var 1) (px_int)) (px_ix (px_var 0) (px_int)))) (pxa_cons (px_mul (px_ix (px_var 0) (px_int)) (px_ix (px_var 1) (px_int))) (pxa_nil)))))
abbrev s_law_times : Stmt := top 79
theorem sc_law_times : FnScope ["one", "other"] ["one", "other"] (defScope s_law_times) := ⟨rfl, rfl, rfl, by decide +kernel, rfl, by decide +kernel, by decide +kernel⟩
theorem d_law_times (G : Gl0 P K mg) (D : DefIn K mg "_law_times" s_law_times) (c_law_rate : Callee P w K mg base T false 2 "_law_rate" ["top", "bottom"] f_law_rate) : Callee P w K mg base T false 3 "_law_times" ["one", "other"] f_law_times :=
  callee_of (gd := false) (k := 2) D sc_law_times rfl rfl (fun _ _ _ _ _ _ us hl => match us, hl with | [_, _], _ => rfl) fun f cdv A outer s H E hg hr => pxs_one (px_ret (px_fn c_law_rate hr (by decide) (fun z => nomatch z) (pxa_cons (px_mul (px_ix (px_var 0) (px_int)) (px_ix (px_var 1) (px_int))) (pxa_cons (px_mul (px_ix (px_var 0) (px_int)) (px_ix (px_var 1) (px_int))) (pxa_nil)))))
abbrev s_law_point : Stmt := top 80
theorem sc_law_point : FnScope ["pot", "most"] ["pot", "most"] (defScope s_law_point) := ⟨rfl, rfl, rfl, by decide +kernel, rfl, by decide +kernel, by decide +kernel⟩
theorem d_law_point (G : Gl0 P K mg) (D : DefIn K mg "_law_point" s_law_point) (c_law_part : Callee P w K mg base T false 3 "_law_part" ["pot", "most"] f_law_part) : Callee P w K mg base T false 4 "_law_point" ["pot", "most"] f_law_point :=
  callee_of (gd := false) (k := 3) D sc_law_point rfl rfl (fun _ _ _ _ _ _ us hl => match us, hl with | [_, _], _ => rfl) fun f cdv A outer s H E hg hr => pxs_one (px_ret (px_tup (pxa_cons (px_fn c_law_part hr (by decide) (fun z => nomatch z) (pxa_cons (px_var 0) (pxa_cons (px_var 1) (pxa_nil)))) (pxa_cons (px_fn c_law_part hr (by decide) (fun z => nomatch z) (pxa_cons (px_var 0) (pxa_cons (px_var 1) (pxa_nil)))) (pxa_nil)))))
abbrev s_law_turn_of : Stmt := top 81
theorem sc_law_turn_of : FnScope ["half", "top", "bottom"] ["half"] (defScope s_law_turn_of) := ⟨rfl, rfl, rfl, by decide +kernel, rfl, by decide +kernel, by decide +kernel⟩
theorem d_law_turn_of (G : Gl0 P K mg) (D : DefIn K mg "_law_turn_of" s_law_turn_of) (c_law_rate : Callee P w K mg base T false 2 "_law_rate" ["top", "bottom"] f_law_rate) : Callee P w K mg base T false 3 "_law_turn_of" ["half"] f_law_turn_of :=
  callee_of (gd := false) (k := 2) D sc_law_turn_of rfl rfl (fun _ _ _ _ _ _ us hl => match us, hl with | [_], _ => rfl) fun f cdv A outer s H E hg hr => pxs_cons (px_asg (px_var 0) (pxg_tup rfl (pxgs_cons (pxg_name 1 sc_law_turn_of.nd) (pxgs_cons (pxg_name 2 sc_law_turn_of.nd) (pxgs_nil))) (gsl_cons (gsl_cons (gsl_nil))))) (pxs_one (px_ret (px_tup (pxa_cons (px_fn c_law_rate hr (by decide) (fun z => nomatch z) (pxa_cons (px_sub (px_mul (px_var 2) (px_var 2)) (px_mul (px_var 1) (px_var 1))) (pxa_cons (px_add (px_mul (px_var 1) (px_var 1)) (px_mul (px_var 2) (px_var 2))) (pxa_nil)))) (pxa_cons (px_fn c_law_rate hr (by decide) (fun z => nomatch z) (pxa_cons (px_mul (px_mul (px_int) (px_var 1)) (px_var 2)) (pxa_cons (px_add (px_mul (px_var 1) (px_var 1)) (px_mul (px_var 2) (px_var 2))) (pxa_nil)))) (pxa_nil))))))
abbrev s_law_beside : Stmt := top 82
theorem sc_law_beside : FnScope ["one", "other"] ["one", "other"] (defScope s_law_beside) := ⟨rfl, rfl, rfl, by decide +kernel, rfl, by decide +kernel, by decide +kernel⟩
theorem d_law_beside (G : Gl0 P K mg) (D : DefIn K mg "_law_beside" s_law_beside) (c_law_less : Callee P w K mg base T false 3 "_law_less" ["one", "other"] f_law_less) : Callee P w K mg base T false 4 "_law_beside" ["one", "other"] f_law_beside :=
  callee_of (gd := false) (k := 3) D sc_law_beside rfl rfl (fun _ _ _ _ _ _ us hl => match us, hl with | [_, _], _ => rfl) fun f cdv A outer s H E hg hr => pxs_one (px_ret (px_tup (pxa_cons (px_fn c_law_less hr (by decide) (fun z => nomatch z) (pxa_cons (px_ix (px_var 0) (px_int)) (pxa_cons (px_ix (px_var 1) (px_int)) (pxa_nil)))) (pxa_cons (px_fn c_law_less hr (by decide) (fun z => nomatch z) (pxa_cons (px_ix (px_var 0) (px_int)) (pxa_cons (px_ix (px_var 1) (px_int)) (pxa_nil)))) (pxa_nil)))))
abbrev s_law_vector : Stmt := top 83
theorem sc_law_vector : FnScope ["one"] ["one"] (defScope s_law_vector) := ⟨rfl, rfl, rfl, by decide +kernel, rfl, by decide +kernel, by decide +kernel⟩
theorem d_law_vector (G : Gl0 P K mg) (D : DefIn K mg "_law_vector" s_law_vector) : Callee P w K mg base T false 1 "_law_vector" ["one"] f_law_vector :=
  callee_of (gd := false) (k := 0) D sc_law_vector rfl rfl (fun _ _ _ _ _ _ us hl => match us, hl with | [_], _ => rfl) fun f cdv A outer s H E hg hr => pxs_one (px_ret (px_tup (pxa_cons (px_tup (pxa_cons (px_ix (px_ix (px_var 0) (px_int)) (px_int)) (pxa_cons (px_int) (pxa_cons (px_ix (px_ix (px_var 0) (px_int)) (px_int)) (pxa_cons (px_int) (pxa_nil)))))) (pxa_cons (px_tup (pxa_cons (px_ix (px_ix (px_var 0) (px_int)) (px_int)) (pxa_cons (px_int) (pxa_cons (px_ix (px_ix (px_var 0) (px_int)) (px_int)) (pxa_cons (px_int) (pxa_nil)))))) (pxa_nil)))))
abbrev s_law_moved : Stmt := top 84
theorem sc_law_moved : FnScope ["one", "other"] ["one", "other"] (defScope s_law_moved) := ⟨rfl, rfl, rfl, by decide +kernel, rfl, by decide +kernel, by decide +kernel⟩
theorem d_law_moved (G : Gl0 P K mg) (D : DefIn K mg "_law_moved" s_law_moved) (c_law_plus : Callee P w K mg base T false 3 "_law_plus" ["one", "other"] f_law_plus) : Callee P w K mg base T false 4 "_law_moved" ["one", "other"] f_law_moved :=
  callee_of (gd := false) (k := 3) D sc_law_moved rfl rfl (fun _ _ _ _ _ _ us hl => match us, hl with | [_, _], _ => rfl) fun f cdv A outer s H E hg hr => pxs_one (px_ret (px_tup (pxa_cons (px_fn c_law_plus hr (by decide) (fun z => nomatch z) (pxa_cons (px_ix (px_var 0) (px_int)) (pxa_cons (px_ix (px_var 1) (px_int)) (pxa_nil)))) (pxa_cons (px_fn c_law_plus hr (by decide) (fun z => nomatch z) (pxa_cons (px_ix (px_var 0) (px_int)) (pxa_cons (px_ix (px_var 1) (px_int)) (pxa_nil)))) (pxa_nil)))))
abbrev s_law_cross_el : Stmt := top 85
theorem sc_law_cross_el : FnScope ["one", "other"] ["one", "other"] (defScope s_law_cross_el) := ⟨rfl, rfl, rfl, by decide +kernel, rfl, by decide +kernel, by decide +kernel⟩
theorem d_law_cross_el (G : Gl0 P K mg) (D : DefIn K mg "_law_cross_el" s_law_cross_el) (c_law_product : Callee P w K mg base T false 4 "_law_product" ["one", "other"] f_law_product) (c_law_minus : Callee P w K mg base T false 1 "_law_minus" ["one"] f_law_minus) (c_law_sum : Callee P w K mg base T false 4 "_law_sum" ["one", "other"] f_law_sum) (c_law_sign : Callee P w K mg base T false 1 "_law_sign" ["one"] f_law_sign) : Callee P w K mg base T false 5 "_law_cross_el" ["one", "other"] f_law_cross_el :=
  callee_of (gd := false) (k := 4) D sc_law_cross_el rfl rfl (fun _ _ _ _ _ _ us hl => match us, hl with | [_, _], _ => rfl) fun f cdv A outer s H E hg hr => pxs_one (px_ret (px_fn c_law_sign hr (by decide) (fun z => nomatch z) (pxa_cons (px_fn c_law_sum hr (by decide) (fun z => nomatch z) (pxa_cons (px_fn c_law_product hr (by decide) (fun z => nomatch z) (pxa_cons (px_ix (px_var 0) (px_int)) (pxa_cons (px_ix (px_var 1) (px_int)) (pxa_nil)))) (pxa_cons (px_fn c_law_minus hr (by decide) (fun z => nomatch z) (pxa_cons (px_fn c_law_product hr (by decide) (fun z => nomatch z) (pxa_cons (px_ix (px_var 0) (px_int)) (pxa_cons (px_ix (px_var 1) (px_int)) (pxa_nil)))) (pxa_nil))) (pxa_nil)))) (pxa_nil))))
abbrev s_law_dot_el : Stmt := top 86
theorem sc_law_dot_el : FnScope ["one", "other"] ["one", "other"] (defScope s_law_dot_el) := ⟨rfl, rfl, rfl, by decide +kernel, rfl, by decide +kernel, by decide +kernel⟩
theorem d_law_dot_el (G : Gl0 P K mg) (D : DefIn K mg "_law_dot_el" s_law_dot_el) (c_law_product : Callee P w K mg base T false 4 "_law_product" ["one", "other"] f_law_product) (c_law_sum : Callee P w K mg base T false 4 "_law_sum" ["one", "other"] f_law_sum) (c_law_sign : Callee P w K mg base T false 1 "_law_sign" ["one"] f_law_sign) : Callee P w K mg base T false 5 "_law_dot_el" ["one", "other"] f_law_dot_el :=
  callee_of (gd := false) (k := 4) D sc_law_dot_el rfl rfl (fun _ _ _ _ _ _ us hl => match us, hl with | [_, _], _ => rfl) fun f cdv A outer s H E hg hr => pxs_one (px_ret (px_fn c_law_sign hr (by decide) (fun z => nomatch z) (pxa_cons (px_fn c_law_sum hr (by decide) (fun z => nomatch z) (pxa_cons (px_fn c_law_product hr (by decide) (fun z => nomatch z) (pxa_cons (px_ix (px_var 0) (px_int)) (pxa_cons (px_ix (px_var 1) (px_int)) (pxa_nil)))) (pxa_cons (px_fn c_law_product hr (by decide) (fun z => nomatch z) (pxa_cons (px_ix (px_var 0) (px_int)) (pxa_cons (px_ix (px_var 1) (px_int)) (pxa_nil)))) (pxa_nil)))) (pxa_nil))))
abbrev s_law_small_turn : Stmt := top 87
theorem sc_law_small_turn : FnScope ["pot"] ["pot"] (defScope s_law_small_turn) := ⟨rfl, rfl, rfl, by decide +kernel, rfl, by decide +kernel, by decide +kernel⟩
theorem d_law_small_turn (G : Gl0 P K mg) (D : DefIn K mg "_law_small_turn" s_law_small_turn) (c_law_of : Callee P w K mg base T false 2 "_law_of" ["pot", "some"] f_law_of) (c_law_turn_of : Callee P w K mg base T false 3 "_law_turn_of" ["half"] f_law_turn_of) : Callee P w K mg base T false 4 "_law_small_turn" ["pot"] f_law_small_turn :=
  callee_of (gd := false) (k := 3) D sc_law_small_turn rfl rfl (fun _ _ _ _ _ _ us hl => match us, hl with | [_], _ => rfl) fun f cdv A outer s H E hg hr => pxs_one (px_ret (px_fn c_law_turn_of hr (by decide) (fun z => nomatch z) (pxa_cons (px_fn c_law_of hr (by decide) (fun z => nomatch z) (pxa_cons (px_var 0) (pxa_cons (px_lst (pxa_cons (px_tup (pxa_cons (px_int) (pxa_cons (px_int) (pxa_nil)))) (pxa_cons (px_tup (pxa_cons (px_int) (pxa_cons (px_int) (pxa_nil)))) (pxa_cons (px_tup (pxa_cons (px_neg (px_int)) (pxa_cons (px_int) (pxa_nil)))) (pxa_cons (px_tup (pxa_cons (px_int) (pxa_cons (px_int) (pxa_nil)))) (pxa_cons (px_tup (pxa_cons (px_neg (px_int)) (pxa_cons (px_int) (pxa_nil)))) (pxa_cons (px_tup (pxa_cons (px_int) (pxa_cons (px_int) (pxa_nil)))) (pxa_cons (px_tup (pxa_cons (px_int) (pxa_cons (px_int) (pxa_nil)))) (pxa_cons (px_tup (pxa_cons (px_neg (px_int)) (pxa_cons (px_int) (pxa_nil)))) (pxa_cons (px_tup (pxa_cons (px_neg (px_int)) (pxa_cons (px_int) (pxa_nil)))) (pxa_nil))))))))))) (pxa_nil)))) (pxa_nil))))
abbrev s_law_is_at : Stmt := top 88
theorem sc_law_is_at : FnScope ["spot", "square", "point", "its", "ends", "far", "by", "beyond", "one", "at"] ["spot", "square", "point", "its"] (defScope s_law_is_at) := ⟨rfl, rfl, rfl, by decide +kernel, rfl, by decide +kernel, by decide +kernel⟩
theorem d_law_is_at (G : Gl0 P K mg) (D : DefIn K mg "_law_is_at" s_law_is_at) (c_law_el : Callee P w K mg base T false 1 "_law_el" ["number"] f_law_el) (c_law_product : Callee P w K mg base T false 4 "_law_product" ["one", "other"] f_law_product) (c_law_sum : Callee P w K mg base T false 4 "_law_sum" ["one", "other"] f_law_sum) (c_law_told : Callee P w K mg base T false 3 "_law_told" ["one"] f_law_told) : Callee P w K mg base T false 5 "_law_is_at" ["spot", "square", "point", "its"] f_law_is_at :=
  callee_of (gd := false) (k := 4) D sc_law_is_at rfl rfl (fun _ _ _ _ _ _ us hl => match us, hl with | [_, _, _, _], _ => rfl) fun f cdv A outer s H E hg hr => pxs_cons (px_set 4 sc_law_is_at.nd (px_comp (own := [("one", 8)]) rfl sc_law_is_at.nd (pxi_tup (px_var 0)) (blkOk_by (N := ["spot", "square", "point", "its", "ends", "far", "by", "beyond", "one", "at"]) (sc := defScope s_law_is_at) (by decide +kernel)) (fun _ _ _ _ _ => pxg_name 8 sc_law_is_at.nd) (fun _ _ _ _ _ => pxts_nil) (fun _ _ _ _ _ => px_fn c_law_el hr (by decide) (fun z => nomatch z) (pxa_cons (px_var 8) (pxa_nil))) (by decide))) (pxs_cons (px_set 5 sc_law_is_at.nd (px_fn c_law_told hr (by decide) (fun z => nomatch z) (pxa_cons (px_fn c_law_sum hr (by decide) (fun z => nomatch z) (pxa_cons (px_fn c_law_product hr (by decide) (fun z => nomatch z) (pxa_cons (px_ix (px_var 4) (px_int)) (pxa_cons (px_ix (px_var 4) (px_int)) (pxa_nil)))) (pxa_cons (px_fn c_law_product hr (by decide) (fun z => nomatch z) (pxa_cons (px_ix (px_var 4) (px_int)) (pxa_cons (px_ix (px_var 4) (px_int)) (pxa_nil)))) (pxa_nil)))) (pxa_nil)))) (pxs_cons (px_setComp 6 (own := [("at", 9)]) rfl sc_law_is_at.nd (pxi_range1 rfl G.b_range (pxa_cons (px_int) pxa_nil)) (blkOk_by (N := ["spot", "square", "point", "its", "ends", "far", "by", "beyond", "one", "at"]) (sc := defScope s_law_is_at) (by decide +kernel)) (fun _ _ _ _ _ => pxg_name 9 sc_law_is_at.nd) (fun _ _ _ _ _ => pxts_nil) (fun _ _ _ _ _ => px_fn c_law_sum hr (by decide) (fun z => nomatch z) (pxa_cons (px_ix (px_var 4) (px_var 9)) (pxa_cons (px_tup (pxa_cons (px_neg (px_ix (px_ix (px_var 2) (px_var 9)) (px_int))) (pxa_cons (px_int) (pxa_cons (px_ix (px_ix (px_var 2) (px_var 9)) (px_int)) (pxa_cons (px_int) (pxa_nil)))))) (pxa_nil)))) (by decide) (sw_true rfl rfl rfl (by decide +kernel))) (pxs_cons (px_set 7 sc_law_is_at.nd (px_fn c_law_told hr (by decide) (fun z => nomatch z) (pxa_cons (px_fn c_law_sum hr (by decide) (fun z => nomatch z) (pxa_cons (px_fn c_law_product hr (by decide) (fun z => nomatch z) (pxa_cons (px_ix (px_var 6) (px_int)) (pxa_cons (px_ix (px_var 6) (px_int)) (pxa_nil)))) (pxa_cons (px_fn c_law_product hr (by decide) (fun z => nomatch z) (pxa_cons (px_ix (px_var 6) (px_int)) (pxa_cons (px_ix (px_var 6) (px_int)) (pxa_nil)))) (pxa_nil)))) (pxa_nil)))) (pxs_one (px_ret (px_and (px_eq hr (px_var 5) (px_var 1)) (px_one (px_eq hr (px_var 7) (px_var 3)))))))))
abbrev s_law_is_line_so : Stmt := top 89
theorem sc_law_is_line_so : FnScope ["pot", "hair", "turn", "far", "foot", "along", "ends", "part", "one", "other", "square", "told_v", "lead", "by", "at", "spot"] ["pot", "hair"] (defScope s_law_is_line_so) := ⟨rfl, rfl, rfl, by decide +kernel, rfl, by decide +kernel, by decide +kernel⟩
theorem d_law_is_line_so (G : Gl0 P K mg) (D : DefIn K mg "_law_is_line_so" s_law_is_line_so) (c_law_length : Callee P w K mg base T false 3 "_law_length" ["pot", "most"] f_law_length) (c_law_small_turn : Callee P w K mg base T false 4 "_law_small_turn" ["pot"] f_law_small_turn) (c_law_less : Callee P w K mg base T false 3 "_law_less" ["one", "other"] f_law_less) (c_law_times : Callee P w K mg base T false 3 "_law_times" ["one", "other"] f_law_times) (c_law_part : Callee P w K mg base T false 3 "_law_part" ["pot", "most"] f_law_part) (c_law_moved : Callee P w K mg base T false 4 "_law_moved" ["one", "other"] f_law_moved) (c_line_meets_circle : Callee P w K mg base T false 7 "line_meets_circle" ["one", "other", "square"] f_line_meets_circle) (c_law_is_below : Callee P w K mg base T false 1 "_law_is_below" ["one", "other"] f_law_is_below) (c_law_plus : Callee P w K mg base T false 3 "_law_plus" ["one", "other"] f_law_plus) (c_is_far_point : Callee P w K mg base T false 4 "is_far_point" ["value"] f_is_far_point) (c_law_is_at : Callee P w K mg base T false 5 "_law_is_at" ["spot", "square", "point", "its"] f_law_is_at) (c_law_beside : Callee P w K mg base T false 4 "_law_beside" ["one", "other"] f_law_beside) (c_law_el : Callee P w K mg base T false 1 "_law_el" ["number"] f_law_el) (c_law_sum : Callee P w K mg base T false 4 "_law_sum" ["one", "other"] f_law_sum) (c_law_vector : Callee P w K mg base T false 1 "_law_vector" ["one"] f_law_vector) (c_law_dot_el : Callee P w K mg base T false 5 "_law_dot_el" ["one", "other"] f_law_dot_el) : Callee P w K mg base T true 8 "_law_is_line_so" ["pot", "hair"] f_law_is_line_so :=
  (callee_of (gd := true) (k := 7) D sc_law_is_line_so rfl rfl (fun _ _ _ _ _ _ us hl => match us, hl with | [_, _], _ => rfl) fun f cdv A outer s H E hg hr => pxs_cons (px_asg (px_tup (pxa_cons (px_fn c_law_small_turn hr (by decide) (fun z => nomatch z) (pxa_cons (px_var 0) (pxa_nil))) (pxa_cons (px_fn c_law_length hr (by decide) (fun z => nomatch z) (pxa_cons (px_var 0) (pxa_cons (px_int) (pxa_nil)))) (pxa_nil)))) (pxg_tup rfl (pxgs_cons (pxg_name 2 sc_law_is_line_so.nd) (pxgs_cons (pxg_name 3 sc_law_is_line_so.nd) (pxgs_nil))) (gsl_cons (gsl_cons (gsl_nil))))) (pxs_cons (px_asg (px_tup (pxa_cons (pb_tuple G.b_tuple (pxa_cons (px_comp (own := [("one", 8)]) rfl sc_law_is_line_so.nd (pxi_tup (px_var 2)) (blkOk_by (N := ["pot", "hair", "turn", "far", "foot", "along", "ends", "part", "one", "other", "square", "told_v", "lead", "by", "at", "spot"]) (sc := defScope s_law_is_line_so) (by decide +kernel)) (fun _ _ _ _ _ => pxg_name 8 sc_law_is_line_so.nd) (fun _ _ _ _ _ => pxts_nil) (fun _ _ _ _ _ => px_fn c_law_times hr (by decide) (fun z => nomatch z) (pxa_cons (px_var 8) (pxa_cons (px_var 3) (pxa_nil)))) (by decide)) (pxa_nil))) (pxa_cons (px_tup (pxa_cons (px_fn c_law_less hr (by decide) (fun z => nomatch z) (pxa_cons (px_tup (pxa_cons (px_int) (pxa_cons (px_int) (pxa_nil)))) (pxa_cons (px_ix (px_var 2) (px_int)) (pxa_nil)))) (pxa_cons (px_ix (px_var 2) (px_int)) (pxa_nil)))) (pxa_nil)))) (pxg_tup rfl (pxgs_cons (pxg_name 4 sc_law_is_line_so.nd) (pxgs_cons (pxg_name 5 sc_law_is_line_so.nd) (pxgs_nil))) (gsl_cons (gsl_cons (gsl_nil))))) (pxs_cons (px_set 6 sc_law_is_line_so.nd (px_new (pxa_nil))) (pxs_cons (px_for (passes_of rfl) rfl (pxi_tup (px_tup (pxa_cons (px_fn c_law_part hr (by decide) (fun z => nomatch z) (pxa_cons (px_var 0) (pxa_cons (px_int) (pxa_nil)))) (pxa_cons (px_fn c_law_part hr (by decide) (fun z => nomatch z) (pxa_cons (px_var 0) (pxa_cons (px_int) (pxa_nil)))) (pxa_nil))))) (pxg_name 7 sc_law_is_line_so.nd) (pxs_one (px_expr (px_append (px_var 6) (px_fn c_law_moved hr (by decide) (fun z => nomatch z) (pxa_cons (px_var 4) (pxa_cons (pb_tuple G.b_tuple (pxa_cons (px_comp (own := [("one", 8)]) rfl sc_law_is_line_so.nd (pxi_tup (px_var 5)) (blkOk_by (N := ["pot", "hair", "turn", "far", "foot", "along", "ends", "part", "one", "other", "square", "told_v", "lead", "by", "at", "spot"]) (sc := defScope s_law_is_line_so) (by decide +kernel)) (fun _ _ _ _ _ => pxg_name 8 sc_law_is_line_so.nd) (fun _ _ _ _ _ => pxts_nil) (fun _ _ _ _ _ => px_fn c_law_times hr (by decide) (fun z => nomatch z) (pxa_cons (px_var 8) (pxa_cons (px_var 7) (pxa_nil)))) (by decide)) (pxa_nil))) (pxa_nil)))))))) (pxs_cons (px_par 8 9 rfl sc_law_is_line_so.nd (by decide) (pxa_cons (px_ix (px_var 6) (px_int)) (pxa_cons (px_ifExp (pxt_ne hr (px_ix (px_var 6) (px_int)) (px_ix (px_var 6) (px_int))) (px_ix (px_var 6) (px_int)) (px_fn c_law_moved hr (by decide) (fun z => nomatch z) (pxa_cons (px_var 4) (pxa_cons (px_fn c_law_moved hr (by decide) (fun z => nomatch z) (pxa_cons (px_var 5) (pxa_cons (px_var 5) (pxa_nil)))) (pxa_nil))))) (pxa_nil)))) (pxs_cons (px_set 8 sc_law_is_line_so.nd (px_ifExp (pxt_eq hr (px_var 8) (px_var 9)) (px_var 4) (px_var 8))) (pxs_cons (px_set 10 sc_law_is_line_so.nd (px_fn c_law_times hr (by decide) (fun z => nomatch z) (pxa_cons (px_var 3) (pxa_cons (px_var 3) (pxa_nil))))) (pxs_cons (px_if (pxt_ne hr (pb_repr hr (hg rfl) G.b_repr (pxa_cons (px_fn c_line_meets_circle hr (by decide) (fun z => nomatch z) (pxa_cons (px_var 8) (pxa_cons (px_var 9) (pxa_cons (px_var 10) (pxa_nil))))) (pxa_nil))) (pb_repr hr (hg rfl) G.b_repr (pxa_cons (px_tup (pxa_cons (px_var 4) (pxa_nil))) (pxa_nil)))) (pxs_one (px_ret (px_bl))) (pxs_nil)) (pxs_cons (px_if (PXW.t (pxw_and (pxt_not (pxt_truth (px_fn c_law_is_below hr (by decide) (fun z => nomatch z) (pxa_cons (px_var 10) (pxa_cons (px_var 1) (pxa_nil)))))) (pxw_and1 (pxt_ne hr (pb_repr hr (hg rfl) G.b_repr (pxa_cons (px_fn c_line_meets_circle hr (by decide) (fun z => nomatch z) (pxa_cons (px_var 8) (pxa_cons (px_var 9) (pxa_cons (px_fn c_law_less hr (by decide) (fun z => nomatch z) (pxa_cons (px_var 10) (pxa_cons (px_var 1) (pxa_nil)))) (pxa_nil))))) (pxa_nil))) (px_str))))) (pxs_one (px_ret (px_bl))) (pxs_nil)) (pxs_cons (px_set 11 sc_law_is_line_so.nd (px_fn c_line_meets_circle hr (by decide) (fun z => nomatch z) (pxa_cons (px_var 8) (pxa_cons (px_var 9) (pxa_cons (px_fn c_law_plus hr (by decide) (fun z => nomatch z) (pxa_cons (px_var 10) (pxa_cons (px_var 1) (pxa_nil)))) (pxa_nil)))))) (pxs_cons (px_if (PXW.t (pxw_or (pxt_not (pxt_truth (pb_isinstance G.ex G.b_isinstance (pxa_cons (px_var 11) (pxa_cons (px_ty G.b_tuple (by decide +kernel)) (pxa_nil)))))) (pxw_or (pxt_ne hr (pb_len G.b_len (pxa_cons (px_var 11) (pxa_nil))) (px_int)) (pxw_or1 (pxt_not (pxt_truth (pb_all rfl G.b_all (pxa_cons (px_comp (own := [("spot", 15)]) rfl sc_law_is_line_so.nd (pxi_tup (px_var 11)) (blkOk_by (N := ["pot", "hair", "turn", "far", "foot", "along", "ends", "part", "one", "other", "square", "told_v", "lead", "by", "at", "spot"]) (sc := defScope s_law_is_line_so) (by decide +kernel)) (fun _ _ _ _ _ => pxg_name 15 sc_law_is_line_so.nd) (fun _ _ _ _ _ => pxts_nil) (fun _ _ _ _ _ => px_isB (px_fn c_is_far_point hr (by decide) (fun z => nomatch z) (pxa_cons (px_var 15) (pxa_nil))) (px_bl)) (by decide)) (pxa_nil))))))))) (pxs_one (px_ret (px_bl))) (pxs_nil)) (pxs_cons (px_if (PXW.t (pxw_or (pxt_not (pxt_truth (pb_all rfl G.b_all (pxa_cons (px_comp (own := [("spot", 15)]) rfl sc_law_is_line_so.nd (pxi_tup (px_var 11)) (blkOk_by (N := ["pot", "hair", "turn", "far", "foot", "along", "ends", "part", "one", "other", "square", "told_v", "lead", "by", "at", "spot"]) (sc := defScope s_law_is_line_so) (by decide +kernel)) (fun _ _ _ _ _ => pxg_name 15 sc_law_is_line_so.nd) (fun _ _ _ _ _ => pxts_nil) (fun _ _ _ _ _ => px_fn c_law_is_at hr (by decide) (fun z => nomatch z) (pxa_cons (px_var 15) (pxa_cons (px_fn c_law_plus hr (by decide) (fun z => nomatch z) (pxa_cons (px_var 10) (pxa_cons (px_var 1) (pxa_nil)))) (pxa_cons (px_var 4) (pxa_cons (px_var 1) (pxa_nil)))))) (by decide)) (pxa_nil))))) (pxw_or1 (pxt_eq hr (px_ix (px_var 11) (px_int)) (px_ix (px_var 11) (px_int)))))) (pxs_one (px_ret (px_bl))) (pxs_nil)) (pxs_cons (px_set 12 sc_law_is_line_so.nd (px_fn c_law_beside hr (by decide) (fun z => nomatch z) (pxa_cons (px_var 8) (pxa_cons (px_var 9) (pxa_nil))))) (pxs_cons (px_setComp 13 (own := [("at", 14)]) rfl sc_law_is_line_so.nd (pxi_range1 rfl G.b_range (pxa_cons (px_int) pxa_nil)) (blkOk_by (N := ["pot", "hair", "turn", "far", "foot", "along", "ends", "part", "one", "other", "square", "told_v", "lead", "by", "at", "spot"]) (sc := defScope s_law_is_line_so) (by decide +kernel)) (fun _ _ _ _ _ => pxg_name 14 sc_law_is_line_so.nd) (fun _ _ _ _ _ => pxts_nil) (fun _ _ _ _ _ => px_fn c_law_sum hr (by decide) (fun z => nomatch z) (pxa_cons (px_fn c_law_el hr (by decide) (fun z => nomatch z) (pxa_cons (px_ix (px_ix (px_var 11) (px_int)) (px_var 14)) (pxa_nil))) (pxa_cons (px_tup (pxa_cons (px_neg (px_ix (px_ix (px_var 4) (px_var 14)) (px_int))) (pxa_cons (px_int) (pxa_cons (px_ix (px_ix (px_var 4) (px_var 14)) (px_int)) (pxa_cons (px_int) (pxa_nil)))))) (pxa_nil)))) (by decide) (sw_true rfl rfl rfl (by decide +kernel))) (pxs_one (px_ret (px_gt (px_fn c_law_dot_el hr (by decide) (fun z => nomatch z) (pxa_cons (px_tup (pxa_cons (px_ix (px_var 13) (px_int)) (pxa_cons (px_ix (px_var 13) (px_int)) (pxa_nil)))) (pxa_cons (px_fn c_law_vector hr (by decide) (fun z => nomatch z) (pxa_cons (px_var 12) (pxa_nil))) (pxa_nil)))) (px_int)))))))))))))))))).drop
abbrev s_law_are_circles_so : Stmt := top 90
theorem sc_law_are_circles_so : FnScope ["pot", "hair", "turn", "first", "second", "far", "point", "touch", "square", "its", "most", "wider", "many", "told_v", "ends", "one", "spot"] ["pot", "hair"] (defScope s_law_are_circles_so) := ⟨rfl, rfl, rfl, by decide +kernel, rfl, by decide +kernel, by decide +kernel⟩
theorem d_law_are_circles_so (G : Gl0 P K mg) (D : DefIn K mg "_law_are_circles_so" s_law_are_circles_so) (c_law_length : Callee P w K mg base T false 3 "_law_length" ["pot", "most"] f_law_length) (c_law_small_turn : Callee P w K mg base T false 4 "_law_small_turn" ["pot"] f_law_small_turn) (c_law_less : Callee P w K mg base T false 3 "_law_less" ["one", "other"] f_law_less) (c_law_plus : Callee P w K mg base T false 3 "_law_plus" ["one", "other"] f_law_plus) (c_law_times : Callee P w K mg base T false 3 "_law_times" ["one", "other"] f_law_times) (c_circles_meet : Callee P w K mg base T false 8 "circles_meet" ["square", "point", "its"] f_circles_meet) (c_square_between : Callee P w K mg base T false 6 "square_between" ["one", "other"] f_square_between) (c_law_is_at : Callee P w K mg base T false 5 "_law_is_at" ["spot", "square", "point", "its"] f_law_is_at) (c_law_el : Callee P w K mg base T false 1 "_law_el" ["number"] f_law_el) (c_law_vector : Callee P w K mg base T false 1 "_law_vector" ["one"] f_law_vector) (c_law_cross_el : Callee P w K mg base T false 5 "_law_cross_el" ["one", "other"] f_law_cross_el) : Callee P w K mg base T true 9 "_law_are_circles_so" ["pot", "hair"] f_law_are_circles_so :=
  callee_of (gd := true) (k := 8) D sc_law_are_circles_so rfl rfl (fun _ _ _ _ _ _ us hl => match us, hl with | [_, _], _ => rfl) fun f cdv A outer s H E hg hr => pxs_cons (px_asg (px_tup (pxa_cons (px_fn c_law_small_turn hr (by decide) (fun z => nomatch z) (pxa_cons (px_var 0) (pxa_nil))) (pxa_cons (px_fn c_law_length hr (by decide) (fun z => nomatch z) (pxa_cons (px_var 0) (pxa_cons (px_int) (pxa_nil)))) (pxa_cons (px_fn c_law_length hr (by decide) (fun z => nomatch z) (pxa_cons (px_var 0) (pxa_cons (px_int) (pxa_nil)))) (pxa_nil))))) (pxg_tup rfl (pxgs_cons (pxg_name 2 sc_law_are_circles_so.nd) (pxgs_cons (pxg_name 3 sc_law_are_circles_so.nd) (pxgs_cons (pxg_name 4 sc_law_are_circles_so.nd) (pxgs_nil)))) (gsl_cons (gsl_cons (gsl_cons (gsl_nil)))))) (pxs_cons (px_for (passes_of rfl) rfl (pxi_tup (px_tup (pxa_cons (px_fn c_law_plus hr (by decide) (fun z => nomatch z) (pxa_cons (px_var 3) (pxa_cons (px_var 4) (pxa_nil)))) (pxa_cons (px_fn c_law_less hr (by decide) (fun z => nomatch z) (pxa_cons (px_var 3) (pxa_cons (px_var 4) (pxa_nil)))) (pxa_nil))))) (pxg_name 5 sc_law_are_circles_so.nd) (pxs_cons (px_if (pxt_eq hr (px_ix (px_var 5) (px_int)) (px_int)) (pxs_one (px_continue)) (pxs_nil)) (pxs_cons (px_set 6 sc_law_are_circles_so.nd (pb_tuple G.b_tuple (pxa_cons (px_comp (own := [("one", 15)]) rfl sc_law_are_circles_so.nd (pxi_tup (px_var 2)) (blkOk_by (N := ["pot", "hair", "turn", "first", "second", "far", "point", "touch", "square", "its", "most", "wider", "many", "told_v", "ends", "one", "spot"]) (sc := defScope s_law_are_circles_so) (by decide +kernel)) (fun _ _ _ _ _ => pxg_name 15 sc_law_are_circles_so.nd) (fun _ _ _ _ _ => pxts_nil) (fun _ _ _ _ _ => px_fn c_law_times hr (by decide) (fun z => nomatch z) (pxa_cons (px_var 15) (pxa_cons (px_var 5) (pxa_nil)))) (by decide)) (pxa_nil)))) (pxs_cons (px_set 7 sc_law_are_circles_so.nd (pb_tuple G.b_tuple (pxa_cons (px_comp (own := [("one", 15)]) rfl sc_law_are_circles_so.nd (pxi_tup (px_var 2)) (blkOk_by (N := ["pot", "hair", "turn", "first", "second", "far", "point", "touch", "square", "its", "most", "wider", "many", "told_v", "ends", "one", "spot"]) (sc := defScope s_law_are_circles_so) (by decide +kernel)) (fun _ _ _ _ _ => pxg_name 15 sc_law_are_circles_so.nd) (fun _ _ _ _ _ => pxts_nil) (fun _ _ _ _ _ => px_fn c_law_times hr (by decide) (fun z => nomatch z) (pxa_cons (px_var 15) (pxa_cons (px_var 3) (pxa_nil)))) (by decide)) (pxa_nil)))) (pxs_cons (px_asg (px_tup (pxa_cons (px_fn c_law_times hr (by decide) (fun z => nomatch z) (pxa_cons (px_var 3) (pxa_cons (px_var 3) (pxa_nil)))) (pxa_cons (px_fn c_law_times hr (by decide) (fun z => nomatch z) (pxa_cons (px_var 4) (pxa_cons (px_var 4) (pxa_nil)))) (pxa_nil)))) (pxg_tup rfl (pxgs_cons (pxg_name 8 sc_law_are_circles_so.nd) (pxgs_cons (pxg_name 9 sc_law_are_circles_so.nd) (pxgs_nil))) (gsl_cons (gsl_cons (gsl_nil))))) (pxs_cons (px_if (PXW.t (pxw_or (pxt_ne hr (pb_repr hr (hg rfl) G.b_repr (pxa_cons (px_fn c_circles_meet hr (by decide) (fun z => nomatch z) (pxa_cons (px_var 8) (pxa_cons (px_var 6) (pxa_cons (px_var 9) (pxa_nil))))) (pxa_nil))) (pb_repr hr (hg rfl) G.b_repr (pxa_cons (px_tup (pxa_cons (px_var 7) (pxa_nil))) (pxa_nil)))) (pxw_or1 (pxt_ne hr (px_fn c_square_between hr (by decide) (fun z => nomatch z) (pxa_cons (px_var 7) (pxa_cons (px_var 6) (pxa_nil)))) (px_var 9))))) (pxs_one (px_ret (px_bl))) (pxs_nil)) (pxs_cons (px_set 10 sc_law_are_circles_so.nd (px_ifExp (pxt_gt (px_ix (px_var 5) (px_int)) (px_int)) (px_int) (px_int))) (pxs_one (px_for (passes_of rfl) rfl (pxi_tup (px_tup (pxa_cons (px_tup (pxa_cons (px_fn c_law_plus hr (by decide) (fun z => nomatch z) (pxa_cons (px_var 9) (pxa_cons (px_var 1) (pxa_nil)))) (pxa_cons (px_var 10) (pxa_nil)))) (pxa_cons (px_tup (pxa_cons (px_fn c_law_less hr (by decide) (fun z => nomatch z) (pxa_cons (px_var 9) (pxa_cons (px_var 1) (pxa_nil)))) (pxa_cons (px_sub (px_int) (px_var 10)) (pxa_nil)))) (pxa_nil))))) (pxg_tup rfl (pxgs_cons (pxg_name 11 sc_law_are_circles_so.nd) (pxgs_cons (pxg_name 12 sc_law_are_circles_so.nd) (pxgs_nil))) (gsl_cons (gsl_cons (gsl_nil)))) (pxs_cons (px_set 13 sc_law_are_circles_so.nd (px_fn c_circles_meet hr (by decide) (fun z => nomatch z) (pxa_cons (px_var 8) (pxa_cons (px_var 6) (pxa_cons (px_var 11) (pxa_nil)))))) (pxs_cons (px_if (PXW.t (pxw_or (pxt_not (pxt_truth (pb_isinstance G.ex G.b_isinstance (pxa_cons (px_var 13) (pxa_cons (px_ty G.b_tuple (by decide +kernel)) (pxa_nil)))))) (pxw_or1 (pxt_ne hr (pb_len G.b_len (pxa_cons (px_var 13) (pxa_nil))) (px_var 12))))) (pxs_one (px_ret (px_bl))) (pxs_nil)) (pxs_cons (px_if (PXW.t (pxw_and (pxt_eq hr (px_var 12) (px_int)) (pxw_and1 (pxt_not (pxt_truth (pb_all rfl G.b_all (pxa_cons (px_comp (own := [("spot", 16)]) rfl sc_law_are_circles_so.nd (pxi_tup (px_var 13)) (blkOk_by (N := ["pot", "hair", "turn", "first", "second", "far", "point", "touch", "square", "its", "most", "wider", "many", "told_v", "ends", "one", "spot"]) (sc := defScope s_law_are_circles_so) (by decide +kernel)) (fun _ _ _ _ _ => pxg_name 16 sc_law_are_circles_so.nd) (fun _ _ _ _ _ => pxts_nil) (fun _ _ _ _ _ => px_fn c_law_is_at hr (by decide) (fun z => nomatch z) (pxa_cons (px_var 16) (pxa_cons (px_var 8) (pxa_cons (px_var 6) (pxa_cons (px_var 11) (pxa_nil)))))) (by decide)) (pxa_nil)))))))) (pxs_one (px_ret (px_bl))) (pxs_nil)) (pxs_one (px_if (pxt_eq hr (px_var 12) (px_int)) (pxs_cons (px_set 14 sc_law_are_circles_so.nd (pb_tuple G.b_tuple (pxa_cons (px_comp (own := [("one", 15)]) rfl sc_law_are_circles_so.nd (pxi_tup (px_ix (px_var 13) (px_int))) (blkOk_by (N := ["pot", "hair", "turn", "first", "second", "far", "point", "touch", "square", "its", "most", "wider", "many", "told_v", "ends", "one", "spot"]) (sc := defScope s_law_are_circles_so) (by decide +kernel)) (fun _ _ _ _ _ => pxg_name 15 sc_law_are_circles_so.nd) (fun _ _ _ _ _ => pxts_nil) (fun _ _ _ _ _ => px_fn c_law_el hr (by decide) (fun z => nomatch z) (pxa_cons (px_var 15) (pxa_nil))) (by decide)) (pxa_nil)))) (pxs_one (px_if (pxt_ne hr (px_fn c_law_cross_el hr (by decide) (fun z => nomatch z) (pxa_cons (px_fn c_law_vector hr (by decide) (fun z => nomatch z) (pxa_cons (px_var 6) (pxa_nil))) (pxa_cons (px_var 14) (pxa_nil)))) (px_int)) (pxs_one (px_ret (px_bl))) (pxs_nil)))) (pxs_nil))))))))))))))) (pxs_one (px_ret (px_bl))))
abbrev s_law_are_stretches_so : Stmt := top 91
theorem sc_law_are_stretches_so : FnScope ["pot", "hair", "one", "other", "far", "on", "short", "side", "at"] ["pot", "hair"] (defScope s_law_are_stretches_so) := ⟨rfl, rfl, rfl, by decide +kernel, rfl, by decide +kernel, by decide +kernel⟩
theorem d_law_are_stretches_so (G : Gl0 P K mg) (D : DefIn K mg "_law_are_stretches_so" s_law_are_stretches_so) (c_law_point : Callee P w K mg base T false 4 "_law_point" ["pot", "most"] f_law_point) (c_side_of : Callee P w K mg base T false 6 "side_of" ["one", "other", "third"] f_side_of) (c_law_rate : Callee P w K mg base T false 2 "_law_rate" ["top", "bottom"] f_law_rate) (c_law_less : Callee P w K mg base T false 3 "_law_less" ["one", "other"] f_law_less) (c_law_times : Callee P w K mg base T false 3 "_law_times" ["one", "other"] f_law_times) (c_law_plus : Callee P w K mg base T false 3 "_law_plus" ["one", "other"] f_law_plus) (c_is_on : Callee P w K mg base T false 7 "is_on" ["one", "other", "third"] f_is_on) (c_do_meet : Callee P w K mg base T false 8 "do_meet" ["one", "other", "third", "fourth"] f_do_meet) : Callee P w K mg base T false 9 "_law_are_stretches_so" ["pot", "hair"] f_law_are_stretches_so :=
  callee_of (gd := false) (k := 8) D sc_law_are_stretches_so rfl rfl (fun _ _ _ _ _ _ us hl => match us, hl with | [_, _], _ => rfl) fun f cdv A outer s H E hg hr => pxs_cons (px_asg (px_tup (pxa_cons (px_fn c_law_point hr (by decide) (fun z => nomatch z) (pxa_cons (px_var 0) (pxa_cons (px_int) (pxa_nil)))) (pxa_cons (px_fn c_law_point hr (by decide) (fun z => nomatch z) (pxa_cons (px_var 0) (pxa_cons (px_int) (pxa_nil)))) (pxa_cons (px_fn c_law_point hr (by decide) (fun z => nomatch z) (pxa_cons (px_var 0) (pxa_cons (px_int) (pxa_nil)))) (pxa_nil))))) (pxg_tup rfl (pxgs_cons (pxg_name 2 sc_law_are_stretches_so.nd) (pxgs_cons (pxg_name 3 sc_law_are_stretches_so.nd) (pxgs_cons (pxg_name 4 sc_law_are_stretches_so.nd) (pxgs_nil)))) (gsl_cons (gsl_cons (gsl_cons (gsl_nil)))))) (pxs_cons (px_if (pxt_eq hr (px_fn c_side_of hr (by decide) (fun z => nomatch z) (pxa_cons (px_var 2) (pxa_cons (px_var 3) (pxa_cons (px_var 4) (pxa_nil))))) (px_int)) (pxs_one (px_ret (px_bl))) (pxs_nil)) (pxs_cons (px_set 5 sc_law_are_stretches_so.nd (pb_tuple G.b_tuple (pxa_cons (px_comp (own := [("at", 8)]) rfl sc_law_are_stretches_so.nd (pxi_range1 rfl G.b_range (pxa_cons (px_int) pxa_nil)) (blkOk_by (N := ["pot", "hair", "one", "other", "far", "on", "short", "side", "at"]) (sc := defScope s_law_are_stretches_so) (by decide +kernel)) (fun _ _ _ _ _ => pxg_name 8 sc_law_are_stretches_so.nd) (fun _ _ _ _ _ => pxts_nil) (fun _ _ _ _ _ => px_fn c_law_rate hr (by decide) (fun z => nomatch z) (pxa_cons (px_add (px_mul (px_ix (px_ix (px_var 2) (px_var 8)) (px_int)) (px_ix (px_ix (px_var 3) (px_var 8)) (px_int))) (px_mul (px_ix (px_ix (px_var 3) (px_var 8)) (px_int)) (px_ix (px_ix (px_var 2) (px_var 8)) (px_int)))) (pxa_cons (px_mul (px_mul (px_int) (px_ix (px_ix (px_var 2) (px_var 8)) (px_int))) (px_ix (px_ix (px_var 3) (px_var 8)) (px_int))) (pxa_nil)))) (by decide)) (pxa_nil)))) (pxs_cons (px_set 6 sc_law_are_stretches_so.nd (pb_tuple G.b_tuple (pxa_cons (px_comp (own := [("at", 8)]) rfl sc_law_are_stretches_so.nd (pxi_range1 rfl G.b_range (pxa_cons (px_int) pxa_nil)) (blkOk_by (N := ["pot", "hair", "one", "other", "far", "on", "short", "side", "at"]) (sc := defScope s_law_are_stretches_so) (by decide +kernel)) (fun _ _ _ _ _ => pxg_name 8 sc_law_are_stretches_so.nd) (fun _ _ _ _ _ => pxts_nil) (fun _ _ _ _ _ => px_fn c_law_plus hr (by decide) (fun z => nomatch z) (pxa_cons (px_ix (px_var 5) (px_var 8)) (pxa_cons (px_fn c_law_times hr (by decide) (fun z => nomatch z) (pxa_cons (px_fn c_law_less hr (by decide) (fun z => nomatch z) (pxa_cons (px_ix (px_var 4) (px_var 8)) (pxa_cons (px_ix (px_var 5) (px_var 8)) (pxa_nil)))) (pxa_cons (px_var 1) (pxa_nil)))) (pxa_nil)))) (by decide)) (pxa_nil)))) (pxs_cons (px_if (PXW.t (pxw_or (pxt_notB (px_fn c_is_on hr (by decide) (fun z => nomatch z) (pxa_cons (px_var 2) (pxa_cons (px_var 3) (pxa_cons (px_var 5) (pxa_nil))))) (px_bl)) (pxw_or1 (pxt_notB (px_fn c_is_on hr (by decide) (fun z => nomatch z) (pxa_cons (px_var 2) (pxa_cons (px_var 3) (pxa_cons (px_var 6) (pxa_nil))))) (px_bl))))) (pxs_one (px_ret (px_bl))) (pxs_nil)) (pxs_cons (px_if (PXW.t (pxw_or (pxt_notB (px_fn c_do_meet hr (by decide) (fun z => nomatch z) (pxa_cons (px_var 2) (pxa_cons (px_var 3) (pxa_cons (px_var 4) (pxa_cons (px_var 5) (pxa_nil)))))) (px_bl)) (pxw_or1 (pxt_notB (px_fn c_do_meet hr (by decide) (fun z => nomatch z) (pxa_cons (px_var 4) (pxa_cons (px_var 6) (pxa_cons (px_var 3) (pxa_cons (px_var 2) (pxa_nil)))))) (px_bl))))) (pxs_one (px_ret (px_bl))) (pxs_nil)) (pxs_cons (px_set 7 sc_law_are_stretches_so.nd (px_fn c_side_of hr (by decide) (fun z => nomatch z) (pxa_cons (px_var 2) (pxa_cons (px_var 3) (pxa_cons (px_var 4) (pxa_nil)))))) (pxs_one (px_ret (px_and (px_eq hr (px_fn c_side_of hr (by decide) (fun z => nomatch z) (pxa_cons (px_var 2) (pxa_cons (px_var 3) (pxa_cons (px_var 6) (pxa_nil))))) (px_var 7)) (px_one (px_eq hr (px_fn c_side_of hr (by decide) (fun z => nomatch z) (pxa_cons (px_var 3) (pxa_cons (px_var 2) (pxa_cons (px_var 6) (pxa_nil))))) (px_neg (px_var 7)))))))))))))
abbrev s_law_right : Stmt := top 92
theorem sc_law_right : FnScope ["pot", "lap", "hair"] ["pot"] (defScope s_law_right) := ⟨rfl, rfl, rfl, by decide +kernel, rfl, by decide +kernel, by decide +kernel⟩
theorem d_law_right (G : Gl0 P K mg) (D : DefIn K mg "_law_right" s_law_right) (c_law_take : Callee P w K mg base T false 1 "_law_take" ["pot", "upto"] f_law_take) (c_law_is_line_so : Callee P w K mg base T true 8 "_law_is_line_so" ["pot", "hair"] f_law_is_line_so) (c_law_are_circles_so : Callee P w K mg base T true 9 "_law_are_circles_so" ["pot", "hair"] f_law_are_circles_so) (c_law_are_stretches_so : Callee P w K mg base T false 9 "_law_are_stretches_so" ["pot", "hair"] f_law_are_stretches_so) : Callee P w K mg base T true 10 "_law_right" ["pot"] f_law_right :=
  callee_of (gd := true) (k := 9) D sc_law_right rfl rfl (fun _ _ _ _ _ _ us hl => match us, hl with | [_], _ => rfl) fun f cdv A outer s H E hg hr => pxs_cons (px_for (passes_of rfl) rfl (pxi_range1 rfl G.b_range (pxa_cons (px_int) pxa_nil)) (pxg_name 1 sc_law_right.nd) (pxs_cons (px_set 2 sc_law_right.nd (px_tup (pxa_cons (px_int) (pxa_cons (px_add (px_int) (pb_int G.b_int (pxa_cons (px_fn c_law_take hr (by decide) (fun z => nomatch z) (pxa_cons (px_var 0) (pxa_cons (px_int) (pxa_nil)))) (pxa_nil)))) (pxa_nil))))) (pxs_cons (px_if (PXW.t (pxw_or (pxt_not (pxt_truth (px_fn c_law_is_line_so hr (by decide) hg (pxa_cons (px_var 0) (pxa_cons (px_var 2) (pxa_nil)))))) (pxw_or1 (pxt_not (pxt_truth (px_fn c_law_are_circles_so hr (by decide) hg (pxa_cons (px_var 0) (pxa_cons (px_var 2) (pxa_nil))))))))) (pxs_one (px_ret (px_bl))) (pxs_nil)) (pxs_one (px_if (pxt_not (pxt_truth (px_fn c_law_are_stretches_so hr (by decide) (fun z => nomatch z) (pxa_cons (px_var 0) (pxa_cons (px_var 2) (pxa_nil)))))) (pxs_one (px_ret (px_bl))) (pxs_nil)))))) (pxs_one (px_ret (px_bl)))
abbrev s_law : Stmt := top 93
theorem sc_law : FnScope ["script", "place"] ["script"] (defScope s_law) := ⟨rfl, rfl, rfl, by decide +kernel, rfl, by decide +kernel, by decide +kernel⟩
theorem d_law (G : Gl0 P K mg) (D : DefIn K mg "law" s_law) (c_law_cells : Callee P w K mg base T false 1 "_law_cells" ["script", "most"] f_law_cells) (c_law_pot : Callee P w K mg base T false 1 "_law_pot" ["script", "place"] f_law_pot) (c_law_right : Callee P w K mg base T true 10 "_law_right" ["pot"] f_law_right) : Callee P w K mg base T true 11 "law" ["script"] f_law :=
  callee_of (gd := true) (k := 10) D sc_law rfl rfl (fun _ _ _ _ _ _ us hl => match us, hl with | [_], _ => rfl) fun f cdv A outer s H E hg hr => pxs_one (px_ret (pb_all rfl G.b_all (pxa_cons (px_comp (own := [("place", 1)]) rfl sc_law.nd (pxi_lst (px_fn c_law_cells hr (by decide) (fun z => nomatch z) (pxa_cons (px_var 0) (pxa_cons (px_int) (pxa_nil))))) (blkOk_by (N := ["script", "place"]) (sc := defScope s_law) (by decide +kernel)) (fun _ _ _ _ _ => pxg_name 1 sc_law.nd) (fun _ _ _ _ _ => pxts_nil) (fun _ _ _ _ _ => px_fn c_law_right hr (by decide) hg (pxa_cons (px_fn c_law_pot hr (by decide) (fun z => nomatch z) (pxa_cons (px_var 0) (pxa_cons (px_var 1) (pxa_nil)))) (pxa_nil))) (by decide)) (pxa_nil))))
end
end K20


set_option linter.all false
set_option autoImplicit false
set_option Elab.async false
set_option maxRecDepth 100000
set_option maxHeartbeats 2000000
/-! DLp: the mirror's combinators at work; the greatest common divisor, fractions in lowest terms. -/
namespace DL
open PySem
section
variable (ρ : Env) (S : Sto) (a b c : EF) (t u : TF) (s s' : SF)
@[simp] theorem ap_var (i : Nat) : eVar i ρ S = match ρ[i]? with | some (some d) => .ok d S | _ => .bad := rfl
@[simp] theorem ap_C (d : D) : eC d ρ S = .ok d S := rfl
@[simp] theorem ap_bin (g : D → D → Sto → R D) : eBin g a b ρ S = (a ρ S).bind fun x S => (b ρ S).bind fun y S => g x y S := rfl
@[simp] theorem ap_un (g : D → Sto → R D) : eUn g a ρ S = (a ρ S).bind fun x S => g x S := rfl
@[simp] theorem ap_and : eAnd a b ρ S = (a ρ S).bind fun x S => match x with | .bl true => b ρ S | .bl false => .ok (.bl false) S | _ => .bad := rfl
@[simp] theorem ap_or : eOr a b ρ S = (a ρ S).bind fun x S => match x with | .bl true => .ok (.bl true) S | .bl false => b ρ S | _ => .bad := rfl
@[simp] theorem ap_not : eNot a ρ S = (a ρ S).bind fun x S => match x with | .bl c => .ok (.bl (!c)) S | _ => .bad := rfl
@[simp] theorem ap_if : eIf t a b ρ S = (t ρ S).bind fun c S => match c with | true => a ρ S | false => b ρ S := rfl
@[simp] theorem ap_chain (g h : D → D → Sto → R D) : eChain g h a b c ρ S = (a ρ S).bind fun x S => (b ρ S).bind fun y S => (g x y S).bind fun k S => match k with | .bl true => (c ρ S).bind fun z S => h y z S | .bl false => .ok (.bl false) S | _ => .bad := rfl
@[simp] theorem ap_tOf : tOf a ρ S = (a ρ S).bind fun x S => match x with | .bl c => .ok c S | _ => .bad := rfl
@[simp] theorem ap_tAnd : DL.tAnd t u ρ S = (t ρ S).bind fun c S => match c with | true => u ρ S | false => .ok false S := rfl
@[simp] theorem ap_tOr : DL.tOr t u ρ S = (t ρ S).bind fun c S => match c with | true => .ok true S | false => u ρ S := rfl
@[simp] theorem ap_tNot : DL.tNot t ρ S = (t ρ S).bind fun c S => .ok (!c) S := rfl
@[simp] theorem ap_tTru : tTru a ρ S = (a ρ S).bind fun x S => match truD S x with | some c => .ok c S | none => .bad := rfl
@[simp] theorem ap_nil : aNil ρ S = .ok [] S := rfl
@[simp] theorem ap_cons (r : AF) : aCons a r ρ S = (a ρ S).bind fun x S => (r ρ S).bind fun xs S => .ok (x :: xs) S := rfl
@[simp] theorem ap_tup (r : AF) : eTup r ρ S = (r ρ S).bind fun xs S => if xs.length ≤ 16777216 then .ok (.tup xs) S else .bad := rfl
@[simp] theorem ap_lst (r : AF) : eLst r ρ S = (r ρ S).bind fun xs S => if xs.length ≤ 16777216 then .ok (.lst xs) S else .bad := rfl
@[simp] theorem ap_new (r : AF) : eNew r ρ S = (r ρ S).bind fun xs S => if xs.length ≤ 16777216 then .ok (.loc S.length) (S ++ [xs]) else .bad := rfl
@[simp] theorem ap_call (f : FN) (r : AF) : eCall f r ρ S = (r ρ S).bind fun xs S => f xs S := rfl
@[simp] theorem ap_sNil : sNil ρ S = .nx ρ S := rfl
@[simp] theorem ap_sSeq : sSeq s s' ρ S = (s ρ S).then fun ρ S => s' ρ S := rfl
@[simp] theorem ap_sRet : sRet a ρ S = (a ρ S).st ρ fun d S => .rt d S := rfl
@[simp] theorem ap_sRetN : sRetN ρ S = .rt .non S := rfl
@[simp] theorem ap_sBreak : sBreak ρ S = .bk ρ S := rfl
@[simp] theorem ap_sExpr : sExpr a ρ S = (a ρ S).st ρ fun _ S => .nx ρ S := rfl
@[simp] theorem ap_sIf : sIf t s s' ρ S = (t ρ S).st ρ fun c S => match c with | true => s ρ S | false => s' ρ S := rfl
@[simp] theorem ap_sAsg (g : TgF) : sAsg g a ρ S = (a ρ S).st ρ fun d S => match g d ρ with | some ρ => .nx ρ S | none => .bad := rfl
@[simp] theorem ap_sSet (i : Nat) : sSet i a ρ S = (a ρ S).st ρ fun d S => .nx (ρ.set i (some d)) S := rfl
@[simp] theorem ap_sPar (i j : Nat) (r : AF) : sPar i j r ρ S = (r ρ S).st ρ fun ds S => match ds with | [x, y] => .nx ((ρ.set i (some x)).set j (some y)) S | _ => .bad := rfl
@[simp] theorem ap_sPar3 (i j k : Nat) (r : AF) : sPar3 i j k r ρ S = (r ρ S).st ρ fun ds S => match ds with | [x, y, z] => .nx (((ρ.set i (some x)).set j (some y)).set k (some z)) S | _ => .bad := rfl
@[simp] theorem ap_sSub : sSub a b c ρ S = (c ρ S).st ρ fun v S => (a ρ S).st ρ fun o S => (b ρ S).st ρ fun i S => match setD o i v S with | some S => .nx ρ S | none => .bad := rfl
@[simp] theorem ap_sRaise (x : Str) : sRaise x a ρ S = (a ρ S).st ρ fun v S => .exc x v ρ S := rfl
@[simp] theorem ap_sFor (it : AF) (g : TgF) : sFor it g s ρ S = (it ρ S).st ρ fun ds S => forL g s ds ρ S := rfl
@[simp] theorem ap_tYes : tYes ρ S = .ok true S := rfl
@[simp] theorem ap_comp (vs : List Nat) (it : AF) (g : TgF) : eComp vs it g t a ρ S = (it ρ S).bind fun ds S => if ds.length ≤ 16777216 then (compL vs g t a ρ ds S).bind fun ys S => .ok (.lst ys) S else .bad := rfl
@[simp] theorem ap_wTup : wTup a ρ S = (a ρ S).bind fun x S => match x with | .tup xs => .ok xs S | _ => .bad := rfl
@[simp] theorem ap_wLst : wLst a ρ S = (a ρ S).bind fun x S => match x with | .lst xs => .ok xs S | _ => .bad := rfl
@[simp] theorem ap_listRg (r : AF) : eListRg r ρ S = (r ρ S).bind fun ds S => if ds.length ≤ 16777216 then .ok (.lst ds) S else .bad := rfl
@[simp] theorem ap_none : oNone ρ S = .ok none S := rfl
@[simp] theorem ap_some : oSome a ρ S = (a ρ S).bind fun x S => match x with | .int i => .ok (some i) S | _ => .bad := rfl
end
theorem rng_ok {j : Int} {r : AF} {ρ : Env} {S S' : Sto} (h : r ρ S = .ok [.int j] S') (h1 : 0 ≤ j) (h2 : j ≤ 1000000) : fRange1 r ρ S = .ok (rngL 0 j.toNat) S' := by
  have e : (2 : Int) ^ 62 = 4611686018427387904 := by decide +kernel
  unfold fRange1
  rw [h]
  show (if -(2 ^ 62) ≤ j ∧ j < 2 ^ 62 then R.ok (rngL 0 j.toNat) S' else R.bad) = _
  rw [if_pos (by rw [e]; omega)]
@[simp] theorem g_set (i : Nat) (d : D) (ρ : Env) : gSet i d ρ = some (ρ.set i (some d)) := rfl
@[simp] theorem g_nil (ρ : Env) : gsNil [] ρ = some ρ := rfl
@[simp] theorem g_cons (g : TgF) (r : TgsF) (d : D) (ds : List D) (ρ : Env) : gsCons g r (d :: ds) ρ = (g d ρ).bind fun ρ => r ds ρ := rfl
@[simp] theorem g_tup (r : TgsF) (ds : List D) (ρ : Env) : gTupD r (.tup ds) ρ = r ds ρ := rfl
@[simp] theorem d_add (i j : Int) (S : Sto) : dAdd (.int i) (.int j) S = .ok (.int (i + j)) S := rfl
@[simp] theorem d_sub (i j : Int) (S : Sto) : dSub (.int i) (.int j) S = .ok (.int (i - j)) S := rfl
@[simp] theorem d_neg (i : Int) (S : Sto) : dNeg (.int i) S = .ok (.int (-i)) S := rfl
@[simp] theorem d_lt (i j : Int) (S : Sto) : dLt (.int i) (.int j) S = .ok (.bl (decide (i < j))) S := rfl
@[simp] theorem d_le (i j : Int) (S : Sto) : dLe (.int i) (.int j) S = .ok (.bl (decide (i ≤ j))) S := rfl
@[simp] theorem d_gt (i j : Int) (S : Sto) : dGt (.int i) (.int j) S = .ok (.bl (decide (j < i))) S := rfl
@[simp] theorem d_ge (i j : Int) (S : Sto) : dGe (.int i) (.int j) S = .ok (.bl (decide (j ≤ i))) S := rfl
theorem d_mul {i j : Int} (h : mulOk i j = true) (S : Sto) : dMul (.int i) (.int j) S = .ok (.int (i * j)) S := by
  show (if mulOk i j then _ else _) = _
  rw [if_pos h]
theorem d_div {i j : Int} (h : divOk j = true) (S : Sto) : dDiv (.int i) (.int j) S = .ok (.int (i.fdiv j)) S := by
  show (if divOk j then _ else _) = _
  rw [if_pos h]
theorem d_mod {i j : Int} (h : j ≠ 0) (S : Sto) : dMod (.int i) (.int j) S = .ok (.int (i.fmod j)) S := by
  show (if j ≠ 0 then _ else _) = _
  rw [if_pos h]
@[simp] theorem f_abs (i : Int) (S : Sto) : fAbs [.int i] S = .ok (.int i.natAbs) S := by
  show R.ok (D.int (if i < 0 then -i else i)) S = _
  congr 2; split <;> omega
@[simp] theorem f_int (i : Int) (S : Sto) : fInt [.int i] S = .ok (.int i) S := rfl
@[simp] theorem f_intB (b : Bool) (S : Sto) : fInt [.bl b] S = .ok (.int (b2i b)) S := rfl
theorem at_0 {α : Type} (x : α) (xs : List α) : L2.atI (x :: xs) 0 = some x := by
  unfold L2.atI L2.ixN
  rw [if_pos (Int.le_refl 0), if_pos (by simp)]; rfl
theorem at_1 {α : Type} (x y : α) (xs : List α) : L2.atI (x :: y :: xs) 1 = some y := by
  unfold L2.atI L2.ixN
  rw [if_pos (by decide), if_pos (by simp; omega)]; rfl
theorem at_2 {α : Type} (x y z : α) (xs : List α) : L2.atI (x :: y :: z :: xs) 2 = some z := by
  unfold L2.atI L2.ixN
  rw [if_pos (by decide), if_pos (by simp; omega)]; rfl
@[simp] theorem ix_t0 (x : D) (xs : List D) (S : Sto) : dIx (.tup (x :: xs)) (.int 0) S = .ok x S := by
  show (match L2.atI (x :: xs) 0 with | some d => R.ok d S | none => R.bad) = _
  rw [at_0]
@[simp] theorem ix_t1 (x y : D) (S : Sto) : dIx (.tup [x, y]) (.int 1) S = .ok y S := by
  show (match L2.atI [x, y] 1 with | some d => R.ok d S | none => R.bad) = _
  rw [at_1]
@[simp] theorem len_t (xs : List D) (S : Sto) : fLen [.tup xs] S = .ok (.int xs.length) S := rfl
@[simp] theorem len_l (xs : List D) (S : Sto) : fLen [.lst xs] S = .ok (.int xs.length) S := rfl
/-! ### equality of data -/
theorem eqI (i j : Int) : eqD (.int i) (.int j) = some (decide (i = j)) := by
  unfold eqD
  simp [D.pd, SeqAt.shaped, PyData.eqv, PyData.canLay0, PyData.depth]
  rfl
/-- a fraction, a pair of fractions -/
def F (x : Int × Int) : D := .tup [.int x.1, .int x.2]
def F2 (x y : Int × Int) : D := .tup [F x, F y]
theorem eqF (x y : Int × Int) : eqD (F x) (F y) = some (decide (x = y)) := by
  obtain ⟨a, b⟩ := x; obtain ⟨c, d⟩ := y
  unfold eqD F
  simp [D.pd, D.pdL, SeqAt.shaped, PyData.eqv, PyData.canLay0, PyData.canLayAll0, PyData.depth, PyData.depthAll, PyData.eqvAll]
  try grind
theorem eqF2 (x y u v : Int × Int) : eqD (F2 x y) (F2 u v) = some (decide (x = u ∧ y = v)) := by
  obtain ⟨a, b⟩ := x; obtain ⟨c, d⟩ := y
  unfold eqD F2 F
  simp [D.pd, D.pdL, SeqAt.shaped, PyData.eqv, PyData.canLay0, PyData.canLayAll0, PyData.depth, PyData.depthAll, PyData.eqvAll]
  try grind
/-! ### sizes -/
theorem log_of {i : Int} {n : Nat} (h : i.natAbs < 2 ^ n) (hn : 0 < n) : i.natAbs.log2 < n := by
  by_cases z : i.natAbs = 0
  · rw [z]; simpa using hn
  · exact (Nat.log2_lt z).mpr h
theorem mulOk_of {i j : Int} (h1 : i.natAbs < 2 ^ 400000) (h2 : j.natAbs < 2 ^ 400000) : mulOk i j = true := by
  have a := log_of h1 (by omega)
  have b := log_of h2 (by omega)
  unfold mulOk
  exact decide_eq_true (by omega)
theorem divOk_of {j : Int} (h0 : j ≠ 0) (h : j.natAbs < 2 ^ 9000) : divOk j = true := by
  have a := log_of h (by omega)
  unfold divOk
  exact decide_eq_true ⟨h0, a⟩
end DL


set_option linter.all false
set_option autoImplicit false
set_option Elab.async false
set_option maxRecDepth 100000
set_option maxHeartbeats 2000000
/-! DLq: fractions in lowest terms, whole numbers only. -/
namespace DL
/-- t / b in lowest terms -/
def red (t b : Int) : Int × Int := (t.fdiv (if b < 0 then -(Int.gcd t b : Int) else (Int.gcd t b : Int)), b.fdiv (if b < 0 then -(Int.gcd t b : Int) else (Int.gcd t b : Int)))
structure Low (x : Int × Int) : Prop where
  pos : 0 < x.2
  one : Int.gcd x.1 x.2 = 1
theorem red_spec (t b : Int) (h : b ≠ 0) : ∃ g : Int, g ≠ 0 ∧ t = g * (red t b).1 ∧ b = g * (red t b).2 ∧ Low (red t b) := by
  have hg : 0 < Int.gcd t b := Int.gcd_pos_of_ne_zero_right t h
  obtain ⟨t', ht⟩ := Int.gcd_dvd_left (a := t) (b := b)
  obtain ⟨b', hb⟩ := Int.gcd_dvd_right (a := t) (b := b)
  have hg0 : (Int.gcd t b : Int) ≠ 0 := by omega
  have one : Int.gcd t' b' = 1 := by
    have e : Int.gcd ((Int.gcd t b : Int) * t') ((Int.gcd t b : Int) * b') = Int.gcd t b := by rw [← ht, ← hb]
    rw [Int.gcd_mul_left] at e
    have : Int.gcd t b * Int.gcd t' b' = Int.gcd t b * 1 := by simpa using e
    exact Nat.eq_of_mul_eq_mul_left hg this
  by_cases hn : b < 0
  · have e1 : t.fdiv (-(Int.gcd t b : Int)) = -t' := by
      have : t = (-(Int.gcd t b : Int)) * (-t') := by rw [Int.neg_mul_neg]; exact ht
      conv => lhs; arg 1; rw [this]
      exact Int.mul_fdiv_cancel_left _ (by omega)
    have e2 : b.fdiv (-(Int.gcd t b : Int)) = -b' := by
      have : b = (-(Int.gcd t b : Int)) * (-b') := by rw [Int.neg_mul_neg]; exact hb
      conv => lhs; arg 1; rw [this]
      exact Int.mul_fdiv_cancel_left _ (by omega)
    have er : red t b = (-t', -b') := by unfold red; rw [if_pos hn, e1, e2]
    have hb' : b' < 0 := by
      by_cases z : b' < 0
      · exact z
      · have : 0 ≤ (Int.gcd t b : Int) * b' := Int.mul_nonneg (by omega) (by omega)
        omega
    refine ⟨-(Int.gcd t b : Int), by omega, ?_, ?_, ⟨?_, ?_⟩⟩
    · rw [er]; show t = -(Int.gcd t b : Int) * -t'; rw [Int.neg_mul_neg]; exact ht
    · rw [er]; show b = -(Int.gcd t b : Int) * -b'; rw [Int.neg_mul_neg]; exact hb
    · rw [er]; show 0 < -b'; omega
    · rw [er]; show Int.gcd (-t') (-b') = 1; rw [Int.neg_gcd, Int.gcd_neg]; exact one
  · have e1 : t.fdiv (Int.gcd t b : Int) = t' := by conv => lhs; arg 1; rw [ht]
                                                    exact Int.mul_fdiv_cancel_left _ hg0
    have e2 : b.fdiv (Int.gcd t b : Int) = b' := by conv => lhs; arg 1; rw [hb]
                                                    exact Int.mul_fdiv_cancel_left _ hg0
    have er : red t b = (t', b') := by unfold red; rw [if_neg hn, e1, e2]
    have hb' : 0 < b' := by
      by_cases z : 0 < b'
      · exact z
      · have : (Int.gcd t b : Int) * b' ≤ 0 := Int.mul_nonpos_of_nonneg_of_nonpos (by omega) (by omega)
        omega
    exact ⟨Int.gcd t b, hg0, by rw [er]; exact ht, by rw [er]; exact hb, by rw [er]; exact hb', by rw [er]; exact one⟩
theorem low_uniq {x y : Int × Int} (hx : Low x) (hy : Low y) (h : x.1 * y.2 = y.1 * x.2) : x = y := by
  have key : ∀ {x y : Int × Int}, Low x → Low y → x.1 * y.2 = y.1 * x.2 → x.2.natAbs ∣ y.2.natAbs := fun {x y} hx hy h => by
    have d : x.2.natAbs ∣ x.1.natAbs * y.2.natAbs := by
      rw [← Int.natAbs_mul, h, Int.natAbs_mul]
      exact Nat.dvd_mul_left _ _
    have c : Nat.Coprime x.2.natAbs x.1.natAbs := by
      have := hx.one
      unfold Int.gcd at this
      rw [Nat.coprime_comm]; exact this
    exact c.dvd_of_dvd_mul_left d
  have e : x.2 = y.2 := by
    have := Nat.dvd_antisymm (key hx hy h) (key hy hx h.symm)
    have := hx.pos; have := hy.pos
    omega
  have e1 : x.1 = y.1 := by
    rw [e] at h
    exact Int.eq_of_mul_eq_mul_right (by have := hy.pos; omega) h
  exact Prod.ext e1 e
theorem red_cross (t b : Int) (h : b ≠ 0) : (red t b).1 * b = t * (red t b).2 := by
  obtain ⟨g, g0, e1, e2, _⟩ := red_spec t b h
  generalize red t b = x at *
  rw [e1, e2]; grind
theorem red_low (t b : Int) (h : b ≠ 0) : Low (red t b) := (red_spec t b h).choose_spec.2.2.2
theorem red_eq {t b u d : Int} (hb : b ≠ 0) (hd : d ≠ 0) (h : t * d = u * b) : red t b = red u d := by
  refine low_uniq (red_low t b hb) (red_low u d hd) ?_
  obtain ⟨g, g0, e1, e2, _⟩ := red_spec t b hb
  obtain ⟨k, k0, e3, e4, _⟩ := red_spec u d hd
  generalize red t b = x at *
  generalize red u d = y at *
  have : (g * k) * (x.1 * y.2) = (g * k) * (y.1 * x.2) := by rw [e1, e2, e3, e4] at h; grind
  exact Int.eq_of_mul_eq_mul_left (Int.mul_ne_zero g0 k0) this
theorem red_of_low {x : Int × Int} (h : Low x) : red x.1 x.2 = x := by
  have n : x.2 ≠ 0 := by have := h.pos; omega
  exact low_uniq (red_low _ _ n) h (red_cross _ _ n)
theorem red_ne {t b u d : Int} (hb : b ≠ 0) (hd : d ≠ 0) (h : red t b = red u d) : t * d = u * b := by
  have c1 := red_cross t b hb
  have c2 := red_cross u d hd
  obtain ⟨g, g0, e1, e2, lo⟩ := red_spec t b hb
  obtain ⟨k, k0, e3, e4, _⟩ := red_spec u d hd
  rw [← h] at e3 e4
  generalize red t b = x at *
  rw [e1, e4, e3, e2]; grind
/-- the bottom is not greater, the top neither -/
theorem red_le (t b : Int) (h : b ≠ 0) : (red t b).1.natAbs ≤ t.natAbs ∧ (red t b).2.natAbs ≤ b.natAbs := by
  obtain ⟨g, g0, e1, e2, _⟩ := red_spec t b h
  generalize red t b = x at *
  have hg : 1 ≤ g.natAbs := by omega
  constructor
  · rw [e1, Int.natAbs_mul]; exact Nat.le_mul_of_pos_left _ hg
  · rw [e2, Int.natAbs_mul]; exact Nat.le_mul_of_pos_left _ hg
theorem red_gcd (t b : Int) (h : b ≠ 0) : Int.gcd t b ≤ b.natAbs := Nat.le_of_dvd (by omega) (Int.gcd_dvd_natAbs_right t b)
end DL


set_option linter.all false
set_option autoImplicit false
set_option Elab.async false
set_option maxRecDepth 100000
set_option maxHeartbeats 2000000
/-! DLr: repr. -/
namespace DL
open PySem
theorem okS (s : String) : PyData.strOk (Str.ofString s) = true := by
  rw [Str.ofString_eq_toList]
  unfold PyData.strOk
  simp only [List.all_toArray, List.all_eq_true, List.mem_map, decide_eq_true_eq, forall_exists_index, and_imp, forall_apply_eq_imp_iff₂]
  intro c _
  have := c.valid
  unfold Char.toNat
  rcases this with h | ⟨_, h⟩
  · exact Nat.lt_trans h (by decide)
  · exact h
theorem okApp {a b : Str} (ha : PyData.strOk a = true) (hb : PyData.strOk b = true) : PyData.strOk (a ++ b) = true := by
  unfold PyData.strOk at *
  have e : (a ++ b).cps = a.cps ++ b.cps := rfl
  rw [e, Array.all_append, ha, hb]; rfl
theorem okJoin : ∀ ts : List Str, (∀ t ∈ ts, PyData.strOk t = true) → PyData.strOk (Str.join ", " ts) = true
  | [], _ => by decide +kernel
  | [x], h => h x (by simp)
  | x :: y :: r, h => by
    show PyData.strOk (x ++ Str.ofString ", " ++ Str.join ", " (y :: r)) = true
    exact okApp (okApp (h x (by simp)) (okS _)) (okJoin (y :: r) fun t ht => h t (List.mem_cons_of_mem _ ht))
theorem okFrom : ∀ (ts : List Str) (k : Nat) (acc : Str), PyData.strOk acc = true → (∀ t ∈ ts, PyData.strOk t = true) → PyData.strOk (textFrom k acc ts) = true
  | [], _, _, ha, _ => ha
  | t :: r, k, acc, ha, h => by
    show PyData.strOk (textFrom (k + 1) (acc ++ Str.ofString (if k > 0 then ", " else "") ++ t) r) = true
    refine okFrom r (k + 1) _ (okApp (okApp ha (okS _)) (h t (by simp))) fun u hu => h u (List.mem_cons_of_mem _ hu)
mutual
/-- whole numbers (short), truth values, None, tuples of these -/
def plainP : PyData → Bool
  | .none => true
  | .bool _ => true
  | .int i => decide (i.natAbs < 2 ^ 1900)
  | .tuple xs => plainPs xs
  | .list xs => plainPs xs
  | _ => false
def plainPs : List PyData → Bool
  | [] => true
  | x :: xs => plainP x && plainPs xs
end
mutual
theorem ok_shown : ∀ d : PyData, plainP d = true → PyData.strOk d.shown = true
  | .none, _ => okS _
  | .bool b, _ => by cases b <;> exact okS _
  | .int i, _ => okS _
  | .tuple xs, h => by
    have hx : plainPs xs = true := by simpa [plainP] using h
    have e : (PyData.tuple xs).shown = tupleText (PyData.shownAll xs) := by simp only [PyData.shown]
    rw [e]
    refine okApp (okApp (okS _) (okJoin _ (ok_shownAll xs hx))) (okS _)
  | .str _, h => by simp [plainP] at h
  | .list xs, h => by
    have hx : plainPs xs = true := by simpa [plainP] using h
    have e : (PyData.list xs).shown = listText (PyData.shownAll xs) := by simp only [PyData.shown]
    rw [e]
    exact okApp (okFrom _ 0 _ (okS _) (ok_shownAll xs hx)) (okS _)
  | .dict _, h => by simp [plainP] at h
theorem ok_shownAll : ∀ ds : List PyData, plainPs ds = true → ∀ t ∈ PyData.shownAll ds, PyData.strOk t = true
  | [], _, t, h => by simp [PyData.shownAll] at h
  | x :: xs, hp, t, h => by
    simp only [plainPs, Bool.and_eq_true] at hp
    simp only [PyData.shownAll, List.mem_cons] at h
    rcases h with rfl | h
    · exact ok_shown x hp.1
    · exact ok_shownAll xs hp.2 t h
end
mutual
theorem plain_short : ∀ d : PyData, plainP d = true → d.leavesShort 600 = true ∧ d.showable = true ∧ d.canLay0 = true
  | .none, _ => by simp [PyData.leavesShort, PyData.showable, PyData.canLay0]
  | .bool b, _ => by simp [PyData.leavesShort, PyData.showable, PyData.canLay0]
  | .int i, h => by
    have h : i.natAbs < 2 ^ 1900 := by simpa [plainP] using h
    have h10 : (2 : Nat) ^ 1900 ≤ 10 ^ 580 := by decide +kernel
    refine ⟨?_, ?_, by simp [PyData.canLay0]⟩
    · simp only [PyData.leavesShort, decide_eq_true_eq]
      have e := int_text_length_le10 (k := 580) (a := i) (by decide) (Nat.lt_of_lt_of_le h h10)
      show (Str.ofString (toString i)).length ≤ 600
      have el : (Str.ofString (toString i)).length = (toString i).length := by first | exact ofString_length _ | exact Str.ofString_length _ | exact StrLaws.ofString_length _
      rw [el]
      exact Nat.le_trans e (by decide)
    · have := log_of (i := i) h (by decide)
      simp only [PyData.showable, decide_eq_true_eq]; omega
  | .tuple xs, h => by
    have hx : plainPs xs = true := by simpa [plainP] using h
    obtain ⟨a, b, c⟩ := plains_short xs hx
    simp [PyData.leavesShort, PyData.showable, PyData.canLay0, a, b, c]
  | .str _, h => by simp [plainP] at h
  | .list xs, h => by
    have hx : plainPs xs = true := by simpa [plainP] using h
    obtain ⟨a, b, c⟩ := plains_short xs hx
    simp [PyData.leavesShort, PyData.showable, PyData.canLay0, a, b, c]
  | .dict _, h => by simp [plainP] at h
theorem plains_short : ∀ ds : List PyData, plainPs ds = true → PyData.leavesShortAll 600 ds = true ∧ PyData.showableAll ds = true ∧ PyData.canLayAll0 ds = true
  | [], _ => by simp [PyData.leavesShortAll, PyData.showableAll, PyData.canLayAll0]
  | x :: xs, hp => by
    simp only [plainPs, Bool.and_eq_true] at hp
    obtain ⟨a, b, c⟩ := plain_short x hp.1
    obtain ⟨a', b', c'⟩ := plains_short xs hp.2
    simp [PyData.leavesShortAll, PyData.showableAll, PyData.canLayAll0, a, b, c, a', b', c']
end
/-- repr gives the text t -/
theorem repr_eq {x : D} {p : PyData} (h : x.pd = some p) (hp : plainP p = true) (hb : p.bulk ≤ 1000) (hd : p.depth ≤ 60) (S : Sto) : fRepr [x] S = .ok (.str p.shown) S := by
  obtain ⟨a, b, c⟩ := plain_short p hp
  have l := PyData.shown_le_bulk 600 (by decide) p a
  have l2 : p.shown.length ≤ 16777216 := by omega
  unfold fRepr
  simp [h, b, c, l2, hd]
theorem eqS {x y : Str} (hx : PyData.strOk x = true) (hy : PyData.strOk y = true) : eqD (.str x) (.str y) = some (x == y) := by
  unfold eqD
  simp [D.pd, SeqAt.shaped, PyData.canLay0, hx, hy, PyData.depth, PyData.eqv]
theorem ne_self {x : Str} (hx : PyData.strOk x = true) (S : Sto) : dNe (.str x) (.str x) S = .ok (.bl false) S := by
  unfold dNe
  rw [eqS hx hx]; simp
end DL


set_option linter.all false
set_option autoImplicit false
set_option Elab.async false
set_option maxRecDepth 100000
set_option maxHeartbeats 2000000
/-! DLt: what every plain law uses and no def of a program stands in: sizes, fractions, repr of them, stores of drawn numbers. -/
namespace DL
open PySem
theorem lt9 {n : Nat} (h : n < 2 ^ 9000) : n < 2 ^ 400000 := Nat.lt_of_lt_of_le h (Nat.pow_le_pow_right (by decide) (by omega))
/-- both parts below 2 ^ n -/
structure Sz (n : Nat) (x : Int × Int) : Prop where
  a : x.1.natAbs < 2 ^ n
  b : x.2.natAbs < 2 ^ n
theorem Sz.mono {n m : Nat} {x : Int × Int} (h : Sz n x) (hm : n ≤ m) : Sz m x := ⟨Nat.lt_of_lt_of_le h.a (Nat.pow_le_pow_right (by decide) hm), Nat.lt_of_lt_of_le h.b (Nat.pow_le_pow_right (by decide) hm)⟩
theorem mul_lt {i j : Int} {n m : Nat} (h1 : i.natAbs < 2 ^ n) (h2 : j.natAbs < 2 ^ m) : (i * j).natAbs < 2 ^ (n + m) := by
  rw [Int.natAbs_mul, Nat.pow_add]
  exact Nat.mul_lt_mul'' h1 h2
theorem up_lt {i : Int} {n m : Nat} (h : i.natAbs < 2 ^ n) (hm : n ≤ m) : i.natAbs < 2 ^ m := Nat.lt_of_lt_of_le h (Nat.pow_le_pow_right (by decide) hm)
theorem mul_ok {i j : Int} {n m : Nat} (h1 : i.natAbs < 2 ^ n) (h2 : j.natAbs < 2 ^ m) (hn : n ≤ 400000 := by omega) (hm : m ≤ 400000 := by omega) : mulOk i j = true := mulOk_of (up_lt h1 hn) (up_lt h2 hm)
theorem small_ok {i j : Int} (h1 : i.natAbs < 2 ^ 200) (h2 : j.natAbs < 2 ^ 200) : mulOk i j = true := mul_ok h1 h2
theorem lt_of40 {i : Int} {n : Nat} (h : i.natAbs ≤ 1099511627776) (hn : 41 ≤ n) : i.natAbs < 2 ^ n :=
  Nat.lt_of_lt_of_le (show i.natAbs < 2 ^ 41 by omega) (Nat.pow_le_pow_right (by decide) hn)
/-- parts of at most 2 ^ 40 -/
theorem m40 {i j : Int} (h1 : i.natAbs ≤ 1099511627776) (h2 : j.natAbs ≤ 1099511627776) : mulOk i j = true := mul_ok (n := 41) (m := 41) (lt_of40 h1 (by decide)) (lt_of40 h2 (by decide))
theorem d40 {j : Int} (h0 : j ≠ 0) (h : j.natAbs ≤ 1099511627776) : divOk j = true := divOk_of h0 (lt_of40 h (by decide))
theorem sz_w {w : Int} (h : w.natAbs ≤ 1099511627776) {n : Nat} (hn : 41 ≤ n := by decide) : Sz n (w, 1) := ⟨lt_of40 h hn, lt_of40 (by simp) hn⟩
theorem sz_q {q : Int} (h : q.natAbs ≤ 1099511627776) {n : Nat} (hn : 41 ≤ n := by decide) : Sz n (1, q) := ⟨lt_of40 (by simp) hn, lt_of40 h hn⟩
theorem sz_of {x : Int × Int} (h1 : x.1.natAbs ≤ 1099511627776) (h2 : x.2.natAbs ≤ 1099511627776) {n : Nat} (hn : 41 ≤ n := by decide) : Sz n x := ⟨lt_of40 h1 hn, lt_of40 h2 hn⟩
theorem sqn (a : Int) : 0 ≤ a * a := by
  rcases Int.le_total 0 a with h | h
  · exact Int.mul_nonneg h h
  · exact Int.mul_nonneg_of_nonpos_of_nonpos h h
theorem low_ne {x : Int × Int} (h : Low x) : x.2 ≠ 0 := by have := h.pos; omega
theorem red_sz {a b : Int} {n : Nat} (hb : b ≠ 0) (ha : a.natAbs ≤ b.natAbs) (h : b.natAbs < 2 ^ n) : Sz n (red a b) :=
  ⟨Nat.lt_of_le_of_lt (Nat.le_trans (red_le a b hb).1 ha) h, Nat.lt_of_le_of_lt (red_le a b hb).2 h⟩
theorem red_neg {a n : Int} (hn : n ≠ 0) : red (-a) n = (-(red a n).1, (red a n).2) := by
  refine low_uniq (red_low _ _ hn) ⟨(red_low a n hn).pos, ?_⟩ ?_
  · show Int.gcd (-(red a n).1) (red a n).2 = 1
    rw [Int.neg_gcd]; exact (red_low a n hn).one
  · have c1 := red_cross a n hn
    have c2 := red_cross (-a) n hn
    have : n * ((red (-a) n).1 * (red a n).2) = n * (-(red a n).1 * (red (-a) n).2) := by grind
    exact Int.eq_of_mul_eq_mul_left hn this
theorem red_one {n : Int} (hn : n ≠ 0) : red n n = (1, 1) := by
  refine low_uniq (red_low _ _ hn) ⟨by decide, by decide⟩ ?_
  have := red_cross n n hn
  have e : n * ((red n n).1) = n * (red n n).2 := by grind
  have := Int.eq_of_mul_eq_mul_left hn e
  show (red n n).1 * 1 = 1 * (red n n).2
  omega
theorem red_zero {n : Int} (hn : n ≠ 0) : red 0 n = (0, 1) := by
  have e : red 0 n = red 0 1 := red_eq hn (by decide) (by grind)
  rw [e]; decide
/-- a fraction that is told by one in lowest terms -/
theorem red_is {t b : Int} {x : Int × Int} (hb : b ≠ 0) (hx : Low x) (h : t * x.2 = x.1 * b) : red t b = x := by
  rw [← red_of_low hx]; exact red_eq hb (low_ne hx) h
theorem low_neg {x : Int × Int} (h : Low x) : Low (-x.1, x.2) := ⟨h.pos, by show Int.gcd (-x.1) x.2 = 1; rw [Int.neg_gcd]; exact h.one⟩
theorem low_whole (n : Int) : Low (n, 1) := ⟨Int.one_pos, Int.gcd_one⟩
/-- one of a combination of both -/
theorem low_comb {a b u v : Int} (hb : 0 < b) (h : a * u + b * v = 1) : Low (a, b) := by
  refine ⟨hb, ?_⟩
  have h1 : ((Int.gcd a b : Nat) : Int) ∣ a := Int.gcd_dvd_left _ _
  have h2 : ((Int.gcd a b : Nat) : Int) ∣ b := Int.gcd_dvd_right _ _
  have h3 : ((Int.gcd a b : Nat) : Int) ∣ 1 := by
    rw [← h]; exact Int.dvd_add (Int.dvd_trans h1 (Int.dvd_mul_right _ _)) (Int.dvd_trans h2 (Int.dvd_mul_right _ _))
  have h4 : Int.gcd a b ∣ 1 := by exact_mod_cast h3
  exact Nat.dvd_one.mp h4
/-- a whole number less or more changes nothing -/
theorem low_sub {x : Int × Int} (h : Low x) (w : Int) : Low (x.1 - w * x.2, x.2) := by
  refine ⟨h.pos, ?_⟩
  have := h.one
  show Int.gcd (x.1 - w * x.2) x.2 = 1
  have e : x.1 - w * x.2 = x.1 + -w * x.2 := by grind
  rw [e]; simpa using this
theorem low_flip {x : Int × Int} (h : Low x) (hx : 0 < x.1) : Low (x.2, x.1) := ⟨hx, by show Int.gcd x.2 x.1 = 1; rw [Int.gcd_comm]; exact h.one⟩
/-! ### repr -/
theorem pdF (x : Int × Int) : (F x).pd = some (.tuple [.int x.1, .int x.2]) := by simp [F, D.pd, D.pdL]
theorem rpF {x : Int × Int} (h : Sz 1900 x) (S : Sto) : fRepr [F x] S = .ok (.str (PyData.shown (.tuple [.int x.1, .int x.2]))) S :=
  repr_eq (pdF x) (by simp [plainP, plainPs, h.a, h.b]) (by simp [PyData.bulk, PyData.bulkAll]) (by simp [PyData.depth, PyData.depthAll]) S
theorem okF {x : Int × Int} (h : Sz 1900 x) : PyData.strOk (PyData.shown (.tuple [.int x.1, .int x.2])) = true := ok_shown _ (by simp [plainP, plainPs, h.a, h.b])
theorem rpN (S : Sto) : fRepr [.non] S = .ok (.str (PyData.shown .none)) S := repr_eq (x := .non) rfl rfl (by decide) (by decide) S
theorem okN : PyData.strOk (PyData.shown .none) = true := ok_shown _ rfl
theorem rpI {i : Int} (h : i.natAbs < 2 ^ 1900) (S : Sto) : fRepr [.int i] S = .ok (.str (PyData.shown (.int i))) S := repr_eq (x := .int i) rfl (by simp [plainP, h]) (by simp [PyData.bulk]) (by simp [PyData.depth]) S
theorem okI {i : Int} (h : i.natAbs < 2 ^ 1900) : PyData.strOk (PyData.shown (.int i)) = true := ok_shown _ (by simp [plainP, h])
theorem rpB (b : Bool) (S : Sto) : fRepr [.bl b] S = .ok (.str (PyData.shown (.bool b))) S := repr_eq (x := .bl b) rfl rfl (by simp [PyData.bulk]) (by simp [PyData.depth]) S
theorem okB (b : Bool) : PyData.strOk (PyData.shown (.bool b)) = true := ok_shown _ rfl
theorem evF (a b c d : Int) : PyData.eqv (.tuple [.int a, .int b]) (.tuple [.int c, .int d]) = (decide (a = c) && decide (b = d)) := by
  have h1 : PyData.eqv (.int a) (.int c) = decide (a = c) := by unfold PyData.eqv; rfl
  have h2 : PyData.eqv (.int b) (.int d) = decide (b = d) := by unfold PyData.eqv; rfl
  have h3 : PyData.eqv (.tuple [.int a, .int b]) (.tuple [.int c, .int d]) = (PyData.eqv (.int a) (.int c) && (PyData.eqv (.int b) (.int d) && true)) := by
    simp only [PyData.eqv, PyData.eqvAll]
  rw [h3, h1, h2, Bool.and_true]
theorem dEqF (x y : Int × Int) (S : Sto) : dEq (F x) (F y) S = .ok (.bl (decide (x = y))) S := by unfold dEq; rw [eqF]
theorem dNeF (x y : Int × Int) (S : Sto) : dNe (F x) (F y) S = .ok (.bl (!decide (x = y))) S := by unfold dNe; rw [eqF]
theorem dEqI (i j : Int) (S : Sto) : dEq (.int i) (.int j) S = .ok (.bl (decide (i = j))) S := by unfold dEq; rw [eqI]
theorem dNeI (i j : Int) (S : Sto) : dNe (.int i) (.int j) S = .ok (.bl (!decide (i = j))) S := by unfold dNe; rw [eqI]
theorem eqBl (a b : Bool) : eqD (.bl a) (.bl b) = some (a == b) := by
  cases a <;> cases b <;> rfl
theorem dEqBl (a b : Bool) (S : Sto) : dEq (.bl a) (.bl b) S = .ok (.bl (a == b)) S := by unfold dEq; rw [eqBl]
@[simp] theorem ixF0 (x : Int × Int) (S : Sto) : dIx (F x) (.int 0) S = .ok (.int x.1) S := by unfold F; simp
@[simp] theorem ixF1 (x : Int × Int) (S : Sto) : dIx (F x) (.int 1) S = .ok (.int x.2) S := by unfold F; simp
theorem ix3_0 (x y z : D) (S : Sto) : dIx (.tup [x, y, z]) (.int 0) S = .ok x S := ix_t0 _ _ S
theorem ix3_1 (x y z : D) (S : Sto) : dIx (.tup [x, y, z]) (.int 1) S = .ok y S := by
  show (match L2.atI [x, y, z] 1 with | some d => R.ok d S | none => R.bad) = _
  rw [at_1]
theorem ix3_2 (x y z : D) (S : Sto) : dIx (.tup [x, y, z]) (.int 2) S = .ok z S := by
  show (match L2.atI [x, y, z] 2 with | some d => R.ok d S | none => R.bad) = _
  rw [at_2]
theorem mkF (a b : Int) : D.tup [.int a, .int b] = F (a, b) := rfl
theorem lenF (x : Int × Int) (S : Sto) : fLen [F x] S = .ok (.int 2) S := rfl
/-! ### kinds -/
theorem ki_ii : L2.kitB "int" "int" = some true := by decide +kernel
theorem ki_ib : L2.kitB "int" "bool" = some false := by decide +kernel
theorem ki_bi : L2.kitB "bool" "int" = some true := by decide +kernel
theorem ki_bb : L2.kitB "bool" "bool" = some true := by decide +kernel
theorem ki_ni : L2.kitB "NoneType" "int" = some false := by decide +kernel
theorem ki_ti : L2.kitB "tuple" "int" = some false := by decide +kernel
theorem ki_tt : L2.kitB "tuple" "tuple" = some true := by decide +kernel
theorem ki_lt : L2.kitB "list" "tuple" = some false := by decide +kernel
theorem isIntI (sb : Str → Str → Option Bool) (i : Int) (S : Sto) : fIsi sb [.int i, .ty "int"] S = .ok (.bl true) S := by simp [fIsi, tyD, ki_ii]
theorem isBoolI (sb : Str → Str → Option Bool) (i : Int) (S : Sto) : fIsi sb [.int i, .ty "bool"] S = .ok (.bl false) S := by simp [fIsi, tyD, ki_ib]
theorem isIntB (sb : Str → Str → Option Bool) (i : Bool) (S : Sto) : fIsi sb [.bl i, .ty "int"] S = .ok (.bl true) S := by simp [fIsi, tyD, ki_bi]
theorem isBoolB (sb : Str → Str → Option Bool) (i : Bool) (S : Sto) : fIsi sb [.bl i, .ty "bool"] S = .ok (.bl true) S := by simp [fIsi, tyD, ki_bb]
theorem isIntN (sb : Str → Str → Option Bool) (S : Sto) : fIsi sb [.non, .ty "int"] S = .ok (.bl false) S := by simp [fIsi, tyD, ki_ni]
theorem isIntT (sb : Str → Str → Option Bool) (xs : List D) (S : Sto) : fIsi sb [.tup xs, .ty "int"] S = .ok (.bl false) S := by simp [fIsi, tyD, ki_ti]
theorem isTupT (sb : Str → Str → Option Bool) (xs : List D) (S : Sto) : fIsi sb [.tup xs, .ty "tuple"] S = .ok (.bl true) S := by simp [fIsi, tyD, ki_tt]
theorem isTupL (sb : Str → Str → Option Bool) (xs : List D) (S : Sto) : fIsi sb [.lst xs, .ty "tuple"] S = .ok (.bl false) S := by simp [fIsi, tyD, ki_lt]
theorem isTupF (sb : Str → Str → Option Bool) (x : Int × Int) (S : Sto) : fIsi sb [F x, .ty "tuple"] S = .ok (.bl true) S := isTupT sb _ S
/-! ### numbers drawn -/
theorem ixL0 {S : Sto} {n : Nat} {x y z : D} (h : S[n]? = some [x, y, z]) : dIx (.loc n) (.int 0) S = .ok x S := by
  unfold dIx; simp only [h]; rw [at_0]
theorem ixL1 {S : Sto} {n : Nat} {x y z : D} (h : S[n]? = some [x, y, z]) : dIx (.loc n) (.int 1) S = .ok y S := by
  unfold dIx; simp only [h]; rw [at_1]
theorem ixL2 {S : Sto} {n : Nat} {x y z : D} (h : S[n]? = some [x, y, z]) : dIx (.loc n) (.int 2) S = .ok z S := by
  unfold dIx; simp only [h]; rw [at_2]
theorem st0 {S : Sto} {n : Nat} {x y z v : D} (h : S[n]? = some [x, y, z]) : setD (.loc n) (.int 0) v S = some (S.set n [v, y, z]) := by
  unfold setD; simp only [h]
  have : L2.ixN [x, y, z].length 0 = some 0 := rfl
  rw [this]; rfl
theorem st2 {S : Sto} {n : Nat} {x y z v : D} (h : S[n]? = some [x, y, z]) : setD (.loc n) (.int 2) v S = some (S.set n [x, y, v]) := by
  unfold setD; simp only [h]
  have : L2.ixN [x, y, z].length 2 = some 2 := rfl
  rw [this]; rfl
theorem got {S : Sto} {n : Nat} {l l' : List D} (h : S[n]? = some l) : (S.set n l')[n]? = some l' := List.getElem?_set_self (List.getElem?_eq_some_iff.mp h).1
theorem d_pow {i j : Int} (h : 0 ≤ j ∧ (Builtin.Int.intBits i : Int) * j ≤ 2 ^ 27) (S : Sto) : dPow (.int i) (.int j) S = .ok (.int (i ^ j.toNat)) S := by
  show (if 0 ≤ j ∧ (Builtin.Int.intBits i : Int) * j ≤ 2 ^ 27 then _ else _) = _
  rw [if_pos h]
theorem bits_le {x : Int} {k : Nat} (h : x.natAbs < 2 ^ k) (hk : 0 < k) : Builtin.Int.intBits x ≤ k := by
  have := log_of h hk
  unfold Builtin.Int.intBits
  split <;> omega
theorem fm {a u : Int} (hu : 0 < u) : 0 ≤ a.fmod u ∧ a.fmod u < u := ⟨Int.fmod_nonneg_of_pos _ hu, Int.fmod_lt_of_pos _ hu⟩
theorem p10_6 (S : Sto) : dPow (.int 10) (.int 6) S = .ok (.int 1000000) S := by rw [d_pow (by decide +kernel)]; rfl
theorem p10_3 (S : Sto) : dPow (.int 10) (.int 3) S = .ok (.int 1000) S := by rw [d_pow (by decide +kernel)]; rfl
theorem prime_ix (j : Int) (h0 : 0 ≤ j) (h5 : j < 5) : ∃ p : Int, 0 < p ∧ p < 2 ^ 31 ∧ ∀ S, dIx (.lst [.int 2147483647, .int 2147483629, .int 2147483587, .int 2147483579, .int 2147483563]) (.int j) S = .ok (.int p) S := by
  have : j = 0 ∨ j = 1 ∨ j = 2 ∨ j = 3 ∨ j = 4 := by omega
  rcases this with rfl | rfl | rfl | rfl | rfl
  · exact ⟨2147483647, by decide, by decide, fun _ => rfl⟩
  · exact ⟨2147483629, by decide, by decide, fun _ => rfl⟩
  · exact ⟨2147483587, by decide, by decide, fun _ => rfl⟩
  · exact ⟨2147483579, by decide, by decide, fun _ => rfl⟩
  · exact ⟨2147483563, by decide, by decide, fun _ => rfl⟩
theorem at_ints (ns : List Int) (p : Nat) (h : p < ns.length) : L2.atI (ns.map D.int) (p : Int) = some (.int ns[p]) := by
  unfold L2.atI L2.ixN
  rw [if_pos (by omega), if_pos (by rw [List.length_map]; omega)]
  simp [h]
theorem ints_of (l : List Int) : intsOf (l.map D.int) = some l := by
  induction l with
  | nil => rfl
  | cons a l ih => simp [intsOf, ih]
/-- no list of the store stands within a list of the store -/
def Flat (S : Sto) : Prop := ∀ l ∈ S, D.lowL 0 l = true
mutual
theorem low_mono {n m : Nat} (h : n ≤ m) : ∀ d : D, D.low n d = true → D.low m d = true
  | .loc k, q => by simp only [D.low, decide_eq_true_eq] at q ⊢; omega
  | .tup xs, q => by simp only [D.low] at q ⊢; exact lowL_mono h xs q
  | .lst xs, q => by simp only [D.low] at q ⊢; exact lowL_mono h xs q
  | .exo _ v, q => by simp only [D.low] at q ⊢; exact low_mono h v q
  | .non, _ => by simp [D.low]
  | .bl _, _ => by simp [D.low]
  | .int _, _ => by simp [D.low]
  | .str _, _ => by simp [D.low]
  | .ty _, _ => by simp [D.low]
  | .cls _, _ => by simp [D.low]
  | .fn _, _ => by simp [D.low]
theorem lowL_mono {n m : Nat} (h : n ≤ m) : ∀ ds : List D, D.lowL n ds = true → D.lowL m ds = true
  | [], _ => by simp [D.lowL]
  | x :: xs, q => by
    simp only [D.lowL, Bool.and_eq_true] at q ⊢
    exact ⟨low_mono h x q.1, lowL_mono h xs q.2⟩
end
theorem Flat.all {S : Sto} (h : Flat S) (n : Nat) : S.all (D.lowL n) = true := by
  rw [List.all_eq_true]
  exact fun l hl => lowL_mono (Nat.zero_le n) l (h l hl)
theorem Flat.set {S : Sto} (h : Flat S) (n : Nat) {l : List D} (hl : D.lowL 0 l = true) : Flat (S.set n l) := by
  intro m hm
  rcases List.mem_or_eq_of_mem_set hm with q | q
  · exact h m q
  · rw [q]; exact hl
theorem Flat.app {S : Sto} (h : Flat S) {l : List D} (hl : D.lowL 0 l = true) : Flat (S ++ [l]) := by
  intro m hm
  rcases List.mem_append.mp hm with q | q
  · exact h m q
  · rw [List.mem_singleton.mp q]; exact hl
/-- a def whose own lists are forgotten: it left the store as it was, and hands back no list of its own -/
theorem drop_ok {f : FN} {ds : List D} {d : D} {S S' : Sto} (h : f ds S = .ok d S') (hd : D.low 0 d = true) (hS : S'.take S.length = S) (hF : Flat S) : drop f ds S = .ok d S := by
  unfold drop
  rw [h]
  simp only [hS]
  rw [if_pos]
  rw [Bool.and_eq_true]
  exact ⟨low_mono (Nat.zero_le _) d hd, hF.all _⟩
theorem heard_exc {sub : Str → Str → Option Bool} {e : EF} {ρ : DL.Env} {S S' : Sto} {c : Str} {v : D} (h : e ρ S = .exc c v S') (hs : sub c "ArmError" = some true) : eHeard sub e ρ S = .ok (.tup [.exo c v, .non]) S' := by
  unfold eHeard; rw [h]; simp only [hs, if_true]
theorem isi_exo {sub : Str → Str → Option Bool} {c c' : Str} {b : Bool} (hs : sub c c' = some b) (v : D) (S : Sto) : fIsi sub [.exo c v, .cls c'] S = .ok (.bl b) S := by
  unfold fIsi; simp only [hs]
theorem value_exo {sub : Str → Str → Option Bool} {e : EF} {ρ : DL.Env} {S S' : Sto} {c : Str} {v : D} (h : e ρ S = .ok (.exo c v) S') (hs : sub c c = some true) : eValue sub e ρ S = .ok v S' := by
  unfold eValue; rw [ap_un, h]; simp only [bind_ok, hs, if_true]
/-- the pot in the store, drawn from k times at most -/
def PotAt (S : Sto) (n : Nat) (k : Int) : Prop := (∃ a b c : Int, S[n]? = some [.int a, .int b, .int c] ∧ 0 ≤ a ∧ 0 ≤ b ∧ b < 2 ^ 62 ∧ 0 ≤ c ∧ c ≤ k) ∧ Flat S
theorem PotAt.mono {S : Sto} {n : Nat} {k l : Int} (h : PotAt S n k) (hl : k ≤ l) : PotAt S n l := by
  obtain ⟨⟨a, b, c, h1, h2, h3, h4, h5, h6⟩, hF⟩ := h
  exact ⟨⟨a, b, c, h1, h2, h3, h4, h5, by omega⟩, hF⟩
theorem PotAt.lt {S : Sto} {n : Nat} {k : Int} (h : PotAt S n k) : n < S.length := by
  obtain ⟨⟨a, b, c, e, _⟩, _⟩ := h
  exact (List.getElem?_eq_some_iff.mp e).1
theorem PotAt.app {S : Sto} {n : Nat} {k : Int} (h : PotAt S n k) {l : List D} (hl : D.lowL 0 l = true) : PotAt (S ++ [l]) n k := by
  have hn := h.lt
  obtain ⟨⟨a, b, c, e, r⟩, hF⟩ := h
  exact ⟨⟨a, b, c, by rw [List.getElem?_append_left hn]; exact e, r⟩, hF.app hl⟩
theorem PotAt.set {S : Sto} {n m : Nat} {k : Int} (h : PotAt S n k) (hm : m ≠ n) {l : List D} (hl : D.lowL 0 l = true) : PotAt (S.set m l) n k := by
  obtain ⟨⟨a, b, c, e, r⟩, hF⟩ := h
  exact ⟨⟨a, b, c, by rw [List.getElem?_set_ne hm]; exact e, r⟩, hF.set m hl⟩
theorem PotAt.take {S : Sto} {n m : Nat} {k : Int} (h : PotAt S n k) (hm : n < m) : PotAt (S.take m) n k := by
  obtain ⟨⟨a, b, c, e, r⟩, hF⟩ := h
  exact ⟨⟨a, b, c, by rw [List.getElem?_take, if_pos hm]; exact e, r⟩, fun l hl => hF l (List.mem_of_mem_take hl)⟩
theorem drop_pot {f : FN} {ds : List D} {d : D} {S S' : Sto} {n : Nat} {k : Int} (h : f ds S = .ok d S') (hd : D.low 0 d = true) (P : PotAt S' n k) (hn : n < S.length) : drop f ds S = .ok d (S'.take S.length) ∧ PotAt (S'.take S.length) n k := by
  have Q := P.take hn
  refine ⟨?_, Q⟩
  unfold drop
  rw [h]
  simp only
  rw [if_pos]
  rw [Bool.and_eq_true]
  exact ⟨low_mono (Nat.zero_le _) d hd, Q.2.all _⟩
@[simp] theorem lowF (n : Nat) (x : Int × Int) : D.low n (F x) = true := by simp [F, D.low, D.lowL]
theorem rngL_mem : ∀ (n : Nat) (lo : Int) (d : D), d ∈ rngL lo n → ∃ i : Int, d = .int i ∧ lo ≤ i ∧ i < lo + n
  | 0, _, _, h => by simp [rngL] at h
  | n + 1, lo, d, h => by
    simp only [rngL, List.mem_cons] at h
    rcases h with rfl | h
    · exact ⟨lo, rfl, by omega, by omega⟩
    · obtain ⟨i, e, h1, h2⟩ := rngL_mem n (lo + 1) d h
      exact ⟨i, e, by omega, by omega⟩
@[simp] theorem rngL_len : ∀ (n : Nat) (lo : Int), (rngL lo n).length = n
  | 0, _ => rfl
  | n + 1, lo => by simp [rngL, rngL_len n]
end DL


set_option linter.all false
set_option autoImplicit false
set_option Elab.async false
set_option maxRecDepth 100000
set_option maxHeartbeats 2000000
/-! DLang: vectors of whole numbers in sequence around the circle; the turns at multiples. -/
namespace DL
open PySem
abbrev Vc := Int × Int
def cross (v w : Vc) : Int := v.1 * w.2 - v.2 * w.1
def dotp (v w : Vc) : Int := v.1 * w.1 + v.2 * w.2
/-- 0 from x on up to its back, 1 beyond -/
def hp (v : Vc) : Int := if 0 < v.2 ∨ (v.2 = 0 ∧ 0 < v.1) then 0 else 1
def ahead (v w : Vc) : Prop := hp v < hp w ∨ (hp v = hp w ∧ 0 < cross v w)
def sameW (v w : Vc) : Prop := cross v w = 0 ∧ 0 < dotp v w
instance (v w : Vc) : Decidable (ahead v w) := inferInstanceAs (Decidable (_ ∨ _))
instance (v w : Vc) : Decidable (sameW v w) := inferInstanceAs (Decidable (_ ∧ _))
/-- a quarter on -/
def rotV (v : Vc) : Vc := (-v.2, v.1)
def rotN (v : Vc) : Nat → Vc
  | 0 => v
  | n + 1 => rotV (rotN v n)
/-- the same way, both positive multiples of one -/
def Ray (v w : Vc) : Prop := ∃ k l : Int, 0 < k ∧ 0 < l ∧ k * v.1 = l * w.1 ∧ k * v.2 = l * w.2
theorem Ray.refl (v : Vc) : Ray v v := ⟨1, 1, by decide, by decide, rfl, rfl⟩
theorem Ray.symm {v w : Vc} (h : Ray v w) : Ray w v := by
  obtain ⟨k, l, a, b, c, d⟩ := h
  exact ⟨l, k, b, a, c.symm, d.symm⟩
theorem Ray.trans {u v w : Vc} (h : Ray u v) (h2 : Ray v w) : Ray u w := by
  obtain ⟨k, l, a, b, c, d⟩ := h
  obtain ⟨m, n, e, f, g, i⟩ := h2
  refine ⟨m * k, l * n, Int.mul_pos e a, Int.mul_pos b f, ?_, ?_⟩
  · rw [Int.mul_assoc, c, Int.mul_left_comm, g, ← Int.mul_assoc]
  · rw [Int.mul_assoc, d, Int.mul_left_comm, i, ← Int.mul_assoc]
theorem Ray.rot {v w : Vc} (h : Ray v w) : Ray (rotV v) (rotV w) := by
  obtain ⟨k, l, a, b, c, d⟩ := h
  exact ⟨k, l, a, b, by unfold rotV; simp only [Int.mul_neg]; omega, c⟩
theorem Ray.rotN {v w : Vc} (h : Ray v w) : ∀ n, Ray (rotN v n) (rotN w n)
  | 0 => h
  | n + 1 => (Ray.rotN h n).rot
theorem pos_mul {k a : Int} (hk : 0 < k) : 0 < k * a ↔ 0 < a := by
  constructor
  · intro h
    by_cases c : 0 < a
    · exact c
    · have := Int.mul_nonpos_of_nonneg_of_nonpos (show 0 ≤ k by omega) (show a ≤ 0 by omega); omega
  · exact Int.mul_pos hk
theorem zero_mul {k a : Int} (hk : 0 < k) : k * a = 0 ↔ a = 0 := by
  rw [Int.mul_eq_zero]; omega
theorem Ray.sgn {v w : Vc} (h : Ray v w) : (0 < v.1 ↔ 0 < w.1) ∧ (v.1 = 0 ↔ w.1 = 0) ∧ (0 < v.2 ↔ 0 < w.2) ∧ (v.2 = 0 ↔ w.2 = 0) := by
  obtain ⟨k, l, a, b, c, d⟩ := h
  refine ⟨?_, ?_, ?_, ?_⟩
  · rw [← pos_mul a, c, pos_mul b]
  · rw [← zero_mul a, c, zero_mul b]
  · rw [← pos_mul a, d, pos_mul b]
  · rw [← zero_mul a, d, zero_mul b]
theorem Ray.hp {v w : Vc} (h : Ray v w) : hp v = hp w := by
  obtain ⟨a, b, c, d⟩ := h.sgn
  have e : (0 < v.2 ∨ (v.2 = 0 ∧ 0 < v.1)) ↔ (0 < w.2 ∨ (w.2 = 0 ∧ 0 < w.1)) := by rw [a, c, d]
  unfold DL.hp
  simp only [e]
theorem Ray.cross {v v' w w' : Vc} (h : Ray v v') (k : Ray w w') : (0 < cross v w ↔ 0 < cross v' w') ∧ (cross v w = 0 ↔ cross v' w' = 0) ∧ (0 < dotp v w ↔ 0 < dotp v' w') := by
  obtain ⟨p, q, a, b, c, d⟩ := h
  obtain ⟨r, s, e, f, g, i⟩ := k
  have pr := Int.mul_pos a e
  have qs := Int.mul_pos b f
  have h1 : (p * r) * DL.cross v w = (q * s) * DL.cross v' w' := by
    unfold DL.cross
    have x1 : (p * r) * (v.1 * w.2 - v.2 * w.1) = (p * v.1) * (r * w.2) - (p * v.2) * (r * w.1) := by grind
    have x2 : (q * s) * (v'.1 * w'.2 - v'.2 * w'.1) = (q * v'.1) * (s * w'.2) - (q * v'.2) * (s * w'.1) := by grind
    rw [x1, x2, c, d, g, i]
  have h2 : (p * r) * dotp v w = (q * s) * dotp v' w' := by
    unfold dotp
    have x1 : (p * r) * (v.1 * w.1 + v.2 * w.2) = (p * v.1) * (r * w.1) + (p * v.2) * (r * w.2) := by grind
    have x2 : (q * s) * (v'.1 * w'.1 + v'.2 * w'.2) = (q * v'.1) * (s * w'.1) + (q * v'.2) * (s * w'.2) := by grind
    rw [x1, x2, c, d, g, i]
  refine ⟨?_, ?_, ?_⟩
  · rw [← pos_mul pr, h1, pos_mul qs]
  · rw [← zero_mul pr, h1, zero_mul qs]
  · rw [← pos_mul pr, h2, pos_mul qs]
theorem Ray.ahead {v v' w w' : Vc} (h : Ray v v') (k : Ray w w') : ahead v w ↔ ahead v' w' := by
  unfold DL.ahead
  rw [h.hp, k.hp, (h.cross k).1]
theorem Ray.same {v v' w w' : Vc} (h : Ray v v') (k : Ray w w') : sameW v w ↔ sameW v' w' := by
  unfold sameW
  rw [(h.cross k).2.1, (h.cross k).2.2]
/-- a vector of the first quarter, turned on by q quarters -/
structure Quad (q : Nat) (v x : Vc) : Prop where
  e : v = rotN x q
  h : q < 4
  a : 0 < x.1
  b : 0 ≤ x.2
theorem cross_rot (v w : Vc) : cross (rotV v) (rotV w) = cross v w := by unfold cross rotV; grind
theorem cross_rotN (v w : Vc) : ∀ n, cross (rotN v n) (rotN w n) = cross v w
  | 0 => rfl
  | n + 1 => by show cross (rotV (rotN v n)) (rotV (rotN w n)) = _; rw [cross_rot]; exact cross_rotN v w n
theorem dot_rot (v w : Vc) : dotp (rotV v) (rotV w) = dotp v w := by unfold dotp rotV; grind
theorem dot_rotN (v w : Vc) : ∀ n, dotp (rotN v n) (rotN w n) = dotp v w
  | 0 => rfl
  | n + 1 => by show dotp (rotV (rotN v n)) (rotV (rotN w n)) = _; rw [dot_rot]; exact dot_rotN v w n
theorem Quad.hp {q : Nat} {v x : Vc} (h : Quad q v x) : hp v = if q < 2 then 0 else 1 := by
  obtain ⟨rfl, hq, a, b⟩ := h
  have : q = 0 ∨ q = 1 ∨ q = 2 ∨ q = 3 := by omega
  rcases this with rfl | rfl | rfl | rfl
  · show DL.hp _ = 0; unfold DL.hp; simp only [rotN]; exact if_pos (by omega)
  · show DL.hp _ = 0; unfold DL.hp; simp only [rotN, rotV]; exact if_pos (by omega)
  · show DL.hp _ = 1; unfold DL.hp; simp only [rotN, rotV]; exact if_neg (by omega)
  · show DL.hp _ = 1; unfold DL.hp; simp only [rotN, rotV]; exact if_neg (by omega)
theorem pp {a b c d : Int} (ha : 0 < a) (hb : 0 ≤ b) (hc : 0 < c) (hd : 0 ≤ d) : 0 < a * c + b * d := by
  have := Int.mul_pos ha hc
  have := Int.mul_nonneg hb hd
  omega
/-- which comes first: by quarters, then by the cross product -/
theorem Quad.ahead {q r : Nat} {v w x y : Vc} (h : Quad q v x) (k : Quad r w y) : ahead v w ↔ q < r ∨ (q = r ∧ 0 < DL.cross x y) := by
  have h1 := h.hp
  have h2 := k.hp
  obtain ⟨rfl, hq, a, b⟩ := h
  obtain ⟨rfl, hr, c, d⟩ := k
  have z := pp a b c d
  have key : q ≠ r → (q < 2 ↔ r < 2) → (0 < DL.cross (rotN x q) (rotN y r) ↔ q < r) := by
    intro n e
    have : (q = 0 ∧ r = 1) ∨ (q = 1 ∧ r = 0) ∨ (q = 2 ∧ r = 3) ∨ (q = 3 ∧ r = 2) := by omega
    rcases this with ⟨rfl, rfl⟩ | ⟨rfl, rfl⟩ | ⟨rfl, rfl⟩ | ⟨rfl, rfl⟩
    · simp only [rotN, rotV, DL.cross]; constructor
      · intro _; omega
      · intro _; grind
    · simp only [rotN, rotV, DL.cross]; constructor
      · intro _; grind
      · intro _; omega
    · simp only [rotN, rotV, DL.cross]; constructor
      · intro _; omega
      · intro _; grind
    · simp only [rotN, rotV, DL.cross]; constructor
      · intro _; grind
      · intro _; omega
  unfold DL.ahead
  rw [h1, h2]
  by_cases e : q = r
  · subst e
    rw [cross_rotN]; omega
  · have key := key e
    by_cases s : q < 2 ↔ r < 2
    · have key := key s
      by_cases t : q < 2
      · have : r < 2 := s.mp t
        simp only [t, this, if_true, if_false]
        constructor
        · rintro (z | ⟨_, z⟩)
          · omega
          · exact .inl (key.mp z)
        · rintro (z | ⟨z, _⟩)
          · exact .inr ⟨trivial, key.mpr z⟩
          · exact absurd z e
      · have : ¬ r < 2 := fun z => t (s.mpr z)
        simp only [t, this, if_true, if_false]
        constructor
        · rintro (z | ⟨_, z⟩)
          · omega
          · exact .inl (key.mp z)
        · rintro (z | ⟨z, _⟩)
          · exact .inr ⟨trivial, key.mpr z⟩
          · exact absurd z e
    · by_cases t : q < 2
      · have : ¬ r < 2 := fun z => s ⟨fun _ => z, fun _ => t⟩
        simp only [t, this, if_true, if_false]; omega
      · have : r < 2 := by
          by_cases u : r < 2
          · exact u
          · exact absurd ⟨fun z => absurd z t, fun z => absurd z u⟩ s
        simp only [t, this, if_true, if_false]; omega
theorem same_hp {v w : Vc} (h : sameW v w) : Ray v w := by
  obtain ⟨c, d⟩ := h
  unfold cross at c
  unfold dotp at d
  have hv : 0 < v.1 * v.1 + v.2 * v.2 := by
    by_cases z : v.1 = 0 ∧ v.2 = 0
    · rw [z.1, z.2] at d; simp at d
    · have a := sqn v.1
      have b := sqn v.2
      by_cases y : v.1 = 0
      · have : v.2 * v.2 ≠ 0 := fun q => by rcases Int.mul_eq_zero.mp q with q | q <;> exact z ⟨y, q⟩
        omega
      · have : v.1 * v.1 ≠ 0 := fun q => by rcases Int.mul_eq_zero.mp q with q | q <;> exact y q
        omega
  refine ⟨v.1 * w.1 + v.2 * w.2, v.1 * v.1 + v.2 * v.2, d, hv, ?_, ?_⟩
  · grind
  · grind
theorem Quad.same {q r : Nat} {v w x y : Vc} (h : Quad q v x) (k : Quad r w y) : sameW v w ↔ q = r ∧ DL.cross x y = 0 := by
  constructor
  · intro s
    have R := same_hp s
    have n1 : ¬ DL.ahead v w := fun z => by
      rcases z with z | z
      · rw [R.hp] at z; omega
      · rw [s.1] at z; omega
    have n2 : ¬ DL.ahead w v := fun z => by
      have e : DL.cross w v = - DL.cross v w := by unfold DL.cross; grind
      rcases z with z | z
      · rw [R.hp] at z; omega
      · rw [e, s.1] at z; omega
    rw [h.ahead k] at n1
    rw [k.ahead h] at n2
    have e : DL.cross y x = - DL.cross x y := by unfold DL.cross; grind
    omega
  · rintro ⟨rfl, e⟩
    obtain ⟨rfl, hq, a, b⟩ := h
    obtain ⟨rfl, hr, c, d⟩ := k
    refine ⟨by rw [cross_rotN]; exact e, by rw [dot_rotN]; exact pp a b c d⟩
/-- every vector but none lies in a quarter -/
theorem quad_of (v : Vc) (h : v ≠ (0, 0)) : ∃ q x, Quad q v x := by
  have hn : ¬ (v.1 = 0 ∧ v.2 = 0) := fun z => h (Prod.ext z.1 z.2)
  have : (0 < v.1 ∧ 0 ≤ v.2) ∨ (v.1 ≤ 0 ∧ 0 < v.2) ∨ (v.1 < 0 ∧ v.2 ≤ 0) ∨ (0 ≤ v.1 ∧ v.2 < 0) := by omega
  rcases this with z | z | z | z
  · exact ⟨0, v, rfl, by decide, z.1, z.2⟩
  · exact ⟨1, (v.2, -v.1), by simp [rotN, rotV], by decide, z.2, by simp only; omega⟩
  · exact ⟨2, (-v.1, -v.2), by simp [rotN, rotV], by decide, by simp only; omega, by simp only; omega⟩
  · exact ⟨3, (-v.2, v.1), by simp [rotN, rotV], by decide, by simp only; omega, z.1⟩
/-! ### the turns at multiples: m over f -/
/-- of the first quarter, as a vector -/
def arcV (r f : Int) : Vc := (f * f - r * r, 2 * r * f)
def turnV (m f : Int) : Vc := rotN (arcV (m.fmod f) f) (m.fdiv f).toNat
theorem sq_lt {r f : Int} (h0 : 0 ≤ r) (h : r < f) : r * r < f * f := by
  have a : r * r ≤ r * f := Int.mul_le_mul_of_nonneg_left (by omega) h0
  have b : r * f < f * f := Int.mul_lt_mul_of_pos_right h (by omega)
  omega
theorem turn_quad {m f : Int} (hf : 0 < f) (h0 : 0 ≤ m) (h : m < 4 * f) : Quad (m.fdiv f).toNat (turnV m f) (arcV (m.fmod f) f) := by
  have a := fm (a := m) hf
  have e := Int.fmod_add_mul_fdiv m f
  have d0 : 0 ≤ m.fdiv f := Int.fdiv_nonneg h0 (by omega)
  have d4 : m.fdiv f < 4 := by
    by_cases c : m.fdiv f < 4
    · exact c
    · have : f * 4 ≤ f * m.fdiv f := Int.mul_le_mul_of_nonneg_left (by omega) (by omega)
      omega
  have := sq_lt a.1 a.2
  refine ⟨rfl, by omega, by unfold arcV; simp only; omega, ?_⟩
  unfold arcV; simp only
  exact Int.mul_nonneg (by omega) (by omega)
theorem arc_cross {r s f : Int} (hf : 0 < f) (hr : 0 ≤ r) (hs : 0 ≤ s) : (0 < cross (arcV r f) (arcV s f) ↔ r < s) ∧ (cross (arcV r f) (arcV s f) = 0 ↔ r = s) := by
  have e : cross (arcV r f) (arcV s f) = (2 * f) * ((s - r) * (f * f + r * s)) := by unfold cross arcV; grind
  have ff := Int.mul_pos hf hf
  have rs := Int.mul_nonneg hr hs
  have p : 0 < f * f + r * s := by omega
  have f2 : 0 < 2 * f := by omega
  rw [e, pos_mul f2, zero_mul f2, Int.mul_comm (s - r), pos_mul p, zero_mul p]
  omega
theorem split_lt {m n f : Int} (hf : 0 < f) : m < n ↔ m.fdiv f < n.fdiv f ∨ (m.fdiv f = n.fdiv f ∧ m.fmod f < n.fmod f) := by
  have a := fm (a := m) hf
  have b := fm (a := n) hf
  have e := Int.fmod_add_mul_fdiv m f
  have g := Int.fmod_add_mul_fdiv n f
  generalize m.fdiv f = q at *
  generalize n.fdiv f = r at *
  rcases Int.lt_trichotomy q r with c | c | c
  · have : f * (q + 1) ≤ f * r := Int.mul_le_mul_of_nonneg_left (by omega) (by omega)
    have : f * (q + 1) = f * q + f := by grind
    omega
  · subst c; omega
  · have : f * (r + 1) ≤ f * q := Int.mul_le_mul_of_nonneg_left (by omega) (by omega)
    have : f * (r + 1) = f * r + f := by grind
    omega
theorem turn_ahead {m n f : Int} (hf : 0 < f) (m0 : 0 ≤ m) (m4 : m < 4 * f) (n0 : 0 ≤ n) (n4 : n < 4 * f) : ahead (turnV m f) (turnV n f) ↔ m < n := by
  rw [(turn_quad hf m0 m4).ahead (turn_quad hf n0 n4), (arc_cross hf (fm hf).1 (fm hf).1).1, split_lt hf (m := m) (n := n)]
  have := Int.fdiv_nonneg m0 (show 0 ≤ f by omega)
  have := Int.fdiv_nonneg n0 (show 0 ≤ f by omega)
  omega
theorem turn_same {m n f : Int} (hf : 0 < f) (m0 : 0 ≤ m) (m4 : m < 4 * f) (n0 : 0 ≤ n) (n4 : n < 4 * f) : sameW (turnV m f) (turnV n f) ↔ m = n := by
  rw [(turn_quad hf m0 m4).same (turn_quad hf n0 n4), (arc_cross hf (fm hf).1 (fm hf).1).2]
  have := Int.fdiv_nonneg m0 (show 0 ≤ f by omega)
  have := Int.fdiv_nonneg n0 (show 0 ≤ f by omega)
  have e := Int.fmod_add_mul_fdiv m f
  have g := Int.fmod_add_mul_fdiv n f
  constructor
  · rintro ⟨a, b⟩
    have : m.fdiv f = n.fdiv f := by omega
    rw [← e, ← g, this, b]
  · rintro rfl; exact ⟨rfl, rfl⟩
/-- the last multiple not beyond a vector: quarter, then how far on -/
def le_arc (x : Vc) (r f : Int) : Prop := 2 * r * f * x.1 ≤ (f * f - r * r) * x.2
theorem not_ahead_arc {q : Nat} {v x : Vc} (h : Quad q v x) {m f : Int} (hf : 0 < f) (m0 : 0 ≤ m) (m4 : m < 4 * f) : ¬ ahead v (turnV m f) ↔ m.fdiv f < q ∨ (m.fdiv f = q ∧ le_arc x (m.fmod f) f) := by
  rw [h.ahead (turn_quad hf m0 m4)]
  have := Int.fdiv_nonneg m0 (show 0 ≤ f by omega)
  have e : cross x (arcV (m.fmod f) f) = 2 * m.fmod f * f * x.1 - (f * f - m.fmod f * m.fmod f) * x.2 := by unfold cross arcV; grind
  rw [e]
  unfold le_arc
  omega
theorem le_arc_mono {x : Vc} (a : 0 < x.1) (b : 0 ≤ x.2) {r s f : Int} (hf : 0 < f) (h0 : 0 ≤ r) (h : r ≤ s) (k : le_arc x s f) : le_arc x r f := by
  unfold le_arc at *
  have h1 : 2 * r * f * x.1 ≤ 2 * s * f * x.1 := by
    have : 0 ≤ (2 * f * x.1) * (s - r) := Int.mul_nonneg (Int.mul_nonneg (by omega) (by omega)) (by omega)
    grind
  have h2 : (f * f - s * s) * x.2 ≤ (f * f - r * r) * x.2 := by
    have : 0 ≤ (s - r) * (s + r) * x.2 := Int.mul_nonneg (Int.mul_nonneg (by omega) (by omega)) b
    grind
  omega
/-- told by squares alone -/
theorem le_arc_sq {x : Vc} (a : 0 < x.1) (b : 0 ≤ x.2) {n f : Int} (hf : 0 < f) (h0 : 0 ≤ n) (h : n < f) : le_arc x n f ↔ 0 ≤ f * x.2 - n * x.1 ∧ n * n * (x.1 * x.1 + x.2 * x.2) ≤ (f * x.2 - n * x.1) * (f * x.2 - n * x.1) := by
  unfold le_arc
  have e : (f * x.2 - n * x.1) * (f * x.2 - n * x.1) - n * n * (x.1 * x.1 + x.2 * x.2) = x.2 * ((f * f - n * n) * x.2 - 2 * n * f * x.1) := by grind
  by_cases y0 : x.2 = 0
  · rw [y0] at e ⊢
    have nf : 0 ≤ n * f := Int.mul_nonneg h0 (by omega)
    have nx : 0 ≤ n * x.1 := Int.mul_nonneg h0 (by omega)
    constructor
    · intro z
      have n0 : n = 0 := by
        by_cases c : n = 0
        · exact c
        · have := Int.mul_pos (Int.mul_pos (show 0 < n by omega) hf) a
          have : 2 * n * f * x.1 = 2 * (n * f * x.1) := by grind
          omega
      subst n0; simp
    · rintro ⟨z, _⟩
      have n0 : n = 0 := by
        by_cases c : n = 0
        · exact c
        · have := Int.mul_pos (show 0 < n by omega) a
          omega
      subst n0; simp
  · have yp : 0 < x.2 := by omega
    constructor
    · intro z
      have p1 : 0 ≤ x.2 * ((f * f - n * n) * x.2 - 2 * n * f * x.1) := Int.mul_nonneg b (by omega)
      refine ⟨?_, by omega⟩
      have p2 : 0 ≤ f * (f * x.2 - n * x.1) := by
        have : 0 ≤ n * n * x.2 := Int.mul_nonneg (Int.mul_nonneg h0 h0) b
        have : 0 ≤ n * f * x.1 := Int.mul_nonneg (Int.mul_nonneg h0 (by omega)) (by omega)
        grind
      by_cases c : 0 ≤ f * x.2 - n * x.1
      · exact c
      · have := Int.mul_neg_of_pos_of_neg hf (show f * x.2 - n * x.1 < 0 by omega); omega
    · rintro ⟨_, z⟩
      have p1 : 0 ≤ x.2 * ((f * f - n * n) * x.2 - 2 * n * f * x.1) := by omega
      by_cases c : 0 ≤ (f * f - n * n) * x.2 - 2 * n * f * x.1
      · omega
      · have := Int.mul_neg_of_pos_of_neg yp (show (f * f - n * n) * x.2 - 2 * n * f * x.1 < 0 by omega); omega
/-! ### vectors and turns of fractions -/
def vec (a b : Int × Int) : Vc := (a.1 * b.2, b.1 * a.2)
structure VF (x y : Int × Int) : Prop where
  a : Sz 1100 x
  b : Sz 1100 y
  pa : 0 < x.2
  pb : 0 < y.2
/-- a fraction, a vector as elements -/
def PL (x : Int × Int) : D := .tup [F x, F (0, 1), .int 0]
def LF (a b : Int × Int) : D := .tup [PL a, PL b]
def sgI (a : Int) : Int := if a = 0 then 0 else if 0 < a then 1 else -1
theorem sgI_pos (a : Int) : 0 < sgI a ↔ 0 < a := by unfold sgI; split <;> (try split) <;> omega
theorem sgI_0 : sgI 0 = 0 := rfl
theorem sgI_zero (a : Int) : sgI a = 0 ↔ a = 0 := by unfold sgI; split <;> (try split) <;> omega
def btw (l o h : Vc) : Bool := if sameW l o ∨ sameW h o then false else if sameW l h then true else decide (b2i (decide (ahead l o)) + b2i (decide (ahead o h)) + b2i (decide (ahead h l)) = 2)
def fromToV (l o h : Vc) : Bool := if sameW l h then decide (sameW l o) else decide (sameW l o) || (decide (sameW h o) || btw l o h)
abbrev Tn := (Int × Int) × (Int × Int)
def rotF (t : Tn) : Tn := ((-t.2.1, t.2.2), t.1)
def rotFN (t : Tn) : Nat → Tn
  | 0 => t
  | n + 1 => rotF (rotFN t n)
/-- of the tangent of half the angle -/
def arcF (h : Int × Int) : Tn := (red (h.2 * h.2 - h.1 * h.1) (h.1 * h.1 + h.2 * h.2), red (2 * h.1 * h.2) (h.1 * h.1 + h.2 * h.2))
/-- at a fraction of the circle of four quarters -/
def turnF (p : Int × Int) : Tn := rotFN (arcF (p.1 - p.1.fdiv p.2 * p.2, p.2)) (p.1.fdiv p.2).toNat
/-- two fractions whose squares are one together, below 2 ^ n -/
structure IsT (n : Nat) (t : Tn) : Prop where
  la : Low t.1
  lb : Low t.2
  sq : t.1.1 * t.1.1 * (t.2.2 * t.2.2) + t.2.1 * t.2.1 * (t.1.2 * t.1.2) = t.1.2 * t.1.2 * (t.2.2 * t.2.2)
  sa : Sz n t.1
  sb : Sz n t.2
theorem IsT.rot {n : Nat} {t : Tn} (h : IsT n t) : IsT n (rotF t) := by
  refine ⟨low_neg h.lb, h.la, ?_, ⟨by have := h.sb.a; simp only [rotF]; rw [Int.natAbs_neg]; exact this, h.sb.b⟩, h.sa⟩
  have := h.sq
  simp only [rotF]; grind
theorem IsT.rotN {n : Nat} {t : Tn} (h : IsT n t) : ∀ k, IsT n (rotFN t k)
  | 0 => h
  | k + 1 => (IsT.rotN h k).rot
theorem IsT.vf {n : Nat} {t : Tn} (h : IsT n t) (hn : n ≤ 1100) : VF t.1 t.2 := ⟨h.sa.mono hn, h.sb.mono hn, h.la.pos, h.lb.pos⟩
theorem nsq_pos {a b : Int} (h : b ≠ 0) : 0 < a * a + b * b := by
  have := sqn a
  have : 0 < b * b := by
    have := sqn b
    have : b * b ≠ 0 := fun q => by rcases Int.mul_eq_zero.mp q with q | q <;> exact h q
    omega
  omega
theorem arc_le (h : Int × Int) : (h.2 * h.2 - h.1 * h.1).natAbs ≤ (h.1 * h.1 + h.2 * h.2).natAbs ∧ (2 * h.1 * h.2).natAbs ≤ (h.1 * h.1 + h.2 * h.2).natAbs := by
  have a := sqn h.1
  have b := sqn h.2
  have c : 0 ≤ (h.1 - h.2) * (h.1 - h.2) := sqn _
  have d : 0 ≤ (h.1 + h.2) * (h.1 + h.2) := sqn _
  have e1 : (h.1 - h.2) * (h.1 - h.2) = h.1 * h.1 + h.2 * h.2 - 2 * h.1 * h.2 := by grind
  have e2 : (h.1 + h.2) * (h.1 + h.2) = h.1 * h.1 + h.2 * h.2 + 2 * h.1 * h.2 := by grind
  omega
theorem red_ones {A B n : Int} (hn : n ≠ 0) (h : A * A + B * B = n * n) : (red A n).1 * (red A n).1 * ((red B n).2 * (red B n).2) + (red B n).1 * (red B n).1 * ((red A n).2 * (red A n).2) = (red A n).2 * (red A n).2 * ((red B n).2 * (red B n).2) := by
  have c1 := red_cross A n hn
  have c2 := red_cross B n hn
  generalize red A n = a at *
  generalize red B n = b at *
  have key : (n * n) * (a.1 * a.1 * (b.2 * b.2) + b.1 * b.1 * (a.2 * a.2)) = (n * n) * (a.2 * a.2 * (b.2 * b.2)) := by
    have x1 : (n * n) * (a.1 * a.1 * (b.2 * b.2) + b.1 * b.1 * (a.2 * a.2)) = (a.1 * n) * (a.1 * n) * (b.2 * b.2) + (b.1 * n) * (b.1 * n) * (a.2 * a.2) := by grind
    rw [x1, c1, c2, ← h]; grind
  exact Int.eq_of_mul_eq_mul_left (Int.mul_ne_zero hn hn) key
theorem arc_isT {h : Int × Int} (h2 : h.2 ≠ 0) {n : Nat} (hz : (h.1 * h.1 + h.2 * h.2).natAbs < 2 ^ n) : IsT n (arcF h) := by
  have np := nsq_pos (a := h.1) h2
  have nz : h.1 * h.1 + h.2 * h.2 ≠ 0 := by omega
  have l := arc_le h
  exact ⟨red_low _ _ nz, red_low _ _ nz, red_ones nz (by grind), red_sz nz l.1 hz, red_sz nz l.2 hz⟩
theorem arc_ray {h : Int × Int} (h2 : h.2 ≠ 0) : Ray (vec (arcF h).1 (arcF h).2) (arcV h.1 h.2) := by
  have np := nsq_pos (a := h.1) h2
  have nz : h.1 * h.1 + h.2 * h.2 ≠ 0 := by omega
  have c1 := red_cross (h.2 * h.2 - h.1 * h.1) _ nz
  have c2 := red_cross (2 * h.1 * h.2) _ nz
  have p1 := (red_low (h.2 * h.2 - h.1 * h.1) _ nz).pos
  have p2 := (red_low (2 * h.1 * h.2) _ nz).pos
  refine ⟨h.1 * h.1 + h.2 * h.2, (arcF h).1.2 * (arcF h).2.2, np, Int.mul_pos p1 p2, ?_, ?_⟩
  · show _ * ((red (h.2 * h.2 - h.1 * h.1) (h.1 * h.1 + h.2 * h.2)).1 * (red (2 * h.1 * h.2) (h.1 * h.1 + h.2 * h.2)).2) = (red (h.2 * h.2 - h.1 * h.1) (h.1 * h.1 + h.2 * h.2)).2 * (red (2 * h.1 * h.2) (h.1 * h.1 + h.2 * h.2)).2 * (h.2 * h.2 - h.1 * h.1)
    generalize red (h.2 * h.2 - h.1 * h.1) (h.1 * h.1 + h.2 * h.2) = a at *
    generalize red (2 * h.1 * h.2) (h.1 * h.1 + h.2 * h.2) = b at *
    grind
  · show _ * ((red (2 * h.1 * h.2) (h.1 * h.1 + h.2 * h.2)).1 * (red (h.2 * h.2 - h.1 * h.1) (h.1 * h.1 + h.2 * h.2)).2) = (red (h.2 * h.2 - h.1 * h.1) (h.1 * h.1 + h.2 * h.2)).2 * (red (2 * h.1 * h.2) (h.1 * h.1 + h.2 * h.2)).2 * (2 * h.1 * h.2)
    generalize red (h.2 * h.2 - h.1 * h.1) (h.1 * h.1 + h.2 * h.2) = a at *
    generalize red (2 * h.1 * h.2) (h.1 * h.1 + h.2 * h.2) = b at *
    grind
theorem vec_rot (t : Tn) : vec (rotF t).1 (rotF t).2 = rotV (vec t.1 t.2) := by
  unfold vec rotF rotV; simp only [Int.neg_mul]
theorem vec_rotN (t : Tn) : ∀ n, vec (rotFN t n).1 (rotFN t n).2 = rotN (vec t.1 t.2) n
  | 0 => rfl
  | n + 1 => by show vec (rotF (rotFN t n)).1 (rotF (rotFN t n)).2 = rotV _; rw [vec_rot, vec_rotN t n]
theorem turn_ray {m f : Int} (hf : 0 < f) : Ray (vec (turnF (red m f)).1 (turnF (red m f)).2) (turnV m f) := by
  obtain ⟨g, g0, e1, e2, lo⟩ := red_spec m f (by omega)
  generalize red m f = p at *
  have pp := lo.pos
  have gp : 0 < g := by
    by_cases c : 0 < g
    · exact c
    · have := Int.mul_nonpos_of_nonpos_of_nonneg (show g ≤ 0 by omega) (show 0 ≤ p.2 by omega); omega
  have d : m.fdiv f = p.1.fdiv p.2 := by
    rw [e1, e2]; exact Int.mul_fdiv_mul_of_pos _ _ gp
  have r : m.fmod f = g * (p.1 - p.1.fdiv p.2 * p.2) := by
    have := Int.fmod_add_mul_fdiv m f
    rw [d] at this
    have h : m.fmod f = m - f * p.1.fdiv p.2 := by omega
    rw [h, e1, e2]; grind
  unfold turnF turnV
  rw [vec_rotN, d, r, e2]
  refine Ray.rotN ((arc_ray (by simp only; omega)).trans ?_) _
  exact ⟨g * g, 1, Int.mul_pos gp gp, by decide, by unfold arcV; simp only; grind, by unfold arcV; simp only; grind⟩
theorem turn_isT {p : Int × Int} (l : Low p) {n : Nat} (h : p.2.natAbs < 2 ^ n) : IsT (2 * n + 1) (turnF p) := by
  have pp := l.pos
  have fl := fm (a := p.1) pp
  have e := Int.fmod_add_mul_fdiv p.1 p.2
  have r : p.1 - p.1.fdiv p.2 * p.2 = p.1.fmod p.2 := by
    have : p.1.fdiv p.2 * p.2 = p.2 * p.1.fdiv p.2 := Int.mul_comm _ _
    omega
  refine IsT.rotN (arc_isT (by simp only; omega) ?_) _
  simp only [r]
  have a : (p.1.fmod p.2 * p.1.fmod p.2).natAbs < 2 ^ (n + n) := mul_lt (by omega) (by omega)
  have b : (p.2 * p.2).natAbs < 2 ^ (n + n) := mul_lt h h
  have : 2 ^ (2 * n + 1) = 2 ^ (n + n) + 2 ^ (n + n) := by rw [Nat.pow_succ, show 2 * n = n + n by omega]; omega
  omega
end DL


set_option linter.all false
set_option autoImplicit false
set_option Elab.async false
set_option maxRecDepth 100000
set_option maxHeartbeats 2000000
/-! DLrat: fractions of the program as rational numbers. -/
namespace DL
open PySem
/-- top and bottom -/
def pr (q : Rat) : Int × Int := (q.num, (q.den : Int))
def FQ (q : Rat) : D := F (pr q)
def PQ (p : Rat × Rat) : D := .tup [FQ p.1, FQ p.2]
theorem den_pos (q : Rat) : 0 < (q.den : Int) := by have := q.den_pos; omega
theorem pr_low (q : Rat) : Low (pr q) := ⟨den_pos q, by
  have := q.reduced
  show Int.gcd q.num (q.den : Int) = 1
  unfold Int.gcd
  rw [Int.natAbs_natCast]; exact this⟩
theorem castI_ne {b : Int} (h : b ≠ 0) : (b : Rat) ≠ 0 := fun e => h (by exact_mod_cast e)
theorem pr_div {t b : Int} (hb : b ≠ 0) : (pr ((t : Rat) / b)).1 * b = t * (pr ((t : Rat) / b)).2 := by
  have h : Rat.divInt ((t : Rat) / b).num (((t : Rat) / b).den : Int) = Rat.divInt t b := by
    rw [Rat.num_divInt_den, Rat.divInt_eq_div]
  have d : (((t : Rat) / b).den : Int) ≠ 0 := by have := den_pos ((t : Rat) / b); omega
  exact (Rat.divInt_eq_divInt_iff d hb).mp h
theorem red_rat {t b : Int} (hb : b ≠ 0) : red t b = pr ((t : Rat) / b) :=
  red_is hb (pr_low _) (pr_div hb).symm
theorem pr_inj {p q : Rat} (h : pr p = pr q) : p = q := by
  have h1 : p.num = q.num := congrArg Prod.fst h
  have h2 : (p.den : Int) = q.den := congrArg Prod.snd h
  exact Rat.ext h1 (by omega)
/-- a rational number by its top and bottom -/
theorem rat_eq (q : Rat) : q = (q.num : Rat) / (q.den : Int) := by
  conv => lhs; rw [← Rat.num_divInt_den q]
  rw [Rat.divInt_eq_div]
theorem den_ne (q : Rat) : (q.den : Int) ≠ 0 := by have := den_pos q; omega
theorem low_rat {x : Int × Int} (h : Low x) : x = pr ((x.1 : Rat) / x.2) := by
  rw [← red_rat (low_ne h), red_of_low h]
theorem F_rat {x : Int × Int} (h : Low x) : F x = FQ ((x.1 : Rat) / x.2) := by unfold FQ; rw [← low_rat h]
theorem FQ_int (i : Int) : FQ (i : Rat) = F (i, 1) := rfl
theorem FQ_zero : FQ 0 = F (0, 1) := rfl
theorem FQ_one : FQ 1 = F (1, 1) := rfl
section
variable (a b : Rat)
theorem add_rat : ((a.num * b.den + b.num * a.den : Int) : Rat) / ((a.den * b.den : Int) : Rat) = a + b := by
  have ha := castI_ne (den_ne a)
  have hb := castI_ne (den_ne b)
  conv => rhs; rw [rat_eq a, rat_eq b]
  simp only [Rat.intCast_add, Rat.intCast_mul]
  generalize ((a.den : Int) : Rat) = x at *
  generalize ((b.den : Int) : Rat) = y at *
  generalize (a.num : Rat) = u at *
  generalize (b.num : Rat) = v at *
  grind
theorem sub_rat : ((a.num * b.den - b.num * a.den : Int) : Rat) / ((a.den * b.den : Int) : Rat) = a - b := by
  have ha := castI_ne (den_ne a)
  have hb := castI_ne (den_ne b)
  conv => rhs; rw [rat_eq a, rat_eq b]
  simp only [Rat.intCast_sub, Rat.intCast_mul]
  generalize ((a.den : Int) : Rat) = x at *
  generalize ((b.den : Int) : Rat) = y at *
  generalize (a.num : Rat) = u at *
  generalize (b.num : Rat) = v at *
  grind
theorem mul_rat : ((a.num * b.num : Int) : Rat) / ((a.den * b.den : Int) : Rat) = a * b := by
  have ha := castI_ne (den_ne a)
  have hb := castI_ne (den_ne b)
  conv => rhs; rw [rat_eq a, rat_eq b]
  simp only [Rat.intCast_mul]
  generalize ((a.den : Int) : Rat) = x at *
  generalize ((b.den : Int) : Rat) = y at *
  generalize (a.num : Rat) = u at *
  generalize (b.num : Rat) = v at *
  grind
theorem num_ne {b : Rat} (h : b ≠ 0) : b.num ≠ 0 := fun e => h (Rat.num_eq_zero.mp e)
theorem div_rat (h : b ≠ 0) : ((a.num * b.den : Int) : Rat) / ((a.den * b.num : Int) : Rat) = a / b := by
  have ha := castI_ne (den_ne a)
  have hb := castI_ne (den_ne b)
  have hn := castI_ne (num_ne h)
  conv => rhs; rw [rat_eq a, rat_eq b]
  simp only [Rat.intCast_mul]
  generalize ((a.den : Int) : Rat) = x at *
  generalize ((b.den : Int) : Rat) = y at *
  generalize (a.num : Rat) = u at *
  generalize (b.num : Rat) = v at *
  grind
end
/-! ### sizes -/
/-- top and bottom below 2 ^ n -/
abbrev SQ (n : Nat) (q : Rat) : Prop := Sz n (pr q)
theorem SQ.up {n m : Nat} {q : Rat} (h : SQ n q) (hm : n ≤ m := by omega) : SQ m q := h.mono hm
theorem sq_of {t b : Int} {n : Nat} (hb : b ≠ 0) (h1 : t.natAbs < 2 ^ n) (h2 : b.natAbs < 2 ^ n) : SQ n ((t : Rat) / b) := by
  unfold SQ
  rw [← red_rat hb]
  have l := red_le t b hb
  exact ⟨Nat.lt_of_le_of_lt l.1 h1, Nat.lt_of_le_of_lt l.2 h2⟩
theorem add_lt {i j : Int} {n m : Nat} (h1 : i.natAbs < 2 ^ n) (h2 : j.natAbs < 2 ^ m) (hm : m ≤ n) : (i + j).natAbs < 2 ^ (n + 1) := by
  have h3 := up_lt h2 hm
  rw [Nat.pow_succ]; omega
theorem SQ.add {n m : Nat} {a b : Rat} (h : SQ n a) (k : SQ m b) : SQ (n + m + 1) (a + b) := by
  rw [← add_rat]
  have e1 : ((a.num * b.den : Int)).natAbs < 2 ^ (n + m) := mul_lt h.a k.b
  have e2 : ((b.num * a.den : Int)).natAbs < 2 ^ (n + m) := by rw [Nat.add_comm]; exact mul_lt k.a h.b
  exact sq_of (Int.mul_ne_zero (den_ne a) (den_ne b)) (add_lt e1 e2 (Nat.le_refl _)) (up_lt (mul_lt h.b k.b) (by omega))
theorem SQ.neg {n : Nat} {a : Rat} (h : SQ n a) : SQ n (-a) := ⟨by show (-a).num.natAbs < _; rw [Rat.neg_num, Int.natAbs_neg]; exact h.a, h.b⟩
theorem SQ.sub {n m : Nat} {a b : Rat} (h : SQ n a) (k : SQ m b) : SQ (n + m + 1) (a - b) := by
  rw [Rat.sub_eq_add_neg]; exact h.add k.neg
theorem SQ.mul {n m : Nat} {a b : Rat} (h : SQ n a) (k : SQ m b) : SQ (n + m) (a * b) := by
  rw [← mul_rat]
  exact sq_of (Int.mul_ne_zero (den_ne a) (den_ne b)) (mul_lt h.a k.a) (mul_lt h.b k.b)
theorem SQ.div {n m : Nat} {a b : Rat} (h : SQ n a) (k : SQ m b) (hb : b ≠ 0) : SQ (n + m) (a / b) := by
  rw [← div_rat a b hb]
  exact sq_of (Int.mul_ne_zero (den_ne a) (num_ne hb)) (mul_lt h.a k.b) (mul_lt h.b k.a)
theorem SQ.int {i : Int} {n : Nat} (h : i.natAbs < 2 ^ n) (hn : 0 < n) : SQ n (i : Rat) := ⟨h, by show (1 : Int).natAbs < _; exact Nat.one_lt_two_pow (by omega)⟩
theorem prod_ne (a b : Rat) : (pr a).2 * (pr b).2 ≠ 0 := Int.mul_ne_zero (den_ne a) (den_ne b)
/-! ### signs -/
theorem num_pos {q : Rat} : 0 < q.num ↔ 0 < q := by
  have h := (Rat.num_nonneg (q := q))
  have e := (Rat.num_eq_zero (q := q))
  constructor
  · intro z
    have h1 : 0 ≤ q := h.mp (by omega)
    have h2 : q ≠ 0 := fun y => by rw [e.mpr y] at z; omega
    exact Rat.lt_of_le_of_ne h1 (fun y => h2 y.symm)
  · intro z
    have h1 := h.mpr (Rat.le_of_lt z)
    have h2 : q.num ≠ 0 := fun y => by rw [e.mp y] at z; exact Rat.lt_irrefl z
    omega
theorem num_neg {q : Rat} : q.num < 0 ↔ q < 0 := by
  have h := (Rat.num_nonneg (q := q))
  constructor
  · intro z
    exact Rat.not_le.mp fun y => by have := h.mpr y; omega
  · intro z
    by_cases c : q.num < 0
    · exact c
    · exact absurd (h.mp (by omega)) (Rat.not_le.mpr z)
theorem lt_rat (a b : Rat) : (pr a).1 * (pr b).2 < (pr b).1 * (pr a).2 ↔ a < b := by
  rw [Rat.lt_iff]; rfl
def sgQ (q : Rat) : Int := if 0 < q then 1 else if q < 0 then -1 else 0
theorem sq_num (a : Rat) : (a.num * a.num, (a.den : Int) * a.den) = pr (a * a) := by
  rw [← mul_rat, ← red_rat (Int.mul_ne_zero (den_ne a) (den_ne a))]
  refine (red_is (Int.mul_ne_zero (den_ne a) (den_ne a)) ⟨Int.mul_pos (den_pos a) (den_pos a), ?_⟩ rfl).symm
  have c : Nat.Coprime a.num.natAbs a.den := a.reduced
  show Nat.gcd (a.num * a.num).natAbs ((a.den : Int) * a.den).natAbs = 1
  rw [Int.natAbs_mul, Int.natAbs_mul, Int.natAbs_natCast]
  exact Nat.Coprime.mul_left (Nat.Coprime.mul_right c c) (Nat.Coprime.mul_right c c)
theorem eqFQ (a b : Rat) : eqD (FQ a) (FQ b) = some (decide (a = b)) := by
  unfold FQ
  rw [eqF]
  congr 1
  exact decide_eq_decide.mpr ⟨pr_inj, fun h => by rw [h]⟩
theorem dEqQ (a b : Rat) (S : Sto) : dEq (FQ a) (FQ b) S = .ok (.bl (decide (a = b))) S := by unfold dEq; rw [eqFQ]
theorem dNeQ (a b : Rat) (S : Sto) : dNe (FQ a) (FQ b) S = .ok (.bl (!decide (a = b))) S := by unfold dNe; rw [eqFQ]
theorem ixQ0 (a : Rat) (S : Sto) : dIx (FQ a) (.int 0) S = .ok (.int a.num) S := ixF0 _ S
theorem ixQ1 (a : Rat) (S : Sto) : dIx (FQ a) (.int 1) S = .ok (.int a.den) S := ixF1 _ S
theorem ixP_0 (p : Rat × Rat) (S : Sto) : dIx (PQ p) (.int 0) S = .ok (FQ p.1) S := by unfold PQ; simp
theorem ixP_1 (p : Rat × Rat) (S : Sto) : dIx (PQ p) (.int 1) S = .ok (FQ p.2) S := by unfold PQ; simp
theorem eqPQ (p q : Rat × Rat) : eqD (PQ p) (PQ q) = some (decide (p = q)) := by
  have h : PQ p = F2 (pr p.1) (pr p.2) := rfl
  have k : PQ q = F2 (pr q.1) (pr q.2) := rfl
  rw [h, k, eqF2]
  congr 1
  exact decide_eq_decide.mpr ⟨fun z => Prod.ext (pr_inj z.1) (pr_inj z.2), fun z => by rw [z]; exact ⟨rfl, rfl⟩⟩
theorem dEqP (p q : Rat × Rat) (S : Sto) : dEq (PQ p) (PQ q) S = .ok (.bl (decide (p = q))) S := by unfold dEq; rw [eqPQ]
theorem dNeP (p q : Rat × Rat) (S : Sto) : dNe (PQ p) (PQ q) S = .ok (.bl (!decide (p = q))) S := by unfold dNe; rw [eqPQ]
/-- fits the page: both parts at most 10 ** 6 -/
def Pg (q : Rat) : Prop := q.num.natAbs ≤ 1000000 ∧ q.den ≤ 1000000
theorem Pg.sq {q : Rat} (h : Pg q) : SQ 20 q := ⟨by show q.num.natAbs < _; have := h.1; omega, by show ((q.den : Int)).natAbs < _; have := h.2; omega⟩
theorem mul_den (q : Rat) : q * ((q.den : Int) : Rat) = (q.num : Rat) := by
  conv => lhs; arg 1; rw [rat_eq q]
  exact Rat.div_mul_cancel (castI_ne (den_ne q))
/-- a number of which a multiple is whole has a bottom that goes into it -/
theorem den_dvd {q : Rat} {n m : Int} (h : q * n = m) : (q.den : Int) ∣ n := by
  have e := mul_den q
  have h2 : (q.num : Rat) * n = m * (q.den : Int) := by
    rw [← h, ← e]; grind
  have h3 : q.num * n = m * (q.den : Int) := by exact_mod_cast h2
  have c : Nat.Coprime q.den q.num.natAbs := q.reduced.symm
  have d : q.den ∣ q.num.natAbs * n.natAbs := by
    rw [← Int.natAbs_mul, h3, Int.natAbs_mul, Int.natAbs_natCast]
    exact Nat.dvd_mul_left _ _
  have := c.dvd_of_dvd_mul_left d
  exact Int.natAbs_dvd_natAbs.mp (by rw [Int.natAbs_natCast]; exact this)
end DL


set_option linter.all false
set_option autoImplicit false
set_option Elab.async false
set_option maxRecDepth 100000
set_option maxHeartbeats 2000000
/-! DLval: what a law's own numbers (p, q, r, d) stand for: U and V times the root of m. -/
namespace DL
open PySem
structure Lz where
  p : Int
  q : Int
  r : Int
  d : Int
def LD (x : Lz) : D := .tup [.int x.p, .int x.q, .int x.r, .int x.d]
theorem ix4_0 (a b c e : D) (S : Sto) : dIx (.tup [a, b, c, e]) (.int 0) S = .ok a S := ix_t0 _ _ S
theorem ix4_1 (a b c e : D) (S : Sto) : dIx (.tup [a, b, c, e]) (.int 1) S = .ok b S := by
  show (match L2.atI [a, b, c, e] 1 with | some d => R.ok d S | none => R.bad) = _
  rw [at_1]
theorem ix4_2 (a b c e : D) (S : Sto) : dIx (.tup [a, b, c, e]) (.int 2) S = .ok c S := by
  show (match L2.atI [a, b, c, e] 2 with | some d => R.ok d S | none => R.bad) = _
  rw [at_2]
theorem at_3 {α : Type} (x y z w : α) (xs : List α) : L2.atI (x :: y :: z :: w :: xs) 3 = some w := by
  unfold L2.atI L2.ixN
  rw [if_pos (by decide), if_pos (by simp; omega)]; rfl
theorem ix4_3 (a b c e : D) (S : Sto) : dIx (.tup [a, b, c, e]) (.int 3) S = .ok e S := by
  show (match L2.atI [a, b, c, e] 3 with | some d => R.ok d S | none => R.bad) = _
  rw [at_3]
theorem ixLD0 (x : Lz) (S : Sto) : dIx (LD x) (.int 0) S = .ok (.int x.p) S := ix4_0 _ _ _ _ S
theorem ixLD1 (x : Lz) (S : Sto) : dIx (LD x) (.int 1) S = .ok (.int x.q) S := ix4_1 _ _ _ _ S
theorem ixLD2 (x : Lz) (S : Sto) : dIx (LD x) (.int 2) S = .ok (.int x.r) S := ix4_2 _ _ _ _ S
theorem ixLD3 (x : Lz) (S : Sto) : dIx (LD x) (.int 3) S = .ok (.int x.d) S := ix4_3 _ _ _ _ S
/-- sizes -/
structure Zs (x : Lz) (np nq nr nd : Nat) : Prop where
  p : x.p.natAbs < 2 ^ np
  q : x.q.natAbs < 2 ^ nq
  r : x.r.natAbs < 2 ^ nr
  d : x.d.natAbs < 2 ^ nd
theorem Zs.up {x : Lz} {np nq nr nd np' nq' nr' nd' : Nat} (h : Zs x np nq nr nd) (h1 : np ≤ np') (h2 : nq ≤ nq') (h3 : nr ≤ nr') (h4 : nd ≤ nd') : Zs x np' nq' nr' nd' := ⟨up_lt h.p h1, up_lt h.q h2, up_lt h.r h3, up_lt h.d h4⟩
/-- x is U + V times the root of m -/
structure Val (m : Nat) (x : Lz) (U V : Rat) : Prop where
  r0 : x.r ≠ 0
  u : U = (x.p : Rat) / (x.r : Rat)
  v : (x.d = 0 ∧ x.q = 0 ∧ V = 0) ∨ (0 < x.d ∧ ∃ k : Rat, 0 < k ∧ (x.d : Rat) = k * k * (m : Rat) ∧ V = (x.q : Rat) * k / (x.r : Rat))
/-- two over one root -/
structure Two (m : Nat) (x y : Lz) (U V U2 V2 : Rat) (k : Rat) : Prop where
  k0 : 0 < k
  e : x.d = y.d
  x0 : x.r ≠ 0
  y0 : y.r ≠ 0
  u : U = (x.p : Rat) / (x.r : Rat)
  v : V = (x.q : Rat) * k / (x.r : Rat)
  u2 : U2 = (y.p : Rat) / (y.r : Rat)
  v2 : V2 = (y.q : Rat) * k / (y.r : Rat)
  d : (x.d = 0 ∧ x.q = 0 ∧ y.q = 0) ∨ (0 < x.d ∧ (x.d : Rat) = k * k * (m : Rat))
theorem ratpos_ne {k : Rat} (h : 0 < k) : k ≠ 0 := fun e => by rw [e] at h; exact Rat.lt_irrefl h
/-- the root of a product of two of one field is whole -/
theorem root_exact {m : Nat} {d e : Int} {k l : Rat} (hd : 0 < d) (he : 0 < e) (k0 : 0 < k) (l0 : 0 < l) (h1 : (d : Rat) = k * k * (m : Rat)) (h2 : (e : Rat) = l * l * (m : Rat)) : ∃ w : Nat, (w : Rat) = k * l * (m : Rat) ∧ ((w * w : Nat) : Int) = d * e := by
  have hx : (k * l * (m : Rat)) * (k * l * (m : Rat)) = ((d * e : Int) : Rat) := by
    rw [Rat.intCast_mul, h1, h2]; grind
  obtain ⟨q, hq⟩ : ∃ q, k * l * (m : Rat) = q := ⟨_, rfl⟩
  rw [hq] at hx
  have den : ((pr (q * q)).2) = 1 := by rw [hx]; rfl
  have hs := sq_num q
  have h3 : (q.den : Int) * q.den = 1 := by
    have : (q.num * q.num, (q.den : Int) * q.den).2 = (pr (q * q)).2 := by rw [hs]
    rw [den] at this; exact this
  have h4 : q.den = 1 := by
    have : q.den * q.den = 1 := by exact_mod_cast h3
    exact Nat.eq_one_of_mul_eq_one_left this
  have qe : q = (q.num : Rat) := by
    have z := mul_den q
    rw [h4] at z
    have o : (((1 : Nat) : Int) : Rat) = 1 := rfl
    rw [o, Rat.mul_one] at z
    exact z
  have q0 : 0 ≤ q := by
    rw [← hq]
    have m0 : (0 : Rat) ≤ (m : Rat) := Rat.natCast_nonneg
    exact Rat.mul_nonneg (Rat.mul_nonneg (Rat.le_of_lt k0) (Rat.le_of_lt l0)) m0
  have n0 : 0 ≤ q.num := Rat.num_nonneg.mpr q0
  refine ⟨q.num.natAbs, ?_, ?_⟩
  · have : ((q.num.natAbs : Int)) = q.num := by omega
    rw [hq]
    conv => rhs; rw [qe, ← this]
    rfl
  · have e1 : ((q.num * q.num : Int) : Rat) = ((d * e : Int) : Rat) := by
      rw [← hx, Rat.intCast_mul, ← qe]
    have e2 : q.num * q.num = d * e := by exact_mod_cast e1
    rw [← e2]
    have : ((q.num.natAbs : Int)) = q.num := by omega
    rw [Int.natCast_mul, this]
theorem cast_ne {i : Int} (h : i ≠ 0) : (i : Rat) ≠ 0 := castI_ne h
/-- scaled by a whole number -/
theorem scale_div {a b c : Rat} (hc : c ≠ 0) : (a * c) / (b * c) = a / b := by
  by_cases h : b = 0
  · rw [h]; grind
  · grind
section
variable {m : Nat} {x y : Lz} {U V U2 V2 k : Rat} (T : Two m x y U V U2 V2 k)
include T
theorem Two.sum {z : Lz} {g : Int} (g0 : g ≠ 0) (zr : z.r ≠ 0) (h1 : x.p * y.r + y.p * x.r = g * z.p) (h2 : x.q * y.r + y.q * x.r = g * z.q) (h3 : x.r * y.r = g * z.r) (h4 : z.d = x.d) : Val m z (U + U2) (V + V2) := by
  have a := cast_ne T.x0
  have b := cast_ne T.y0
  have c := cast_ne zr
  have gg := cast_ne g0
  have e1 : (x.p : Rat) * y.r + y.p * x.r = g * z.p := by exact_mod_cast h1
  have e2 : (x.q : Rat) * y.r + y.q * x.r = g * z.q := by exact_mod_cast h2
  have e3 : (x.r : Rat) * y.r = g * z.r := by exact_mod_cast h3
  have u := T.u; have v := T.v; have u2 := T.u2; have v2 := T.v2
  refine ⟨zr, ?_, ?_⟩
  · rw [u, u2]
    generalize (x.p : Rat) = xp at *; generalize (y.p : Rat) = yp at *; generalize (x.r : Rat) = xr at *; generalize (y.r : Rat) = yr at *; generalize (z.p : Rat) = zp at *; generalize (z.r : Rat) = zr' at *; generalize (g : Rat) = g' at *
    clear u v u2 v2 e2 T h1 h2 h3 h4
    have : xp / xr + yp / yr = (xp * yr + yp * xr) / (xr * yr) := by grind
    rw [this, e1, e3]; grind
  · have hv : V + V2 = (z.q : Rat) * k / z.r := by
      rw [v, v2]
      generalize (x.q : Rat) = xp at *; generalize (y.q : Rat) = yp at *; generalize (x.r : Rat) = xr at *; generalize (y.r : Rat) = yr at *; generalize (z.q : Rat) = zp at *; generalize (z.r : Rat) = zr' at *; generalize (g : Rat) = g' at *
      clear u v u2 v2 e1 T h1 h2 h3 h4
      have : xp * k / xr + yp * k / yr = (xp * yr + yp * xr) * k / (xr * yr) := by grind
      rw [this, e2, e3]; grind
    rcases T.d with ⟨d0, q1, q2⟩ | ⟨d0, dk⟩
    · left
      rw [q1, q2] at h2
      have : z.q = 0 := by
        have : g * z.q = 0 := by omega
        rcases Int.mul_eq_zero.mp this with w | w
        · exact absurd w g0
        · exact w
      refine ⟨by rw [h4]; exact d0, this, ?_⟩
      rw [hv, this]; grind
    · right
      exact ⟨by rw [h4]; exact d0, k, T.k0, by rw [h4]; exact dk, hv⟩
theorem Two.product {z : Lz} {g : Int} (g0 : g ≠ 0) (zr : z.r ≠ 0) (h1 : x.p * y.p + x.q * y.q * x.d = g * z.p) (h2 : x.p * y.q + x.q * y.p = g * z.q) (h3 : x.r * y.r = g * z.r) (h4 : z.d = x.d) : Val m z (U * U2 + V * V2 * (m : Rat)) (U * V2 + V * U2) := by
  have a := cast_ne T.x0
  have b := cast_ne T.y0
  have c := cast_ne zr
  have gg := cast_ne g0
  have e1 : (x.p : Rat) * y.p + x.q * y.q * x.d = g * z.p := by exact_mod_cast h1
  have e2 : (x.p : Rat) * y.q + x.q * y.p = g * z.q := by exact_mod_cast h2
  have e3 : (x.r : Rat) * y.r = g * z.r := by exact_mod_cast h3
  have u := T.u; have v := T.v; have u2 := T.u2; have v2 := T.v2
  have kd : (x.q : Rat) * y.q * (k * k * (m : Rat)) = x.q * y.q * x.d := by
    rcases T.d with ⟨d0, q1, q2⟩ | ⟨d0, dk⟩
    · rw [q1]; grind
    · rw [dk]
  refine ⟨zr, ?_, ?_⟩
  · rw [u, u2, v, v2]
    generalize (x.p : Rat) = xp at *; generalize (y.p : Rat) = yp at *; generalize (x.q : Rat) = xq at *; generalize (y.q : Rat) = yq at *; generalize (x.r : Rat) = xr at *; generalize (y.r : Rat) = yr at *; generalize (z.p : Rat) = zp at *; generalize (z.r : Rat) = zr' at *; generalize (g : Rat) = g' at *; generalize (x.d : Rat) = xd at *; generalize (m : Rat) = mm at *
    clear u v u2 v2 e2 T h1 h2 h3 h4
    have : xp / xr * (yp / yr) + xq * k / xr * (yq * k / yr) * mm = (xp * yp + xq * yq * (k * k * mm)) / (xr * yr) := by grind
    rw [this, kd, e1, e3]; grind
  · have hv : U * V2 + V * U2 = (z.q : Rat) * k / z.r := by
      rw [u, u2, v, v2]
      generalize (x.p : Rat) = xp at *; generalize (y.p : Rat) = yp at *; generalize (x.q : Rat) = xq at *; generalize (y.q : Rat) = yq at *; generalize (x.r : Rat) = xr at *; generalize (y.r : Rat) = yr at *; generalize (z.q : Rat) = zp at *; generalize (z.r : Rat) = zr' at *; generalize (g : Rat) = g' at *
      clear u v u2 v2 e1 T h1 h2 h3 h4 kd
      have : xp / xr * (yq * k / yr) + xq * k / xr * (yp / yr) = (xp * yq + xq * yp) * k / (xr * yr) := by grind
      rw [this, e2, e3]; grind
    rcases T.d with ⟨d0, q1, q2⟩ | ⟨d0, dk⟩
    · left
      rw [q1, q2] at h2
      have : z.q = 0 := by
        have : g * z.q = 0 := by simpa using h2.symm
        rcases Int.mul_eq_zero.mp this with w | w
        · exact absurd w g0
        · exact w
      refine ⟨by rw [h4]; exact d0, this, ?_⟩
      rw [hv, this]; grind
    · right
      exact ⟨by rw [h4]; exact d0, k, T.k0, by rw [h4]; exact dk, hv⟩
end
theorem Val.dn {m : Nat} {x : Lz} {U V : Rat} (h : Val m x U V) : 0 ≤ x.d := by
  rcases h.v with z | z <;> omega
/-- no root is left -/
theorem Val.q0 {m : Nat} {x : Lz} {U V : Rat} (h : Val m x U V) (hv : V = 0) : x.q = 0 := by
  rcases h.v with ⟨_, z, _⟩ | ⟨_, k, k0, _, e⟩
  · exact z
  · rw [hv] at e
    have r := cast_ne h.r0
    have kn := ratpos_ne k0
    by_cases c : x.q = 0
    · exact c
    · have := cast_ne c
      exfalso
      generalize (x.q : Rat) = a at *; generalize (x.r : Rat) = b at *
      have : a * k = 0 := by grind
      rcases Rat.mul_eq_zero.mp this with z | z
      · contradiction
      · contradiction
/-- a fraction -/
theorem Val.frac (m : Nat) (u : Rat) : Val m ⟨u.num, 0, u.den, 0⟩ u 0 := ⟨den_ne u, rat_eq u, .inl ⟨rfl, rfl, rfl⟩⟩
/-! ### elements of the program: u and v times the root of d -/
def EL (u v : Rat) (d : Int) : D := .tup [FQ u, FQ v, .int d]
/-- .. with no d where v is nothing -/
def EN (u v : Rat) (m : Nat) : D := EL u v (if v = 0 then 0 else (m : Int))
theorem EN_plain (u : Rat) (m : Nat) : EN u 0 m = EL u 0 0 := by unfold EN; rw [if_pos rfl]
theorem ixEL0 (u v : Rat) (d : Int) (S : Sto) : dIx (EL u v d) (.int 0) S = .ok (FQ u) S := ix3_0 _ _ _ S
theorem ixEL1 (u v : Rat) (d : Int) (S : Sto) : dIx (EL u v d) (.int 1) S = .ok (FQ v) S := ix3_1 _ _ _ S
theorem ixEL2 (u v : Rat) (d : Int) (S : Sto) : dIx (EL u v d) (.int 2) S = .ok (.int d) S := ix3_2 _ _ _ S
/-- a rational number whose square is whole is whole -/
theorem rat_sq_whole {q : Rat} {i : Int} (h : q * q = (i : Rat)) : ∃ n : Nat, ((n * n : Nat) : Int) = i := by
  have den : ((pr (q * q)).2) = 1 := by rw [h]; rfl
  have hs := sq_num q
  have h3 : (q.den : Int) * q.den = 1 := by
    have : (q.num * q.num, (q.den : Int) * q.den).2 = (pr (q * q)).2 := by rw [hs]
    rw [den] at this; exact this
  have h4 : (pr (q * q)).1 = i := by rw [h]; rfl
  have h5 : q.num * q.num = i := by
    have : (q.num * q.num, (q.den : Int) * q.den).1 = (pr (q * q)).1 := by rw [hs]
    rw [h4] at this; exact this
  refine ⟨q.num.natAbs, ?_⟩
  rw [← h5, Int.natCast_mul]
  exact Int.natAbs_mul_self
/-- no square -/
def NoSq (m : Nat) : Prop := ∀ n : Nat, n * n ≠ m
theorem NoSq.rat {m : Nat} (h : NoSq m) (q : Rat) : q * q ≠ (m : Rat) := fun e => by
  obtain ⟨n, hn⟩ := rat_sq_whole (i := (m : Int)) (q := q) e
  exact h n (by exact_mod_cast hn)
theorem NoSq.pos {m : Nat} (h : NoSq m) : 0 < m := by
  by_cases c : 0 < m
  · exact c
  · exact absurd (show 0 * 0 = m by omega) (h 0)
/-- the root, from 0 on, of a rational number above 0: s and t times the root of m, one of both -/
structure RootIs (q : Rat) (m : Nat) (s t : Rat) : Prop where
  one : (t = 0 ∧ 0 < s ∧ s * s = q) ∨ (s = 0 ∧ 0 < t ∧ t * t * (m : Rat) = q ∧ NoSq m)
/-- a told number: ints -/
def IT (l : List Int) : D := .tup (l.map D.int)
theorem FQ_IT (u : Rat) : FQ u = IT [u.num, (u.den : Int)] := rfl
theorem abs_sgn (v : Rat) (h : v ≠ 0) : ∃ a : Rat, 0 < a ∧ v = (sgQ v : Rat) * a ∧ a * a = v * v ∧ (sgQ v = 1 ∨ sgQ v = -1) := by
  unfold sgQ
  by_cases c : 0 < v
  · rw [if_pos c]
    exact ⟨v, c, by have : ((1 : Int) : Rat) = 1 := rfl
                    rw [this]; grind, rfl, .inl rfl⟩
  · have d : v < 0 := by
      rcases Rat.le_total (a := v) (b := 0) with w | w
      · exact Rat.lt_of_le_of_ne w h
      · exact absurd (Rat.lt_of_le_of_ne w (fun e => h e.symm)) c
    rw [if_neg c, if_pos d]
    refine ⟨-v, by grind, ?_, by grind, .inr rfl⟩
    have : ((-1 : Int) : Rat) = -1 := rfl
    rw [this]; grind
/-- the ints of a told root -/
structure Told (m : Nat) (u v : Rat) (a b c s : Int) : Prop where
  a0 : 0 < a
  hb : (b : Rat) = -(u + u) * a
  hc : (c : Rat) = (u * u - v * v * m) * a
  g : Int.gcd ((Int.gcd a b : Nat) : Int) c = 1
  hs : s = sgQ v
theorem Told.disc {m : Nat} {u v : Rat} {a b c s : Int} (T : Told m u v a b c s) : ((b * b - 4 * a * c : Int) : Rat) = (2 * (a : Rat) * v) * (2 * (a : Rat) * v) * m := by
  have hb := T.hb; have hc := T.hc
  rw [Rat.intCast_sub, Rat.intCast_mul, Rat.intCast_mul, Rat.intCast_mul, hb, hc]
  have : ((4 : Int) : Rat) = 4 := rfl
  rw [this]; grind
theorem Told.val {m : Nat} {u v : Rat} {a b c s : Int} (T : Told m u v a b c s) (hv : v ≠ 0) (hm : 0 < m) : Val m ⟨-b, s, 2 * a, b * b - 4 * a * c⟩ u v := by
  have a0 := T.a0
  have an : (a : Rat) ≠ 0 := castI_ne (by omega)
  have ap : 0 < (a : Rat) := Rat.intCast_pos.mpr a0
  obtain ⟨w, w0, w1, w2, w3⟩ := abs_sgn v hv
  have two : ((2 : Int) : Rat) = 2 := rfl
  have e2 : ((2 * a : Int) : Rat) = 2 * (a : Rat) := by rw [Rat.intCast_mul, two]
  refine ⟨by show 2 * a ≠ 0; omega, ?_, .inr ⟨?_, 2 * (a : Rat) * w, ?_, ?_, ?_⟩⟩
  · show u = ((-b : Int) : Rat) / ((2 * a : Int) : Rat)
    rw [Rat.intCast_neg, T.hb, e2]; grind
  · show 0 < b * b - 4 * a * c
    have : 0 < ((b * b - 4 * a * c : Int) : Rat) := by
      rw [T.disc]
      have mp : 0 < (m : Rat) := Rat.natCast_pos.mpr hm
      have e : 2 * (a : Rat) * v * (2 * (a : Rat) * v) * m = (2 * (a : Rat) * w) * (2 * (a : Rat) * w) * m := by
        have : 2 * (a : Rat) * v * (2 * (a : Rat) * v) * m = 4 * (a : Rat) * a * (v * v) * m := by grind
        rw [this, ← w2]; grind
      rw [e]
      have p : 0 < 2 * (a : Rat) * w := Rat.mul_pos (Rat.mul_pos (by decide) ap) w0
      exact Rat.mul_pos (Rat.mul_pos p p) mp
    exact Rat.intCast_pos.mp this
  · exact Rat.mul_pos (Rat.mul_pos (by decide) ap) w0
  · show ((b * b - 4 * a * c : Int) : Rat) = _
    rw [T.disc]
    have : 2 * (a : Rat) * v * (2 * (a : Rat) * v) * m = 4 * (a : Rat) * a * (v * v) * m := by grind
    rw [this, ← w2]; grind
  · show v = (s : Rat) * (2 * (a : Rat) * w) / ((2 * a : Int) : Rat)
    rw [T.hs, e2]
    conv => lhs; rw [w1]
    generalize (sgQ v : Rat) = z at *
    grind
/-- one number stands for one value -/
theorem Val.uniq {m : Nat} {x : Lz} {U V U2 V2 : Rat} (h : Val m x U V) (k : Val m x U2 V2) : U = U2 ∧ V = V2 := by
  refine ⟨by rw [h.u, k.u], ?_⟩
  rcases h.v with ⟨a, b, c⟩ | ⟨a, l, l0, ld, lv⟩
  · rcases k.v with ⟨_, _, e⟩ | ⟨e, _⟩
    · rw [c, e]
    · omega
  · rcases k.v with ⟨e, _, _⟩ | ⟨_, n, n0, nd, nv⟩
    · omega
    · have mn : (m : Rat) ≠ 0 := fun q => by
        rw [q] at ld
        have : (x.d : Rat) = 0 := by rw [ld]; grind
        have := castI_ne (b := x.d) (by omega)
        contradiction
      have s2 : (l - n) * (l + n) = 0 := by
        have : (l - n) * (l + n) * (m : Rat) = 0 := by grind
        rcases Rat.mul_eq_zero.mp this with w | w
        · exact w
        · contradiction
      have ln : l = n := by
        rcases Rat.mul_eq_zero.mp s2 with w | w
        · grind
        · exfalso
          have : 0 < l + n := by grind
          rw [w] at this; exact Rat.lt_irrefl this
      rw [lv, nv, ln]
end DL


set_option linter.all false
set_option autoImplicit false
set_option Elab.async false
set_option maxRecDepth 100000
set_option maxHeartbeats 4000000
/-! what the common defs of K20 do, printed by tmpl.py -/
namespace K20
open PySem DL
theorem gcd_loop (S : Sto) : ∀ (n m : Nat), sWhile (tOf (eBin dNe (eVar 1) (eC (.int 0)))) (sPar 0 1 (aCons (eVar 1) (aCons (eBin dMod (eVar 0) (eVar 1)) (aNil)))) [some (.int (m : Int)), some (.int (n : Int))] S = .nx [some (.int (Nat.gcd m n : Nat)), some (.int 0)] S := by
  intro n
  induction n using Nat.strongRecOn with
  | _ n ih =>
    intro m
    rw [sWhile_eq]
    by_cases hn : n = 0
    · subst hn
      simp [dNe, eqI]
    · have h0 : (n : Int) ≠ 0 := by omega
      have e : (m : Int).fmod (n : Int) = ((m % n : Nat) : Int) := by
        rw [Int.fmod_eq_emod_of_nonneg _ (by omega)]; exact (Int.natCast_emod m n).symm
      simp [dNe, eqI, hn, d_mod h0, e]
      rw [← Int.natCast_emod, ih (m % n) (Nat.mod_lt _ (by omega)) n]
      rw [Nat.gcd_comm n (m % n), ← Nat.gcd_rec, Nat.gcd_comm]
theorem e_common (a b : Int) (S : Sto) : f_common [.int a, .int b] S = .ok (.int (Int.gcd a b : Nat)) S := by
  simp [f_common, mkFn, m_common, DL.start, gcd_loop]
  rfl
theorem e_law_gcd (a b : Int) (S : Sto) : f_law_gcd [.int a, .int b] S = .ok (.int (Int.gcd a b : Nat)) S := by
  simp [f_law_gcd, mkFn, m_law_gcd, DL.start, gcd_loop]
  rfl
theorem e_rate {t b : Int} (hb : b ≠ 0) (hz : b.natAbs < 2 ^ 9000) (S : Sto) : f_rate [.int t, .int b] S = .ok (F (red t b)) S := by
  have hg : Int.gcd t b < 2 ^ 9000 := Nat.lt_of_le_of_lt (red_gcd t b hb) hz
  have hp : 0 < Int.gcd t b := Int.gcd_pos_of_ne_zero_right t hb
  by_cases hn : b < 0
  · have d1 : divOk (-(Int.gcd t b : Int)) = true := divOk_of (by omega) (by omega)
    simp [f_rate, mkFn, m_rate, DL.start, e_common, hn, d_div d1, red, F]
  · have d1 : divOk (Int.gcd t b : Int) = true := divOk_of (by omega) (by omega)
    simp [f_rate, mkFn, m_rate, DL.start, e_common, hn, d_div d1, red, F]
theorem e_law_rate {t b : Int} (hb : b ≠ 0) (hz : b.natAbs < 2 ^ 9000) (S : Sto) : f_law_rate [.int t, .int b] S = .ok (F (red t b)) S := by
  have hg : Int.gcd t b < 2 ^ 9000 := Nat.lt_of_le_of_lt (red_gcd t b hb) hz
  have hp : 0 < Int.gcd t b := Int.gcd_pos_of_ne_zero_right t hb
  have hl : ((Int.gcd t b : Nat) : Int).natAbs < 2 ^ 400000 := by rw [Int.natAbs_natCast]; exact lt9 hg
  have m1 : mulOk (Int.gcd t b : Int) 1 = true := mulOk_of hl (Nat.one_lt_two_pow (by omega))
  have m2 : mulOk (Int.gcd t b : Int) (-1) = true := mulOk_of hl (Nat.one_lt_two_pow (by omega))
  by_cases hn : b < 0
  · have hn' : ¬ 0 < b := by omega
    have d1 : divOk (-(Int.gcd t b : Int)) = true := divOk_of (by omega) (by omega)
    simp [f_law_rate, mkFn, m_law_rate, DL.start, e_law_gcd, hn, hn', d_mul m2, d_div d1, red, F]
  · have hn' : 0 < b := by omega
    have d1 : divOk (Int.gcd t b : Int) = true := divOk_of (by omega) (by omega)
    simp [f_law_rate, mkFn, m_law_rate, DL.start, e_law_gcd, hn, hn', d_mul m1, d_div d1, red, F]
theorem e_plus {x y : Int × Int} (hx : Sz 4400 x) (hy : Sz 4400 y) (S : Sto) (h : x.2 * y.2 ≠ 0) : f_plus [F x, F y] S = .ok (F (red (x.1 * y.2 + y.1 * x.2) (x.2 * y.2))) S := by
  simp [f_plus, mkFn, m_plus, DL.start, d_mul (mul_ok hx.a hy.b), d_mul (mul_ok hy.a hx.b), d_mul (mul_ok hx.b hy.b)]
  rw [e_rate h (up_lt (mul_lt hx.b hy.b) (by omega))]; rfl
theorem e_less {x y : Int × Int} (hx : Sz 4400 x) (hy : Sz 4400 y) (S : Sto) (h : x.2 * y.2 ≠ 0) : f_less [F x, F y] S = .ok (F (red (x.1 * y.2 - y.1 * x.2) (x.2 * y.2))) S := by
  simp [f_less, mkFn, m_less, DL.start, d_mul (mul_ok hx.a hy.b), d_mul (mul_ok hy.a hx.b), d_mul (mul_ok hx.b hy.b)]
  rw [e_rate h (up_lt (mul_lt hx.b hy.b) (by omega))]; rfl
theorem e_times {x y : Int × Int} (hx : Sz 4400 x) (hy : Sz 4400 y) (S : Sto) (h : x.2 * y.2 ≠ 0) : f_times [F x, F y] S = .ok (F (red (x.1 * y.1) (x.2 * y.2))) S := by
  simp [f_times, mkFn, m_times, DL.start, d_mul (mul_ok hx.a hy.a), d_mul (mul_ok hx.b hy.b)]
  rw [e_rate h (up_lt (mul_lt hx.b hy.b) (by omega))]; rfl
theorem e_over {x y : Int × Int} (hx : Sz 4400 x) (hy : Sz 4400 y) (S : Sto) (h : x.2 * y.1 ≠ 0) : f_over [F x, F y] S = .ok (F (red (x.1 * y.2) (x.2 * y.1))) S := by
  simp [f_over, mkFn, m_over, DL.start, d_mul (mul_ok hx.a hy.b), d_mul (mul_ok hx.b hy.a)]
  rw [e_rate h (up_lt (mul_lt hx.b hy.a) (by omega))]; rfl
theorem e_turned_sign (x : Int × Int) (S : Sto) : f_turned_sign [F x] S = .ok (F (-x.1, x.2)) S := by
  simp [f_turned_sign, mkFn, m_turned_sign, DL.start, F]
theorem e_squared {x : Int × Int} (hx : Sz 4400 x) (S : Sto) : f_squared [F x] S = .ok (F (x.1 * x.1, x.2 * x.2)) S := by
  simp [f_squared, mkFn, m_squared, DL.start, F, d_mul (mul_ok hx.a hx.a), d_mul (mul_ok hx.b hx.b)]
def sgD (a : Int) : Int := b2i (decide (0 < a)) - b2i (decide (a < 0))
theorem e_sign_of (x : Int × Int) (S : Sto) : f_sign_of [F x] S = .ok (.int (sgD x.1)) S := by
  simp [f_sign_of, mkFn, m_sign_of, DL.start, dSubB, sgD]
theorem sgp (a : Int) : 0 < sgD a ↔ 0 < a := by
  unfold sgD b2i
  by_cases h : 0 < a
  · have : ¬ a < 0 := by omega
    simp [h, this]
  · by_cases k : a < 0 <;> simp [h, k]
theorem sgn (a : Int) : sgD a < 0 ↔ a < 0 := by
  unfold sgD b2i
  by_cases h : 0 < a
  · have : ¬ a < 0 := by omega
    simp [h, this]
  · by_cases k : a < 0 <;> simp [h, k]
theorem e_is_whole (i : Int) (S : Sto) : f_is_whole [.int i] S = .ok (.bl true) S := by
  simp [f_is_whole, mkFn, m_is_whole, DL.start, isIntI, isBoolI]
theorem e_is_lowest {x : Int × Int} (h : Low x) (S : Sto) : f_is_lowest [F x] S = .ok (.bl true) S := by
  have := h.pos; have := h.one
  simp [f_is_lowest, mkFn, m_is_lowest, DL.start, isTupF, truD, e_is_whole, e_common, dNeI, dEqI, lenF, h.pos, h.one]
theorem e_is_fraction {x : Int × Int} (h : Low x) (h1 : x.1.natAbs ≤ 1000000) (h2 : x.2 ≤ 1000000) (S : Sto) : f_is_fraction [F x] S = .ok (.bl true) S := by
  have a1 : -1000000 ≤ x.1 := by omega
  have a2 : x.1 ≤ 1000000 := by omega
  simp [f_is_fraction, mkFn, m_is_fraction, DL.start, e_is_lowest h, k_MOST]
  simp [h2, a1, a2]
theorem e_law_plus {x y : Int × Int} (hx : Sz 4400 x) (hy : Sz 4400 y) (S : Sto) (h : x.2 * y.2 ≠ 0) : f_law_plus [F x, F y] S = .ok (F (red (x.1 * y.2 + y.1 * x.2) (x.2 * y.2))) S := by
  simp [f_law_plus, mkFn, m_law_plus, DL.start, d_mul (mul_ok hx.a hy.b), d_mul (mul_ok hy.a hx.b), d_mul (mul_ok hx.b hy.b)]
  rw [e_law_rate h (up_lt (mul_lt hx.b hy.b) (by omega))]; rfl
theorem e_law_less {x y : Int × Int} (hx : Sz 4400 x) (hy : Sz 4400 y) (S : Sto) (h : x.2 * y.2 ≠ 0) : f_law_less [F x, F y] S = .ok (F (red (x.1 * y.2 - y.1 * x.2) (x.2 * y.2))) S := by
  simp [f_law_less, mkFn, m_law_less, DL.start, d_mul (mul_ok hx.a hy.b), d_mul (mul_ok hy.a hx.b), d_mul (mul_ok hx.b hy.b)]
  rw [e_law_rate h (up_lt (mul_lt hx.b hy.b) (by omega))]; rfl
theorem e_law_times {x y : Int × Int} (hx : Sz 4400 x) (hy : Sz 4400 y) (S : Sto) (h : x.2 * y.2 ≠ 0) : f_law_times [F x, F y] S = .ok (F (red (x.1 * y.1) (x.2 * y.2))) S := by
  simp [f_law_times, mkFn, m_law_times, DL.start, d_mul (mul_ok hx.a hy.a), d_mul (mul_ok hx.b hy.b)]
  rw [e_law_rate h (up_lt (mul_lt hx.b hy.b) (by omega))]; rfl
theorem e_law_is_below {x y : Int × Int} (hx : Sz 4400 x) (hy : Sz 4400 y) (S : Sto) : f_law_is_below [F x, F y] S = .ok (.bl (decide (x.1 * y.2 < y.1 * x.2))) S := by
  simp [f_law_is_below, mkFn, m_law_is_below, DL.start, d_mul (mul_ok hx.a hy.b), d_mul (mul_ok hy.a hx.b)]
theorem e_takeK {S : Sto} {n : Nat} {k u : Int} (P : PotAt S n k) (hk : k < 1000) (hu : 0 < u) (hu2 : u < 2 ^ 62) :
    ∃ d S', f_law_take [.loc n, .int u] S = .ok (.int d) S' ∧ 0 ≤ d ∧ d < u ∧ PotAt S' n (k + 1) ∧ S'.length = S.length ∧ ∀ m, m ≠ n → S'[m]? = S[m]? := by
  obtain ⟨⟨a, b, c, h, ha, hb, hb2, hc, hck⟩, hF⟩ := P
  have e62 : (2 : Int) ^ 62 = 4611686018427387904 := by decide +kernel
  rw [e62] at hu2 hb2
  have hu0 : u ≠ 0 := by omega
  by_cases a0 : 0 < a
  · have dd : divOk u = true := divOk_of hu0 (Nat.lt_of_lt_of_le (show u.natAbs < 2 ^ 62 by omega) (Nat.pow_le_pow_right (by decide) (by decide)))
    refine ⟨a.fmod u, S.set n [.int (a.fdiv u), .int b, .int c], ?_, (fm hu).1, (fm hu).2, ⟨⟨a.fdiv u, b, c, got h, ?_, hb, by rw [e62]; exact hb2, hc, by omega⟩, hF.set n rfl⟩, by simp, fun m hm => List.getElem?_set_ne (Ne.symm hm)⟩
    · simp [f_law_take, mkFn, m_law_take, DL.start, ixL0 h, a0, d_mod hu0, d_div dd, st0 h]
    · exact Int.fdiv_nonneg ha (by omega)
  · have h1 : (S.set n [.int a, .int b, .int (c + 1)])[n]? = some [.int a, .int b, .int (c + 1)] := got h
    obtain ⟨p, p0, p1, hp⟩ := prime_ix ((c + 1).fmod 5) (fm (by decide)).1 (fm (by decide)).2
    have e31 : (2 : Int) ^ 31 = 2147483648 := by decide +kernel
    rw [e31] at p1
    have pn : p ≠ 0 := by omega
    have k1 : mulOk 95257 (c + 1) = true := small_ok (by decide) (Nat.lt_of_lt_of_le (show (c + 1).natAbs < 2 ^ 10 by omega) (Nat.pow_le_pow_right (by decide) (by decide)))
    have b2 : 0 ≤ (c + 1) * (c + 1) := Int.mul_nonneg (by omega) (by omega)
    have b3 : (c + 1) * (c + 1) ≤ 1000 * 1000 := Int.mul_le_mul (by omega) (by omega) (by omega) (by decide)
    have b4 : 95257 * (c + 1) * (c + 1) = 95257 * ((c + 1) * (c + 1)) := by grind
    have k2 : mulOk (95257 * (c + 1)) (c + 1) = true := small_ok (Nat.lt_of_lt_of_le (show (95257 * (c + 1)).natAbs < 2 ^ 30 by omega) (Nat.pow_le_pow_right (by decide) (by decide))) (Nat.lt_of_lt_of_le (show (c + 1).natAbs < 2 ^ 10 by omega) (Nat.pow_le_pow_right (by decide) (by decide)))
    have bi : (Builtin.Int.intBits (b + 95257 * (c + 1) * (c + 1) + 3163) : Int) * 3 ≤ 2 ^ 27 := by
      have := bits_le (x := b + 95257 * (c + 1) * (c + 1) + 3163) (k := 64) (by rw [b4]; omega) (by decide)
      have e27 : (2 : Int) ^ 27 = 134217728 := by decide +kernel
      rw [e27]; omega
    have pw3 := fun S => d_pow (i := b + 95257 * (c + 1) * (c + 1) + 3163) (j := 3) ⟨by decide, bi⟩ S
    obtain ⟨B, eB⟩ : ∃ B, Int.fmod ((b + 95257 * (c + 1) * (c + 1) + 3163) ^ 3) p = B := ⟨_, rfl⟩
    have hB := fm (a := (b + 95257 * (c + 1) * (c + 1) + 3163) ^ 3) p0
    rw [eB] at hB
    have m5 := d_mod (i := B) (show (13441 : Int) ≠ 0 by decide)
    have f5 := fm (a := B) (show (0 : Int) < 13441 by decide)
    have k3 : mulOk 419 (c + 1) = true := small_ok (by decide) (Nat.lt_of_lt_of_le (show (c + 1).natAbs < 2 ^ 10 by omega) (Nat.pow_le_pow_right (by decide) (by decide)))
    have k4 : mulOk B (B.fmod 13441 + 419 * (c + 1)) = true := small_ok (Nat.lt_of_lt_of_le (show B.natAbs < 2 ^ 31 by omega) (Nat.pow_le_pow_right (by decide) (by decide))) (Nat.lt_of_lt_of_le (show (B.fmod 13441 + 419 * (c + 1)).natAbs < 2 ^ 31 by omega) (Nat.pow_le_pow_right (by decide) (by decide)))
    have d229 : divOk 229 = true := divOk_of (by decide) (Nat.lt_of_lt_of_le (show (229 : Int).natAbs < 2 ^ 8 by decide) (Nat.pow_le_pow_right (by decide) (by decide)))
    refine ⟨(((B * (B.fmod 13441 + 419 * (c + 1))).fmod 2305843009213693907).fdiv 229).fmod u, S.set n [.int a, .int b, .int (c + 1)], ?_, (fm hu).1, (fm hu).2, ⟨⟨a, b, c + 1, h1, ha, hb, by rw [e62]; exact hb2, by omega, by omega⟩, hF.set n rfl⟩, by simp, fun m hm => List.getElem?_set_ne (Ne.symm hm)⟩
    · simp [f_law_take, mkFn, m_law_take, DL.start, ixL0 h, ixL1 h1, ixL2 h, ixL2 h1, a0, st2 h, d_mul k1, d_mul k2, d_mul k3, d_mul k4, d_mod (show (5 : Int) ≠ 0 by decide), hp, pw3, d_mod pn, eB, m5, d_mod (show (2305843009213693907 : Int) ≠ 0 by decide), d_div d229, d_mod hu0]
theorem e_take {S : Sto} {n : Nat} {k u : Int} (P : PotAt S n k) (hk : k < 1000) (hu : 0 < u) (hu2 : u < 2 ^ 62) :
    ∃ d S', f_law_take [.loc n, .int u] S = .ok (.int d) S' ∧ 0 ≤ d ∧ d < u ∧ PotAt S' n (k + 1) ∧ S'.length = S.length := by
  obtain ⟨d, S', h1, h2, h3, h4, h5, _⟩ := e_takeK P hk hu hu2
  exact ⟨d, S', h1, h2, h3, h4, h5⟩
/-- the other lists stay -/
theorem take_keeps {S S' : Sto} {n m : Nat} {k u : Int} {d : D} {l : List D} (P : PotAt S n k) (hk : k < 1000) (hu : 0 < u) (hu2 : u < 2 ^ 62) (t : f_law_take [.loc n, .int u] S = .ok d S') (h : S[m]? = some l) (hm : m ≠ n) : S'[m]? = some l := by
  obtain ⟨d', S'', h1, h2, h3, h4, h5, h6⟩ := e_takeK P hk hu hu2
  rw [t] at h1
  cases h1
  rw [h6 m hm, h]
theorem of_keeps {S S' : Sto} {n m : Nat} {k : Int} {d : D} {l : List D} (P : PotAt S n k) (hk : k < 1000) (xs : List D) (h0 : xs ≠ []) (hl : xs.length ≤ 1000) (t : f_law_of [.loc n, .lst xs] S = .ok d S') (h : S[m]? = some l) (hm : m ≠ n) : S'[m]? = some l := by
  have hx : 0 < xs.length := List.length_pos_iff.mpr h0
  have e62 : (2 : Int) ^ 62 = 4611686018427387904 := by decide +kernel
  obtain ⟨d1, S'', h1, h2, h3, h4, h5, h6⟩ := e_takeK (u := xs.length) P hk (by omega) (by rw [e62]; omega)
  have e : f_law_of [.loc n, .lst xs] S = dIx (.lst xs) (.int d1) S'' := by
    simp [f_law_of, mkFn, m_law_of, DL.start, h1]
    cases dIx (.lst xs) (.int d1) S'' <;> rfl
  rw [t] at e
  have : S' = S'' := by
    unfold dIx at e
    simp only at e
    split at e
    · cases e; rfl
    · cases e
  rw [this, h6 m hm, h]
theorem e_of {S : Sto} {n : Nat} {k : Int} (P : PotAt S n k) (hk : k < 1000) (xs : List D) (h0 : xs ≠ []) (hl : xs.length ≤ 1000) :
    ∃ x S', x ∈ xs ∧ f_law_of [.loc n, .lst xs] S = .ok x S' ∧ PotAt S' n (k + 1) ∧ S'.length = S.length := by
  have hx : 0 < xs.length := List.length_pos_iff.mpr h0
  have e62 : (2 : Int) ^ 62 = 4611686018427387904 := by decide +kernel
  obtain ⟨d, S', h, d0, d1, P', hL⟩ := e_take (u := xs.length) P hk (by omega) (by rw [e62]; omega)
  obtain ⟨m, rfl⟩ : ∃ m : Nat, d = m := ⟨d.toNat, by omega⟩
  have hm : m < xs.length := by omega
  have ix : dIx (.lst xs) (.int m) S' = .ok xs[m] S' := by
    show (match L2.atI xs (m : Int) with | some d => R.ok d S' | none => R.bad) = _
    have : L2.atI xs (m : Int) = some xs[m] := by
      unfold L2.atI L2.ixN
      rw [if_pos (by omega), if_pos (by omega)]
      simp [hm]
    rw [this]
  exact ⟨xs[m], S', List.getElem_mem hm, by simp [f_law_of, mkFn, m_law_of, DL.start, h, ix], P', hL⟩
theorem e_pot (ns : List Int) (p : Nat) (hp : p < 3) (S : Sto) : ∃ a b : Int, f_law_pot [.lst (ns.map D.int), .int p] S = .ok (.loc S.length) (S ++ [[.int a, .int b, .int 0]]) ∧ 0 ≤ a ∧ 0 ≤ b ∧ b < 2 ^ 62 := by
  have e27 : (2 : Int) ^ 27 = 134217728 := by decide +kernel
  have e62 : (2 : Int) ^ 62 = 4611686018427387904 := by decide +kernel
  obtain ⟨T, T0, T1, hT⟩ : ∃ T : Int, 0 < T ∧ T.natAbs < 2 ^ 200 ∧ ∀ S, dPow (.int 10) (.int 60) S = .ok (.int T) S := ⟨10 ^ 60, by decide +kernel, by decide +kernel, fun S => d_pow (by decide +kernel) S⟩
  obtain ⟨U, U0, U1, hU⟩ : ∃ U : Int, 0 < U ∧ U.natAbs < 2 ^ 1000 ∧ ∀ S, dPow (.int T) (.int 5) S = .ok (.int U) S := by
    have b := bits_le T1 (by decide)
    refine ⟨T ^ 5, Int.pow_pos T0, ?_, fun S => d_pow ⟨by decide, by rw [e27]; omega⟩ S⟩
    rw [Int.natAbs_pow]
    exact Nat.lt_of_lt_of_le (Nat.pow_lt_pow_left T1 (by decide)) (by rw [← Nat.pow_mul]; exact Nat.le_refl _)
  obtain ⟨V, hV⟩ : ∃ V : Int, ∀ S, dPow (.int 10) (.int 18) S = .ok (.int V) S := ⟨10 ^ 18, fun S => d_pow (by decide +kernel) S⟩
  have m1 : mulOk 4639 (p : Int) = true := small_ok (by decide) (Nat.lt_of_lt_of_le (show (p : Int).natAbs < 2 ^ 2 by omega) (Nat.pow_le_pow_right (by decide) (by decide)))
  have m2 : mulOk 10853 (p : Int) = true := small_ok (by decide) (Nat.lt_of_lt_of_le (show (p : Int).natAbs < 2 ^ 2 by omega) (Nat.pow_le_pow_right (by decide) (by decide)))
  have m3 : mulOk (10853 * (p : Int)) (p : Int) = true := small_ok (Nat.lt_of_lt_of_le (show (10853 * (p : Int)).natAbs < 2 ^ 20 by omega) (Nat.pow_le_pow_right (by decide) (by decide))) (Nat.lt_of_lt_of_le (show (p : Int).natAbs < 2 ^ 2 by omega) (Nat.pow_le_pow_right (by decide) (by decide)))
  have cell : ∃ c : Int, ∀ (o : List (Option D)), (eIf (tOf (eBin dLt (eVar 1) (eCall fLen (aCons (eVar 0) (aNil))))) (eBin dIx (eVar 0) (eVar 1)) (eBin dAdd (eBin dAdd (eBin dMod (eCall fInt (aCons (eCall fSum (aCons (eCut (eVar 0) (oNone) (oSome (eC (.int 1)))) (aNil))) (aNil))) (eC (.int 1000211))) (eBin dMul (eC (.int 4639)) (eVar 1))) (eC (.int 3163))))
      (some (.lst (ns.map D.int)) :: some (.int p) :: o) S = .ok (.int c) S := by
    by_cases h : p < ns.length
    · refine ⟨ns[p], fun o => ?_⟩
      have ix : dIx (.lst (ns.map D.int)) (.int p) S = .ok (.int ns[p]) S := by
        show (match L2.atI (ns.map D.int) (p : Int) with | some d => R.ok d S | none => R.bad) = _
        rw [at_ints ns p h]
      simp [h, ix]
    · have cut : ∃ l : List Int, cutD (ns.map D.int) none (some 1) = l.map D.int := ⟨_, by unfold cutD; rw [← List.map_drop, ← List.map_take]⟩
      obtain ⟨l, hl⟩ := cut
      refine ⟨l.sum.fmod 1000211 + 4639 * p + 3163, fun o => ?_⟩
      simp [h, eCut, hl, fSum, ints_of, d_mod (show (1000211 : Int) ≠ 0 by decide), d_mul m1]
  obtain ⟨c, hc⟩ := cell
  have P0 : (0 : Int) < 2305843009213693951 := by decide
  have f1 := fm (a := (c.natAbs : Int)) U0
  have f2 := fm (a := c) P0
  have bb : ∀ x : Bool, 0 ≤ b2i x ∧ b2i x ≤ 1 := fun x => by cases x <;> decide
  have k1 : mulOk ((c.natAbs : Int).fmod U) (b2i (decide (V ≤ (c.natAbs : Int)))) = true := by
    refine mul_ok (n := 1000) (m := 2) ?_ ?_
    · have : ((c.natAbs : Int).fmod U).natAbs < U.natAbs := by omega
      exact Nat.lt_trans this U1
    · have := bb (decide (V ≤ (c.natAbs : Int))); omega
  have k2 : mulOk (c.fmod 2305843009213693951) 72161 = true := small_ok (Nat.lt_of_lt_of_le (show (c.fmod 2305843009213693951).natAbs < 2 ^ 62 by omega) (Nat.pow_le_pow_right (by decide) (by decide))) (by decide)
  have Un : U ≠ 0 := by omega
  have hcc := hc [none, none, none]
  refine ⟨(c.natAbs : Int).fmod U * b2i (decide (V ≤ (c.natAbs : Int))), (c.fmod 2305843009213693951 * 72161 + 10853 * p * p + 2843).fmod 2305843009213693921, ?_, Int.mul_nonneg f1.1 (bb _).1, (fm (by decide)).1, ?_⟩
  · unfold f_law_pot mkFn m_law_pot
    have st : DL.start 5 [D.lst (ns.map D.int), D.int p] = [some (.lst (ns.map D.int)), some (.int p), none, none, none] := rfl
    rw [if_pos (show [D.lst (ns.map D.int), D.int p].length = 2 from rfl), st, ap_sSeq, ap_sSet, hcc]
    simp [hT, hU, hV, d_mod Un, d_mul k1, d_mod (show (2305843009213693951 : Int) ≠ 0 by decide), d_mul k2, d_mul m2, d_mul m3, d_mod (show (2305843009213693921 : Int) ≠ 0 by decide)]
  · have := (fm (a := c.fmod 2305843009213693951 * 72161 + 10853 * p * p + 2843) (show (0 : Int) < 2305843009213693921 by decide)).2
    rw [e62]; omega
theorem e_cells (ns : List Int) (hl : ns.length ≤ 63) (m : Int) (hm : 0 < m) (hm2 : m ≤ 3) (S : Sto) : ∃ c : Nat, (c : Int) ≤ m ∧ f_law_cells [.lst (ns.map D.int), .int m] S = .ok (.lst (rngL 0 c)) S := by
  obtain ⟨c, hc⟩ : ∃ c : Int, (if (ns.length : Int) < m then (ns.length : Int) else m) = c ∧ c ≤ m ∧ 0 ≤ c := ⟨_, rfl, by split <;> omega, by split <;> omega⟩
  obtain ⟨d, hd⟩ : ∃ d : Int, (if c > 1 then c else 1) = d ∧ d ≤ m ∧ 1 ≤ d := ⟨_, rfl, by split <;> omega, by split <;> omega⟩
  have mi : fMin [.int m, .int ns.length] S = .ok (.int c) S := by rw [← hc.1]; rfl
  have ma : fMax [.int 1, .int c] S = .ok (.int d) S := by rw [← hd.1]; rfl
  refine ⟨d.toNat, by omega, ?_⟩
  have r := rng_ok (j := d) (r := aCons (eCall fMax (aCons (eC (.int 1)) (aCons (eCall fMin (aCons (eVar 1) (aCons (eCall fLen (aCons (eVar 0) (aNil))) (aNil)))) (aNil)))) aNil) (ρ := [some (.lst (ns.map D.int)), some (.int m)]) (S := S) (S' := S) (by simp [mi, ma]) (by omega) (by omega)
  unfold f_law_cells mkFn m_law_cells
  rw [if_pos (show [D.lst (ns.map D.int), D.int m].length = 2 from rfl)]
  have st : DL.start 2 [D.lst (ns.map D.int), D.int m] = [some (.lst (ns.map D.int)), some (.int m)] := rfl
  rw [st, ap_sRet, ap_listRg, r]
  simp only [bind_ok, rngL_len]
  rw [if_pos (by omega)]
  simp only [st_ok]
theorem e_plain (x : Int × Int) (S : Sto) : f_plain [F x] S = .ok (PL x) S := by
  simp [f_plain, mkFn, m_plain, DL.start, PL]; rfl
theorem e_law_turn_of {h : Int × Int} (h2 : h.2 ≠ 0) (hs : (h.1 * h.1 + h.2 * h.2).natAbs < 2 ^ 2200) (a : Sz 2200 h) (S : Sto) : f_law_turn_of [F h] S = .ok (F2 (arcF h).1 (arcF h).2) S := by
  have np := nsq_pos (a := h.1) h2
  have nz : h.1 * h.1 + h.2 * h.2 ≠ 0 := by omega
  have m1 := mul_ok a.a a.a
  have m2 := mul_ok a.b a.b
  have m3 : mulOk 2 h.1 = true := mul_ok (n := 2) (by decide) a.a
  have m4 : mulOk (2 * h.1) h.2 = true := mul_ok (mul_lt (n := 2) (i := 2) (by decide) a.a) a.b
  have r1 := fun S => e_law_rate (t := h.2 * h.2 - h.1 * h.1) nz (Nat.lt_of_lt_of_le hs (Nat.pow_le_pow_right (by decide) (by omega))) S
  have r2 := fun S => e_law_rate (t := 2 * h.1 * h.2) nz (Nat.lt_of_lt_of_le hs (Nat.pow_le_pow_right (by decide) (by omega))) S
  have fx : F h = .tup [.int h.1, .int h.2] := rfl
  simp [f_law_turn_of, mkFn, m_law_turn_of, DL.start, fx, d_mul m1, d_mul m2, d_mul m3, d_mul m4, r1, r2]
  rfl
theorem all_cells (ns : List Int) (right : ∀ (S : Sto) (n : Nat), PotAt S n 0 → ∃ S', f_law_right [.loc n] S = .ok (.bl true) S' ∧ Flat S') :
    ∀ (ds : List D), (∀ d ∈ ds, ∃ p : Nat, p < 3 ∧ d = .int p) → ∀ S : Sto, Flat S → ∃ bs S', compL [1] (gSet 1) tYes (eCall f_law_right (aCons (eCall f_law_pot (aCons (eVar 0) (aCons (eVar 1) (aNil)))) (aNil))) [some (.lst (ns.map D.int)), none] ds S = .ok bs S' ∧ ∃ cs, bools bs = some cs ∧ cs.all id = true
  | [], _, S, _ => ⟨[], S, rfl, [], rfl, rfl⟩
  | d :: ds, h, S, hF => by
    obtain ⟨p, hp, rfl⟩ := h d (by simp)
    obtain ⟨a, b, e1, h1, h2, h3⟩ := e_pot ns p hp S
    have P : PotAt (S ++ [[.int a, .int b, .int 0]]) S.length 0 := ⟨⟨a, b, 0, by simp, h1, h2, h3, by decide, by decide⟩, hF.app rfl⟩
    obtain ⟨S1, e2, hF1⟩ := right _ _ P
    obtain ⟨bs, S2, e3, cs, e4, e5⟩ := all_cells ns right ds (fun d hd => h d (List.mem_cons_of_mem _ hd)) S1 hF1
    refine ⟨.bl true :: bs, S2, ?_, true :: cs, ?_, ?_⟩
    · unfold compL
      simp [wipeE, e1, e2, e3]
    · simp [bools, e4]
    · simpa using e5
theorem law_true_of (right : ∀ (S : Sto) (n : Nat), PotAt S n 0 → ∃ S', f_law_right [.loc n] S = .ok (.bl true) S' ∧ Flat S') : ∀ ns : List Int, ns.length ≤ 63 → (∀ z ∈ ns, Builtin.Int.intBits z ≤ 1048576) → ∃ S, f_law [.lst (ns.map D.int)] [] = .ok (.bl true) S := by
  intro ns hl _
  obtain ⟨c, hc, e1⟩ := e_cells ns hl 3 (by decide) (by decide) []
  obtain ⟨bs, S', e2, cs, e3, e4⟩ := all_cells ns right (rngL 0 c) (fun d hd => by
    obtain ⟨i, rfl, h1, h2⟩ := rngL_mem c 0 d hd
    exact ⟨i.toNat, by omega, by rw [show ((i.toNat : Nat) : Int) = i by omega]⟩) [] (fun l hl => by simp at hl)
  refine ⟨S', ?_⟩
  have st : DL.start 2 [D.lst (ns.map D.int)] = [some (.lst (ns.map D.int)), none] := rfl
  have lc : c ≤ 16777216 := by omega
  unfold f_law mkFn m_law
  rw [if_pos (show [D.lst (ns.map D.int)].length = 1 from rfl), st]
  simp [e1, e2, fAll, e3, e4, lc]
end K20


set_option linter.all false
set_option autoImplicit false
set_option Elab.async false
set_option maxRecDepth 100000
set_option maxHeartbeats 4000000
/-! what the common defs of K20 do, printed by tmpl.py -/
namespace K20
open PySem DL
theorem e_plusQ {n m : Nat} {a b : Rat} (h : SQ n a) (k : SQ m b) (S : Sto) (hn : n ≤ 4400 := by omega) (hm : m ≤ 4400 := by omega) : f_plus [FQ a, FQ b] S = .ok (FQ (a + b)) S := by
  unfold FQ
  rw [e_plus (h.mono hn) (k.mono hm) S (prod_ne a b), red_rat (prod_ne a b)]
  show R.ok (F (pr (((a.num * b.den + b.num * a.den : Int) : Rat) / ((a.den * b.den : Int) : Rat)))) S = _
  rw [add_rat]
theorem e_lessQ {n m : Nat} {a b : Rat} (h : SQ n a) (k : SQ m b) (S : Sto) (hn : n ≤ 4400 := by omega) (hm : m ≤ 4400 := by omega) : f_less [FQ a, FQ b] S = .ok (FQ (a - b)) S := by
  unfold FQ
  rw [e_less (h.mono hn) (k.mono hm) S (prod_ne a b), red_rat (prod_ne a b)]
  show R.ok (F (pr (((a.num * b.den - b.num * a.den : Int) : Rat) / ((a.den * b.den : Int) : Rat)))) S = _
  rw [sub_rat]
theorem e_timesQ {n m : Nat} {a b : Rat} (h : SQ n a) (k : SQ m b) (S : Sto) (hn : n ≤ 4400 := by omega) (hm : m ≤ 4400 := by omega) : f_times [FQ a, FQ b] S = .ok (FQ (a * b)) S := by
  unfold FQ
  rw [e_times (h.mono hn) (k.mono hm) S (prod_ne a b), red_rat (prod_ne a b)]
  show R.ok (F (pr (((a.num * b.num : Int) : Rat) / ((a.den * b.den : Int) : Rat)))) S = _
  rw [mul_rat]
theorem e_overQ {n m : Nat} {a b : Rat} (h : SQ n a) (k : SQ m b) (hb : b ≠ 0) (S : Sto) (hn : n ≤ 4400 := by omega) (hm : m ≤ 4400 := by omega) : f_over [FQ a, FQ b] S = .ok (FQ (a / b)) S := by
  have nz : (pr a).2 * (pr b).1 ≠ 0 := Int.mul_ne_zero (den_ne a) (num_ne hb)
  unfold FQ
  rw [e_over (h.mono hn) (k.mono hm) S nz, red_rat nz]
  show R.ok (F (pr (((a.num * b.den : Int) : Rat) / ((a.den * b.num : Int) : Rat)))) S = _
  rw [div_rat a b hb]
theorem e_turnedQ (a : Rat) (S : Sto) : f_turned_sign [FQ a] S = .ok (FQ (-a)) S := e_turned_sign _ S
theorem e_squaredQ {n : Nat} {a : Rat} (h : SQ n a) (S : Sto) (hn : n ≤ 4400 := by omega) : f_squared [FQ a] S = .ok (FQ (a * a)) S := by
  unfold FQ
  rw [e_squared (h.mono hn) S, ← sq_num]; rfl
theorem e_sign_ofQ (a : Rat) (S : Sto) : f_sign_of [FQ a] S = .ok (.int (sgQ a)) S := by
  have e := e_sign_of (pr a) S
  have : sgD (pr a).1 = sgQ a := by
    unfold sgD sgQ b2i
    show (if decide (0 < a.num) = true then (1 : Int) else 0) - (if decide (a.num < 0) = true then 1 else 0) = _
    by_cases c : 0 < a
    · have c1 := num_pos.mpr c
      have c2 : ¬ a.num < 0 := by omega
      rw [if_pos c, if_pos (decide_eq_true c1), if_neg (by simpa using c2)]; rfl
    · have c1 : ¬ 0 < a.num := fun z => c (num_pos.mp z)
      rw [if_neg c, if_neg (by simpa using c1)]
      by_cases d : a < 0
      · rw [if_pos d, if_pos (decide_eq_true (num_neg.mpr d))]; rfl
      · rw [if_neg d, if_neg (by simpa using fun z => d (num_neg.mp z))]; rfl
  rw [this] at e
  exact e
theorem e_law_plusQ {n m : Nat} {a b : Rat} (h : SQ n a) (k : SQ m b) (S : Sto) (hn : n ≤ 4400 := by omega) (hm : m ≤ 4400 := by omega) : f_law_plus [FQ a, FQ b] S = .ok (FQ (a + b)) S := by
  unfold FQ
  rw [e_law_plus (h.mono hn) (k.mono hm) S (prod_ne a b), red_rat (prod_ne a b)]
  show R.ok (F (pr (((a.num * b.den + b.num * a.den : Int) : Rat) / ((a.den * b.den : Int) : Rat)))) S = _
  rw [add_rat]
theorem e_law_lessQ {n m : Nat} {a b : Rat} (h : SQ n a) (k : SQ m b) (S : Sto) (hn : n ≤ 4400 := by omega) (hm : m ≤ 4400 := by omega) : f_law_less [FQ a, FQ b] S = .ok (FQ (a - b)) S := by
  unfold FQ
  rw [e_law_less (h.mono hn) (k.mono hm) S (prod_ne a b), red_rat (prod_ne a b)]
  show R.ok (F (pr (((a.num * b.den - b.num * a.den : Int) : Rat) / ((a.den * b.den : Int) : Rat)))) S = _
  rw [sub_rat]
theorem e_law_timesQ {n m : Nat} {a b : Rat} (h : SQ n a) (k : SQ m b) (S : Sto) (hn : n ≤ 4400 := by omega) (hm : m ≤ 4400 := by omega) : f_law_times [FQ a, FQ b] S = .ok (FQ (a * b)) S := by
  unfold FQ
  rw [e_law_times (h.mono hn) (k.mono hm) S (prod_ne a b), red_rat (prod_ne a b)]
  show R.ok (F (pr (((a.num * b.num : Int) : Rat) / ((a.den * b.den : Int) : Rat)))) S = _
  rw [mul_rat]
theorem e_law_is_belowQ {n m : Nat} {a b : Rat} (h : SQ n a) (k : SQ m b) (S : Sto) (hn : n ≤ 4400 := by omega) (hm : m ≤ 4400 := by omega) : f_law_is_below [FQ a, FQ b] S = .ok (.bl (decide (a < b))) S := by
  unfold FQ
  rw [e_law_is_below (h.mono hn) (k.mono hm) S]
  congr 2
  exact decide_eq_decide.mpr (lt_rat a b)
theorem e_law_rateQ {t b : Int} (hb : b ≠ 0) (hz : b.natAbs < 2 ^ 9000) (S : Sto) : f_law_rate [.int t, .int b] S = .ok (FQ ((t : Rat) / b)) S := by
  rw [e_law_rate hb hz S, red_rat hb]; rfl
theorem e_rateQ {t b : Int} (hb : b ≠ 0) (hz : b.natAbs < 2 ^ 9000) (S : Sto) : f_rate [.int t, .int b] S = .ok (FQ ((t : Rat) / b)) S := by
  rw [e_rate hb hz S, red_rat hb]; rfl
theorem e_is_fractionQ {a : Rat} (h : Pg a) (S : Sto) : f_is_fraction [FQ a] S = .ok (.bl true) S := e_is_fraction (pr_low a) h.1 (by show (a.den : Int) ≤ _; have := h.2; omega) S
theorem e_look_at_point {p : Rat × Rat} (h : Pg p.1) (k : Pg p.2) (S : Sto) : f_look_at_point [PQ p] S = .ok .non S := by
  have f1 := fun S => e_is_fractionQ h S
  have f2 := fun S => e_is_fractionQ k S
  have ip : ∀ S, f_is_point [PQ p] S = .ok (.bl true) S := fun S => by
    unfold PQ
    simp [f_is_point, mkFn, m_is_point, DL.start, isTupT, dEqI, compL, wipeE, f1, f2, fAll, bools]
  simp [f_look_at_point, mkFn, m_look_at_point, DL.start, ip, truD]
theorem e_beside {n m : Nat} {p q : Rat × Rat} (h1 : SQ n p.1) (h2 : SQ n p.2) (k1 : SQ m q.1) (k2 : SQ m q.2) (S : Sto) (hn : n ≤ 4400 := by omega) (hm : m ≤ 4400 := by omega) : f_beside [PQ p, PQ q] S = .ok (PQ (p.1 - q.1, p.2 - q.2)) S := by
  have a := fun S => e_lessQ h1 k1 S hn hm
  have b := fun S => e_lessQ h2 k2 S hn hm
  simp [f_beside, mkFn, m_beside, DL.start, ixP_0, ixP_1, a, b]; rfl
theorem root_start {a n : Nat} (ha : 2 ≤ a) (hn : a.log2 + 1 = n) : a < 2 ^ ((n + 1) / 2) * 2 ^ ((n + 1) / 2) := by
  have h : a < 2 ^ (a.log2 + 1) := Nat.lt_log2_self
  rw [hn] at h
  refine Nat.lt_of_lt_of_le h ?_
  rw [← Nat.pow_add]
  exact Nat.pow_le_pow_right (by decide) (by omega)
/-- Newton's step stays at or above the root -/
theorem newton_ge {a x r : Nat} (hx : 0 < x) (hr : r * r ≤ a) : r ≤ (x + a / x) / 2 := by
  have h1 : (x + a / x) / 2 = (x * x + a) / (2 * x) := by
    have : x * x + a = x * x + a := rfl
    have e : (x * x + a) / x = x + a / x := by rw [Nat.mul_add_div hx]
    rw [← e, Nat.div_div_eq_div_mul, Nat.mul_comm x 2]
  rw [h1, Nat.le_div_iff_mul_le (by omega)]
  have : 2 * (r * x) ≤ x * x + r * r := by
    rcases Nat.le_total r x with c | c
    · obtain ⟨d, rfl⟩ := Nat.exists_eq_add_of_le c
      have : (r + d) * (r + d) = r * r + 2 * (r * d) + d * d := by grind
      have : r * (r + d) = r * r + r * d := by grind
      have := Nat.zero_le (d * d)
      omega
    · obtain ⟨d, rfl⟩ := Nat.exists_eq_add_of_le c
      have : (x + d) * (x + d) = x * x + 2 * (x * d) + d * d := by grind
      have : (x + d) * x = x * x + x * d := by grind
      have := Nat.zero_le (d * d)
      omega
  have e : r * (2 * x) = 2 * (r * x) := by grind
  omega
theorem newton_stop {a x : Nat} (hx : 0 < x) (h : x ≤ (x + a / x) / 2) : x * x ≤ a := by
  have : x ≤ a / x := by omega
  have := (Nat.le_div_iff_mul_le hx).mp this
  exact this
theorem root_loop (a r : Nat) (hr : r * r ≤ a) (ha : 2 ≤ a) (hr2 : a < (r + 1) * (r + 1)) (hz : a < 2 ^ 4400) (S : Sto) : ∀ (x : Nat), 0 < x → r ≤ x → x < 2 ^ 8000 → ∀ o2 : Option D, ∃ ρ, sWhile (tTru (eC (.bl true))) q_whole_root_3B [some (.int (a : Int)), some (.int (x : Int)), o2] S = .rt (.int (r : Int)) S ∧ ρ = o2 := by
  intro x
  induction x using Nat.strongRecOn with
  | _ x ih =>
    intro hx hrx hxz o2
    refine ⟨o2, ?_, rfl⟩
    have xz : (x : Int).natAbs < 2 ^ 9000 := by rw [Int.natAbs_natCast]; exact Nat.lt_of_lt_of_le hxz (Nat.pow_le_pow_right (by decide) (by decide))
    have d1 : divOk (x : Int) = true := divOk_of (by omega) xz
    have d2 : divOk 2 = true := d40 (by decide) (by decide)
    have e1 : (a : Int).fdiv (x : Int) = ((a / x : Nat) : Int) := by
      rw [Int.fdiv_eq_ediv_of_nonneg _ (by omega)]; exact (Int.natCast_ediv a x).symm
    have e2 : ((x : Int) + ((a / x : Nat) : Int)).fdiv 2 = (((x + a / x) / 2 : Nat) : Int) := by
      rw [Int.fdiv_eq_ediv_of_nonneg _ (by decide)]; omega
    have g1 : q_whole_root_3_1 [some (.int (a : Int)), some (.int (x : Int)), o2] S = .nx [some (.int (a : Int)), some (.int (x : Int)), some (.int (((x + a / x) / 2 : Nat) : Int))] S := by
      unfold q_whole_root_3_1
      simp only [ap_sSet, ap_bin, ap_var, ap_C, List.getElem?_cons_succ, List.getElem?_cons_zero, bind_ok, d_div d1, e1, d_add, d_div d2, e2, st_ok, List.set_cons_succ, List.set_cons_zero]
    have tt : tTru (eC (.bl true)) [some (.int (a : Int)), some (.int (x : Int)), o2] S = .ok true S := by simp [truD]
    rw [sWhile_eq, tt]
    simp only [st_ok]
    unfold q_whole_root_3B
    rw [ap_sSeq, g1, then_nx, ap_sSeq]
    have ge := newton_ge (a := a) hx hr
    by_cases c : x ≤ (x + a / x) / 2
    · have sq := newton_stop hx c
      have : x = r := by
        by_cases q : x ≤ r
        · omega
        · have : (r + 1) * (r + 1) ≤ x * x := Nat.mul_le_mul (by omega) (by omega)
          omega
      have c' : (x : Int) ≤ (((x + a / x) / 2 : Nat) : Int) := by omega
      have g2 : q_whole_root_3_2 [some (.int (a : Int)), some (.int (x : Int)), some (.int (((x + a / x) / 2 : Nat) : Int))] S = .rt (.int (x : Int)) S := by
        unfold q_whole_root_3_2
        simp only [ap_sIf, ap_tOf, ap_bin, ap_var, List.getElem?_cons_succ, List.getElem?_cons_zero, bind_ok, d_ge, decide_eq_true c', st_ok, ap_sRet]
      rw [g2, then_rt, this]
    · have c' : ¬ (x : Int) ≤ (((x + a / x) / 2 : Nat) : Int) := by omega
      have g2 : q_whole_root_3_2 [some (.int (a : Int)), some (.int (x : Int)), some (.int (((x + a / x) / 2 : Nat) : Int))] S = .nx [some (.int (a : Int)), some (.int (x : Int)), some (.int (((x + a / x) / 2 : Nat) : Int))] S := by
        unfold q_whole_root_3_2
        simp only [ap_sIf, ap_tOf, ap_bin, ap_var, List.getElem?_cons_succ, List.getElem?_cons_zero, bind_ok, d_ge, decide_eq_false c', st_ok, ap_sNil]
      rw [g2, then_nx]
      simp only [ap_sSet, ap_var, List.getElem?_cons_succ, List.getElem?_cons_zero, st_ok, List.set_cons_succ, List.set_cons_zero]
      have r1 : 1 ≤ r := by
        by_cases q : 1 ≤ r
        · exact q
        · have : r = 0 := by omega
          subst this
          simp at hr2; omega
      obtain ⟨_, e, _⟩ := ih ((x + a / x) / 2) (by omega) (by omega) ge (by omega) (some (.int (((x + a / x) / 2 : Nat) : Int)))
      exact e
theorem whole_ex (a : Nat) : ∃ r, r * r ≤ a ∧ a < (r + 1) * (r + 1) := by
  induction a with
  | zero => exact ⟨0, by decide, by decide⟩
  | succ a ih =>
    obtain ⟨r, h1, h2⟩ := ih
    by_cases c : a + 1 < (r + 1) * (r + 1)
    · exact ⟨r, by omega, c⟩
    · exact ⟨r + 1, by omega, by have : (r + 1 + 1) * (r + 1 + 1) = (r + 1) * (r + 1) + 2 * r + 3 := by grind
                                 omega⟩
theorem e_whole_root {a r : Nat} (h1 : r * r ≤ a) (h2 : a < (r + 1) * (r + 1)) (hz : a < 2 ^ 4400) (S : Sto) : f_whole_root [.int (a : Int)] S = .ok (.int (r : Int)) S := by
  unfold f_whole_root mkFn
  rw [if_pos (show [D.int (a : Int)].length = 1 from rfl)]
  have st : DL.start 3 [D.int (a : Int)] = [some (.int (a : Int)), none, none] := rfl
  rw [st]
  unfold m_whole_root
  by_cases c : a < 2
  · have c' : (a : Int) < 2 := by omega
    have : r = a := by
      have : a = 0 ∨ a = 1 := by omega
      rcases this with rfl | rfl
      · by_cases q : r = 0
        · exact q
        · have : 1 * 1 ≤ r * r := Nat.mul_le_mul (by omega) (by omega)
          omega
      · have : r = 0 ∨ r = 1 ∨ 2 ≤ r := by omega
        rcases this with rfl | rfl | q
        · simp at h2
        · rfl
        · have : 2 * 2 ≤ r * r := Nat.mul_le_mul q q
          omega
    simp [q_whole_root_1, c', this]
  · have c' : ¬ (a : Int) < 2 := by omega
    obtain ⟨n, hn⟩ : ∃ n, a.log2 + 1 = n := ⟨_, rfl⟩
    have bits : Builtin.Int.intBits (a : Int) = n := by
      unfold Builtin.Int.intBits
      split
      · rename_i z
        first
          | omega
          | (simp at z; omega)
      · rw [Int.natAbs_natCast]; exact hn
    have nb : n ≤ 4400 := by
      have : a.log2 < 4400 := (Nat.log2_lt (by omega)).mpr hz
      omega
    have d2 : divOk 2 = true := d40 (by decide) (by decide)
    have ed : ((n : Int) + 1).fdiv 2 = (((n + 1) / 2 : Nat) : Int) := by
      rw [Int.fdiv_eq_ediv_of_nonneg _ (by decide)]; omega
    have e27 : (2 : Int) ^ 27 = 134217728 := by decide +kernel
    have b1 : Builtin.Int.intBits 1 = 1 := by decide +kernel
    have shl : ∀ S, dShl (.int 1) (.int (((n + 1) / 2 : Nat) : Int)) S = .ok (.int ((2 ^ ((n + 1) / 2) : Nat) : Int)) S := fun S => by
      unfold dShl
      simp only [b1]
      rw [if_pos (by rw [e27]; omega)]
      congr 2
      rw [Int.toNat_natCast, Int.one_mul]
      exact_mod_cast rfl
    have s0 := root_start (a := a) (by omega) hn
    have pz : 0 < 2 ^ ((n + 1) / 2) := Nat.two_pow_pos _
    have rx : r ≤ 2 ^ ((n + 1) / 2) := by
      by_cases q : r ≤ 2 ^ ((n + 1) / 2)
      · exact q
      · have : 2 ^ ((n + 1) / 2) * 2 ^ ((n + 1) / 2) ≤ r * r := Nat.mul_le_mul (by omega) (by omega)
        omega
    obtain ⟨_, e, _⟩ := root_loop a r h1 (by omega) h2 hz S (2 ^ ((n + 1) / 2)) pz rx (Nat.pow_lt_pow_right (by decide) (by omega)) none
    have g1 : q_whole_root_1 [some (.int (a : Int)), none, none] S = .nx [some (.int (a : Int)), none, none] S := by simp [q_whole_root_1, c']
    have g2 : q_whole_root_2 [some (.int (a : Int)), none, none] S = .nx [some (.int (a : Int)), some (.int ((2 ^ ((n + 1) / 2) : Nat) : Int)), none] S := by
      unfold q_whole_root_2
      simp only [ap_sSet, ap_bin, ap_un, ap_var, ap_C, List.getElem?_cons_zero, bind_ok, dBits, bits, d_add, d_div d2, ed, shl, st_ok, List.set_cons_succ, List.set_cons_zero]
    rw [ap_sSeq, g1, then_nx, ap_sSeq, g2, then_nx, e]
theorem law_root_loop (a r : Nat) (hr : r * r ≤ a) (hr2 : a < (r + 1) * (r + 1)) (hz : a < 2 ^ 4400) (S : Sto) : ∀ (k l h : Nat), h - l ≤ k → l ≤ r → r < h → h ≤ a + 1 → ∀ o3 : Option D, ∃ p2 p3, sWhile (tOf (eBin dGt (eBin dSub (eVar 2) (eVar 1)) (eC (.int 1)))) q_law_root_of_2B [some (.int (a : Int)), some (.int (l : Int)), some (.int (h : Int)), o3] S = .nx [some (.int (a : Int)), some (.int (r : Int)), p2, p3] S := by
  intro k
  induction k with
  | zero => intro l h hk hl hh; omega
  | succ k ih =>
    intro l h hk hl hh ha o3
    rw [sWhile_eq]
    by_cases c : h - l > 1
    · have tt : tOf (eBin dGt (eBin dSub (eVar 2) (eVar 1)) (eC (.int 1))) [some (.int (a : Int)), some (.int (l : Int)), some (.int (h : Int)), o3] S = .ok true S := by
        have c' : (1 : Int) < (h : Int) - (l : Int) := by omega
        simp [c']
      have d2 : divOk 2 = true := d40 (by decide) (by decide)
      have e2 : ((l : Int) + (h : Int)).fdiv 2 = (((l + h) / 2 : Nat) : Int) := by
        rw [Int.fdiv_eq_ediv_of_nonneg _ (by decide)]; omega
      have mz : (((l + h) / 2 : Nat) : Int).natAbs < 2 ^ 4401 := by
        rw [Int.natAbs_natCast]
        have : 2 ^ 4401 = 2 ^ 4400 * 2 := Nat.pow_succ 2 4400
        omega
      have mm := mul_ok mz mz
      have ms : (((l + h) / 2 : Nat) : Int) * (((l + h) / 2 : Nat) : Int) = ((((l + h) / 2) * ((l + h) / 2) : Nat) : Int) := by exact_mod_cast rfl
      rw [tt]
      simp only [st_ok]
      have g1 : q_law_root_of_2_1 [some (.int (a : Int)), some (.int (l : Int)), some (.int (h : Int)), o3] S = .nx [some (.int (a : Int)), some (.int (l : Int)), some (.int (h : Int)), some (.int (((l + h) / 2 : Nat) : Int))] S := by
        unfold q_law_root_of_2_1
        simp only [ap_sSet, ap_bin, ap_var, ap_C, List.getElem?_cons_succ, List.getElem?_cons_zero, bind_ok, d_add, d_div d2, e2, st_ok, List.set_cons_succ, List.set_cons_zero]
      unfold q_law_root_of_2B
      rw [ap_sSeq, g1, then_nx]
      by_cases q : (l + h) / 2 * ((l + h) / 2) ≤ a
      · obtain ⟨p2, p3, e⟩ := ih ((l + h) / 2) h (by omega) (by
          by_cases z : (l + h) / 2 ≤ r
          · exact z
          · have : (r + 1) * (r + 1) ≤ (l + h) / 2 * ((l + h) / 2) := Nat.mul_le_mul (by omega) (by omega)
            omega) hh ha (some (.int (((l + h) / 2 : Nat) : Int)))
        refine ⟨p2, p3, ?_⟩
        have q' : ((((l + h) / 2) * ((l + h) / 2) : Nat) : Int) ≤ (a : Int) := by exact_mod_cast q
        have g2 : q_law_root_of_2_2 [some (.int (a : Int)), some (.int (l : Int)), some (.int (h : Int)), some (.int (((l + h) / 2 : Nat) : Int))] S = .nx [some (.int (a : Int)), some (.int (((l + h) / 2 : Nat) : Int)), some (.int (h : Int)), some (.int (((l + h) / 2 : Nat) : Int))] S := by
          unfold q_law_root_of_2_2
          simp only [ap_sAsg, ap_if, ap_tOf, ap_bin, ap_var, ap_tup, ap_cons, ap_nil, List.getElem?_cons_succ, List.getElem?_cons_zero, bind_ok, d_mul mm, ms, d_le, decide_eq_true q', st_ok, List.length_cons, List.length_nil]
          rfl
        rw [g2]; exact e
      · obtain ⟨p2, p3, e⟩ := ih l ((l + h) / 2) (by omega) hl (by
          by_cases z : r < (l + h) / 2
          · exact z
          · have : (l + h) / 2 * ((l + h) / 2) ≤ r * r := Nat.mul_le_mul (by omega) (by omega)
            omega) (by omega) (some (.int (((l + h) / 2 : Nat) : Int)))
        refine ⟨p2, p3, ?_⟩
        have q' : ¬ ((((l + h) / 2) * ((l + h) / 2) : Nat) : Int) ≤ (a : Int) := by
          intro z; exact q (by exact_mod_cast z)
        have g2 : q_law_root_of_2_2 [some (.int (a : Int)), some (.int (l : Int)), some (.int (h : Int)), some (.int (((l + h) / 2 : Nat) : Int))] S = .nx [some (.int (a : Int)), some (.int (l : Int)), some (.int (((l + h) / 2 : Nat) : Int)), some (.int (((l + h) / 2 : Nat) : Int))] S := by
          unfold q_law_root_of_2_2
          simp only [ap_sAsg, ap_if, ap_tOf, ap_bin, ap_var, ap_tup, ap_cons, ap_nil, List.getElem?_cons_succ, List.getElem?_cons_zero, bind_ok, d_mul mm, ms, d_le, decide_eq_false q', st_ok, List.length_cons, List.length_nil]
          rfl
        rw [g2]; exact e
    · have tt : tOf (eBin dGt (eBin dSub (eVar 2) (eVar 1)) (eC (.int 1))) [some (.int (a : Int)), some (.int (l : Int)), some (.int (h : Int)), o3] S = .ok false S := by
        have c' : ¬ (1 : Int) < (h : Int) - (l : Int) := by omega
        simp [c']
      rw [tt]
      have : l = r := by omega
      subst this
      exact ⟨some (.int (h : Int)), o3, rfl⟩
theorem e_law_root_of {a r : Nat} (h1 : r * r ≤ a) (h2 : a < (r + 1) * (r + 1)) (hz : a < 2 ^ 4400) (S : Sto) : f_law_root_of [.int (a : Int)] S = .ok (.int (r : Int)) S := by
  have ra : r < a + 1 := by
    have : r * 1 ≤ r * r := by
      by_cases q : r = 0
      · subst q; simp
      · exact Nat.mul_le_mul_left _ (by omega)
    omega
  obtain ⟨p2, p3, e⟩ := law_root_loop a r h1 h2 hz S (a + 1) 0 (a + 1) (by omega) (by omega) ra (by omega) none
  unfold f_law_root_of mkFn
  rw [if_pos (show [D.int (a : Int)].length = 1 from rfl)]
  have st : DL.start 4 [D.int (a : Int)] = [some (.int (a : Int)), none, none, none] := rfl
  have g1 : q_law_root_of_1 [some (.int (a : Int)), none, none, none] S = .nx [some (.int (a : Int)), some (.int ((0 : Nat) : Int)), some (.int ((a + 1 : Nat) : Int)), none] S := by
    simp [q_law_root_of_1]
  rw [st]
  unfold m_law_root_of q_law_root_of_2
  rw [ap_sSeq, g1, then_nx, ap_sSeq, e, then_nx]
  simp
end K20


set_option linter.all false
set_option autoImplicit false
set_option Elab.async false
set_option maxRecDepth 100000
set_option maxHeartbeats 4000000
/-! what the common defs of K20 do, printed by tmpl.py -/
namespace K20
open PySem DL
theorem tidy_div {p q r : Int} (hr : r ≠ 0) : ∃ g : Int, g ≠ 0 ∧ (((Int.gcd ((Int.gcd p q : Nat) : Int) r : Nat) : Int) * (if 0 < r then 1 else -1) = g) ∧ ∃ p' q' r' : Int, p = g * p' ∧ q = g * q' ∧ r = g * r' ∧ 0 < r' ∧ p'.natAbs ≤ p.natAbs ∧ q'.natAbs ≤ q.natAbs ∧ r'.natAbs ≤ r.natAbs ∧ g.natAbs ≤ r.natAbs := by
  obtain ⟨h, hh⟩ : ∃ h, Int.gcd ((Int.gcd p q : Nat) : Int) r = h := ⟨_, rfl⟩
  have hpos : 0 < h := by rw [← hh]; exact Int.gcd_pos_of_ne_zero_right _ hr
  have d1 : (h : Int) ∣ ((Int.gcd p q : Nat) : Int) := by rw [← hh]; exact Int.gcd_dvd_left _ _
  have d2 : (h : Int) ∣ r := by rw [← hh]; exact Int.gcd_dvd_right _ _
  have dp : (h : Int) ∣ p := Int.dvd_trans d1 (Int.gcd_dvd_left _ _)
  have dq : (h : Int) ∣ q := Int.dvd_trans d1 (Int.gcd_dvd_right _ _)
  rw [hh]
  have key : ∀ g : Int, g ≠ 0 → g.natAbs = h → (g ∣ p ∧ g ∣ q ∧ g ∣ r) → (∀ r', r = g * r' → 0 < r') → ∃ p' q' r' : Int, p = g * p' ∧ q = g * q' ∧ r = g * r' ∧ 0 < r' ∧ p'.natAbs ≤ p.natAbs ∧ q'.natAbs ≤ q.natAbs ∧ r'.natAbs ≤ r.natAbs ∧ g.natAbs ≤ r.natAbs := by
    intro g g0 ga hd hp
    obtain ⟨⟨p', hp'⟩, ⟨q', hq'⟩, ⟨r', hr'⟩⟩ := hd
    have le : ∀ {a b : Int}, a = g * b → b.natAbs ≤ a.natAbs := fun {a b} e => by
      rw [e, Int.natAbs_mul]; exact Nat.le_mul_of_pos_left _ (by omega)
    refine ⟨p', q', r', hp', hq', hr', hp r' hr', le hp', le hq', le hr', ?_⟩
    have : g.natAbs ∣ r.natAbs := Int.natAbs_dvd_natAbs.mpr ⟨r', hr'⟩
    exact Nat.le_of_dvd (by omega) this
  by_cases c : 0 < r
  · refine ⟨(h : Int), by omega, by rw [if_pos c]; omega, key _ (by omega) (by omega) ⟨dp, dq, d2⟩ fun r' e => ?_⟩
    by_cases z : 0 < r'
    · exact z
    · have := Int.mul_nonpos_of_nonneg_of_nonpos (show 0 ≤ (h : Int) by omega) (show r' ≤ 0 by omega); omega
  · refine ⟨-(h : Int), by omega, by rw [if_neg c]; omega, key _ (by omega) (by omega) ⟨Int.neg_dvd.mpr dp, Int.neg_dvd.mpr dq, Int.neg_dvd.mpr d2⟩ fun r' e => ?_⟩
    by_cases z : 0 < r'
    · exact z
    · have := Int.mul_nonneg_of_nonpos_of_nonpos (show -(h : Int) ≤ 0 by omega) (show r' ≤ 0 by omega); omega
theorem e_law_tidy {x : Lz} {np nq nr nd : Nat} (hr : x.r ≠ 0) (z : Zs x np nq nr nd) (hn : nr ≤ 9000) (S : Sto) : ∃ y : Lz, ∃ g : Int, g ≠ 0 ∧ x.p = g * y.p ∧ x.q = g * y.q ∧ x.r = g * y.r ∧ 0 < y.r ∧ y.d = x.d ∧ Zs y np nq nr nd ∧ f_law_tidy [LD x] S = .ok (LD y) S := by
  obtain ⟨g, g0, eg, p', q', r', e1, e2, e3, r0, l1, l2, l3, l4⟩ := tidy_div (p := x.p) (q := x.q) hr
  refine ⟨⟨p', q', r', x.d⟩, g, g0, e1, e2, e3, r0, rfl, ⟨Nat.lt_of_le_of_lt l1 z.p, Nat.lt_of_le_of_lt l2 z.q, Nat.lt_of_le_of_lt l3 z.r, z.d⟩, ?_⟩
  have gz : g.natAbs < 2 ^ 9000 := Nat.lt_of_le_of_lt l4 (up_lt z.r hn)
  have dd : divOk g = true := divOk_of g0 gz
  have f1 : x.p.fdiv g = p' := by rw [e1]; exact Int.mul_fdiv_cancel_left _ g0
  have f2 : x.q.fdiv g = q' := by rw [e2]; exact Int.mul_fdiv_cancel_left _ g0
  have f3 : x.r.fdiv g = r' := by rw [e3]; exact Int.mul_fdiv_cancel_left _ g0
  have hl : ((Int.gcd ((Int.gcd x.p x.q : Nat) : Int) x.r : Nat) : Int).natAbs < 2 ^ 400000 := by
    rw [Int.natAbs_natCast]
    exact Nat.lt_of_le_of_lt (red_gcd _ x.r hr) (Nat.lt_of_lt_of_le z.r (Nat.pow_le_pow_right (by decide) (by omega)))
  have m1 : mulOk ((Int.gcd ((Int.gcd x.p x.q : Nat) : Int) x.r : Nat) : Int) 1 = true := mulOk_of hl (Nat.one_lt_two_pow (by omega))
  have m2 : mulOk ((Int.gcd ((Int.gcd x.p x.q : Nat) : Int) x.r : Nat) : Int) (-1) = true := mulOk_of hl (Nat.one_lt_two_pow (by omega))
  by_cases c : 0 < x.r
  · rw [if_pos c, Int.mul_one] at eg
    rw [eg] at m1
    simp [f_law_tidy, mkFn, m_law_tidy, DL.start, ixLD0, ixLD1, ixLD2, ixLD3, e_law_gcd, c, eg, d_mul m1, d_div dd, f1, f2, f3]
    rfl
  · rw [if_neg c] at eg
    have hx : ((Int.gcd ((Int.gcd x.p x.q : Nat) : Int) x.r : Nat) : Int) = -g := by omega
    rw [hx] at m2
    have mm : ∀ S, dMul (.int (-g)) (.int (-1)) S = .ok (.int g) S := fun S => by rw [d_mul m2]; congr 2; omega
    simp [f_law_tidy, mkFn, m_law_tidy, DL.start, ixLD0, ixLD1, ixLD2, ixLD3, e_law_gcd, c, hx, mm, d_div dd, f1, f2, f3]
    rfl
theorem in_pair (a b c : Int) (S : Sto) : dIn (.int a) (.tup [.int b, .int c]) S = .ok (.bl (decide (b = a) || decide (c = a))) S := by
  have e : ∀ i j : Int, PyData.eqv (.int i) (.int j) = decide (i = j) := fun i j => by unfold PyData.eqv; rfl
  have s1 : SeqAt.shaped (.int a) = true := by simp [SeqAt.shaped, PyData.canLay0, PyData.depth]
  have s2 : SeqAt.shaped (.tuple [.int b, .int c]) = true := by simp [SeqAt.shaped, PyData.canLay0, PyData.canLayAll0, PyData.depth, PyData.depthAll]
  have p1 : (D.int a).pd = some (.int a) := by simp [D.pd]
  have p2 : (D.tup [.int b, .int c]).pd = some (.tuple [.int b, .int c]) := by simp [D.pd, D.pdL]
  unfold dIn inD
  rw [p1, p2]
  simp only [Option.bind_some, s1, s2, Bool.and_self, if_true, List.any_cons, List.any_nil, e, Bool.or_false]
theorem e_law_brought_as {x : Lz} {d : Int} (h : x.d = 0 ∨ x.d = d) (S : Sto) : f_law_brought [LD x, .int d] S = .ok (LD ⟨x.p, x.q, x.r, d⟩) S := by
  have i := fun S => in_pair x.d 0 d S
  have : (decide (0 = x.d) || decide (d = x.d)) = true := by
    rcases h with h | h
    · rw [decide_eq_true h.symm]; rfl
    · rw [decide_eq_true h.symm, Bool.or_true]
  rw [this] at i
  simp [f_law_brought, mkFn, m_law_brought, DL.start, ixLD0, ixLD1, ixLD2, ixLD3, i]
  rfl
theorem e_law_brought_by {x : Lz} {d : Int} {w : Nat} (h0 : x.d ≠ 0) (h1 : x.d ≠ d) (hw : ((w * w : Nat) : Int) = x.d * d) {np nq nr nd nw : Nat} (z : Zs x np nq nr nd) (dz : d.natAbs < 2 ^ nd) (hww : w < 2 ^ nw) (b1 : np ≤ 20000) (b2 : nq ≤ 20000) (b3 : nr ≤ 20000) (b4 : nd ≤ 2199) (b5 : nw ≤ 20000) (S : Sto) :
    f_law_brought [LD x, .int d] S = .ok (LD ⟨x.p * d, x.q * w, x.r * d, d⟩) S := by
  have i := fun S => in_pair x.d 0 d S
  have : (decide (0 = x.d) || decide (d = x.d)) = false := by
    rw [decide_eq_false (fun e => h0 e.symm), decide_eq_false (fun e => h1 e.symm)]; rfl
  rw [this] at i
  have m1 : mulOk x.d d = true := mul_ok z.d dz (by omega) (by omega)
  have m2 : mulOk x.p d = true := mul_ok z.p dz (by omega) (by omega)
  have m3 : mulOk x.q (w : Int) = true := mul_ok z.q (by rw [Int.natAbs_natCast]; exact hww) (by omega) (by omega)
  have m4 : mulOk x.r d = true := mul_ok z.r dz (by omega) (by omega)
  have wz : w * w < 2 ^ 4400 := by
    have e : w * w = (x.d * d).natAbs := by rw [← hw, Int.natAbs_natCast]
    rw [e]
    exact Nat.lt_of_lt_of_le (mul_lt z.d dz) (Nat.pow_le_pow_right (by decide) (by omega))
  have rt := fun S => e_law_root_of (a := w * w) (r := w) (Nat.le_refl _) (Nat.mul_lt_mul'' (by omega) (by omega)) wz S
  rw [hw] at rt
  simp [f_law_brought, mkFn, m_law_brought, DL.start, ixLD0, ixLD1, ixLD2, ixLD3, i, d_mul m1, rt, d_mul m2, d_mul m3, d_mul m4]
  rfl
/-- two numbers of one field over one root -/
theorem e_law_both {m : Nat} {x y : Lz} {U V U2 V2 : Rat} (hx : Val m x U V) (hy : Val m y U2 V2) {np nq nr np2 nq2 nr2 n : Nat} (z : Zs x np nq nr n) (z2 : Zs y np2 nq2 nr2 n) (hn : n ≤ 2199) (b1 : np2 ≤ 20000) (b2 : nq2 ≤ 20000) (b3 : nr2 ≤ 20000) (S : Sto) :
    ∃ x' y' : Lz, ∃ k : Rat, Two m x' y' U V U2 V2 k ∧ Zs x' np nq nr n ∧ Zs y' (np2 + n) (nq2 + n) (nr2 + n) n ∧ f_law_both [LD x, LD y] S = .ok (.tup [LD x', LD y']) S := by
  have z2' : Zs y (np2 + n) (nq2 + n) (nr2 + n) n := z2.up (by omega) (by omega) (by omega) (Nat.le_refl _)
  rcases hx.v with ⟨d0, q0, v0⟩ | ⟨d0, k, k0, dk, vk⟩
  · -- the first is a fraction
    have ne : ∀ S, dNe (.int x.d) (.int 0) S = .ok (.bl false) S := fun S => by rw [dNeI, decide_eq_true d0]; rfl
    have r1 := fun S => e_law_brought_as (x := x) (d := y.d) (.inl d0) S
    have r2 := fun S => e_law_brought_as (x := y) (d := y.d) (.inr rfl) S
    have run : f_law_both [LD x, LD y] S = .ok (.tup [LD ⟨x.p, x.q, x.r, y.d⟩, LD ⟨y.p, y.q, y.r, y.d⟩]) S := by
      simp [f_law_both, mkFn, m_law_both, DL.start, ixLD3, ne, r1, r2]
    rcases hy.v with ⟨e0, p0, w0⟩ | ⟨e0, l, l0, el, vl⟩
    · refine ⟨⟨x.p, x.q, x.r, y.d⟩, ⟨y.p, y.q, y.r, y.d⟩, 1, ⟨by decide, rfl, hx.r0, hy.r0, hx.u, ?_, hy.u, ?_, .inl ⟨e0, q0, p0⟩⟩, ⟨z.p, z.q, z.r, z2.d⟩, ⟨z2'.p, z2'.q, z2'.r, z2.d⟩, run⟩
      · rw [v0]; show (0 : Rat) = (x.q : Rat) * 1 / x.r; rw [q0]; grind
      · rw [w0]; show (0 : Rat) = (y.q : Rat) * 1 / y.r; rw [p0]; grind
    · refine ⟨⟨x.p, x.q, x.r, y.d⟩, ⟨y.p, y.q, y.r, y.d⟩, l, ⟨l0, rfl, hx.r0, hy.r0, hx.u, ?_, hy.u, vl, .inr ⟨e0, el⟩⟩, ⟨z.p, z.q, z.r, z2.d⟩, ⟨z2'.p, z2'.q, z2'.r, z2.d⟩, run⟩
      rw [v0]; show (0 : Rat) = (x.q : Rat) * l / x.r; rw [q0]; grind
  · have ne : ∀ S, dNe (.int x.d) (.int 0) S = .ok (.bl true) S := fun S => by rw [dNeI, decide_eq_false (by omega)]; rfl
    have r1 := fun S => e_law_brought_as (x := x) (d := x.d) (.inr rfl) S
    by_cases c : y.d = 0 ∨ y.d = x.d
    · have r2 := fun S => e_law_brought_as (x := y) (d := x.d) c S
      have run : f_law_both [LD x, LD y] S = .ok (.tup [LD ⟨x.p, x.q, x.r, x.d⟩, LD ⟨y.p, y.q, y.r, x.d⟩]) S := by
        simp [f_law_both, mkFn, m_law_both, DL.start, ixLD3, ne, r1, r2]
      refine ⟨⟨x.p, x.q, x.r, x.d⟩, ⟨y.p, y.q, y.r, x.d⟩, k, ⟨k0, rfl, hx.r0, hy.r0, hx.u, vk, hy.u, ?_, .inr ⟨d0, dk⟩⟩, z, ⟨z2'.p, z2'.q, z2'.r, z.d⟩, run⟩
      rcases hy.v with ⟨e0, p0, w0⟩ | ⟨e0, l, l0, el, vl⟩
      · rw [w0]; show (0 : Rat) = (y.q : Rat) * k / y.r; rw [p0]; grind
      · have e : y.d = x.d := by omega
        have kl : k = l := by
          have s : k * k * (m : Rat) = l * l * (m : Rat) := by rw [← dk, ← el, e]
          have mn : (m : Rat) ≠ 0 := fun q => by
            rw [q] at dk
            have : (x.d : Rat) = 0 := by rw [dk]; grind
            have := castI_ne (b := x.d) (by omega)
            contradiction
          have s2 : (k - l) * (k + l) = 0 := by
            have : (k - l) * (k + l) * (m : Rat) = 0 := by grind
            rcases Rat.mul_eq_zero.mp this with w | w
            · exact w
            · contradiction
          rcases Rat.mul_eq_zero.mp s2 with w | w
          · grind
          · exfalso
            have : 0 < k + l := by grind
            rw [w] at this; exact Rat.lt_irrefl this
        show V2 = (y.q : Rat) * k / y.r
        rw [kl]; exact vl
    · have y0 : y.d ≠ 0 := fun q => c (.inl q)
      have yx : y.d ≠ x.d := fun q => c (.inr q)
      rcases hy.v with ⟨e0, _⟩ | ⟨e0, l, l0, el, vl⟩
      · exact absurd e0 y0
      · obtain ⟨w, w1, w2⟩ := root_exact e0 d0 l0 k0 el dk
        have wn : w < 2 ^ n := by
          by_cases q : w < 2 ^ n
          · exact q
          · have h1 : 2 ^ n * 2 ^ n ≤ w * w := Nat.mul_le_mul (by omega) (by omega)
            have h2 : w * w = (y.d * x.d).natAbs := by rw [← w2, Int.natAbs_natCast]
            have h3 : (y.d * x.d).natAbs < 2 ^ (n + n) := mul_lt z2.d z.d
            rw [Nat.pow_add] at h3
            omega
        have r2 := fun S => e_law_brought_by y0 yx w2 z2 z.d wn b1 b2 b3 hn (by omega) S
        have run : f_law_both [LD x, LD y] S = .ok (.tup [LD ⟨x.p, x.q, x.r, x.d⟩, LD ⟨y.p * x.d, y.q * w, y.r * x.d, x.d⟩]) S := by
          simp [f_law_both, mkFn, m_law_both, DL.start, ixLD3, ne, r1, r2]
        have dn := castI_ne (b := x.d) (by omega)
        have rn := castI_ne hy.r0
        refine ⟨⟨x.p, x.q, x.r, x.d⟩, ⟨y.p * x.d, y.q * w, y.r * x.d, x.d⟩, k, ⟨k0, rfl, hx.r0, Int.mul_ne_zero hy.r0 (by omega), hx.u, vk, ?_, ?_, .inr ⟨d0, dk⟩⟩, z, ⟨mul_lt z2.p z.d, mul_lt z2.q (by rw [Int.natAbs_natCast]; exact wn), mul_lt z2.r z.d, z.d⟩, run⟩
        · show U2 = ((y.p * x.d : Int) : Rat) / ((y.r * x.d : Int) : Rat)
          rw [Rat.intCast_mul, Rat.intCast_mul, scale_div dn]; exact hy.u
        · show V2 = ((y.q * w : Int) : Rat) * k / ((y.r * x.d : Int) : Rat)
          have wc : (((w : Nat) : Int) : Rat) = (w : Rat) := rfl
          rw [Rat.intCast_mul, Rat.intCast_mul, wc, w1, vl, dk]
          have kn := ratpos_ne k0
          have mn : (m : Rat) ≠ 0 := fun q => by rw [q] at dk; rw [dk] at dn; exact dn (by grind)
          generalize (y.q : Rat) = a at *; generalize (y.r : Rat) = b at *; generalize (m : Rat) = mm at *
          clear w2 r2 run z z2 z2' el
          grind
theorem lsum_lt {a b c e : Int} {na nb nc ne : Nat} (ha : a.natAbs < 2 ^ na) (hb : b.natAbs < 2 ^ nb) (hc : c.natAbs < 2 ^ nc) (he : e.natAbs < 2 ^ ne) : (a * b + c * e).natAbs < 2 ^ (na + nb + nc + ne + 1) := by
  have h1 := up_lt (mul_lt ha hb) (show na + nb ≤ na + nb + nc + ne by omega)
  have h2 := up_lt (mul_lt hc he) (show nc + ne ≤ na + nb + nc + ne by omega)
  exact add_lt h1 h2 (Nat.le_refl _)
theorem e_law_sum {m : Nat} {x y : Lz} {U V U2 V2 : Rat} (hx : Val m x U V) (hy : Val m y U2 V2) {np nq nr np2 nq2 nr2 n : Nat} (z : Zs x np nq nr n) (z2 : Zs y np2 nq2 nr2 n) (hn : n ≤ 2199) (b1 : np ≤ 20000) (b2 : nq ≤ 20000) (b4 : np2 ≤ 20000) (b5 : nq2 ≤ 20000) (b6 : nr + nr2 + n ≤ 9000) (S : Sto) :
    ∃ w : Lz, Val m w (U + U2) (V + V2) ∧ Zs w (np + nr + np2 + nr2 + 2 * n + 1) (nq + nr + nq2 + nr2 + 2 * n + 1) (nr + nr2 + n) n ∧ f_law_sum [LD x, LD y] S = .ok (LD w) S := by
  obtain ⟨x', y', k, T, z', z2', run⟩ := e_law_both hx hy z z2 hn b4 b5 (by omega) S
  have m1 := mul_ok z'.p z2'.r (by omega) (by omega)
  have m2 := mul_ok z2'.p z'.r (by omega) (by omega)
  have m3 := mul_ok z'.q z2'.r (by omega) (by omega)
  have m4 := mul_ok z2'.q z'.r (by omega) (by omega)
  have m5 := mul_ok z'.r z2'.r (by omega) (by omega)
  have sz : Zs ⟨x'.p * y'.r + y'.p * x'.r, x'.q * y'.r + y'.q * x'.r, x'.r * y'.r, x'.d⟩ (np + nr + np2 + nr2 + 2 * n + 1) (nq + nr + nq2 + nr2 + 2 * n + 1) (nr + nr2 + n) n :=
    ⟨up_lt (lsum_lt z'.p z2'.r z2'.p z'.r) (by omega), up_lt (lsum_lt z'.q z2'.r z2'.q z'.r) (by omega), up_lt (mul_lt z'.r z2'.r) (by omega), z'.d⟩
  obtain ⟨w, g, g0, e1, e2, e3, r0, ed, zw, tidy⟩ := e_law_tidy (x := ⟨x'.p * y'.r + y'.p * x'.r, x'.q * y'.r + y'.q * x'.r, x'.r * y'.r, x'.d⟩) (Int.mul_ne_zero T.x0 T.y0) sz b6 S
  refine ⟨w, T.sum g0 (by omega) e1 e2 e3 ed, zw, ?_⟩
  have tidy' : f_law_tidy [.tup [.int (x'.p * y'.r + y'.p * x'.r), .int (x'.q * y'.r + y'.q * x'.r), .int (x'.r * y'.r), .int x'.d]] S = .ok (LD w) S := tidy
  simp [f_law_sum, mkFn, m_law_sum, DL.start, run, ixLD0, ixLD1, ixLD2, ixLD3, d_mul m1, d_mul m2, d_mul m3, d_mul m4, d_mul m5, tidy']
theorem e_law_product {m : Nat} {x y : Lz} {U V U2 V2 : Rat} (hx : Val m x U V) (hy : Val m y U2 V2) {np nq nr np2 nq2 nr2 n : Nat} (z : Zs x np nq nr n) (z2 : Zs y np2 nq2 nr2 n) (hn : n ≤ 2199) (b1 : np ≤ 20000) (b2 : nq ≤ 20000) (b4 : np2 ≤ 20000) (b5 : nq2 ≤ 20000) (b6 : nr + nr2 + n ≤ 9000) (S : Sto) :
    ∃ w : Lz, Val m w (U * U2 + V * V2 * (m : Rat)) (U * V2 + V * U2) ∧ Zs w (np + np2 + nq + nq2 + 3 * n + 1) (np + nq + np2 + nq2 + 2 * n + 1) (nr + nr2 + n) n ∧ f_law_product [LD x, LD y] S = .ok (LD w) S := by
  obtain ⟨x', y', k, T, z', z2', run⟩ := e_law_both hx hy z z2 hn b4 b5 (by omega) S
  have qq := mul_lt z'.q z2'.q
  have m1 := mul_ok z'.p z2'.p (by omega) (by omega)
  have m2 := mul_ok z'.q z2'.q (by omega) (by omega)
  have m3 : mulOk (x'.q * y'.q) x'.d = true := mul_ok qq z'.d (by omega) (by omega)
  have m4 := mul_ok z'.p z2'.q (by omega) (by omega)
  have m5 := mul_ok z'.q z2'.p (by omega) (by omega)
  have m6 := mul_ok z'.r z2'.r (by omega) (by omega)
  have sz : Zs ⟨x'.p * y'.p + x'.q * y'.q * x'.d, x'.p * y'.q + x'.q * y'.p, x'.r * y'.r, x'.d⟩ (np + np2 + nq + nq2 + 3 * n + 1) (np + nq + np2 + nq2 + 2 * n + 1) (nr + nr2 + n) n :=
    ⟨up_lt (lsum_lt z'.p z2'.p qq z'.d) (by omega), up_lt (lsum_lt z'.p z2'.q z'.q z2'.p) (by omega), up_lt (mul_lt z'.r z2'.r) (by omega), z'.d⟩
  obtain ⟨w, g, g0, e1, e2, e3, r0, ed, zw, tidy⟩ := e_law_tidy (x := ⟨x'.p * y'.p + x'.q * y'.q * x'.d, x'.p * y'.q + x'.q * y'.p, x'.r * y'.r, x'.d⟩) (Int.mul_ne_zero T.x0 T.y0) sz b6 S
  refine ⟨w, T.product g0 (by omega) e1 e2 e3 ed, zw, ?_⟩
  have tidy' : f_law_tidy [.tup [.int (x'.p * y'.p + x'.q * y'.q * x'.d), .int (x'.p * y'.q + x'.q * y'.p), .int (x'.r * y'.r), .int x'.d]] S = .ok (LD w) S := tidy
  simp [f_law_product, mkFn, m_law_product, DL.start, run, ixLD0, ixLD1, ixLD2, ixLD3, d_mul m1, d_mul m2, d_mul m3, d_mul m4, d_mul m5, d_mul m6, tidy']
theorem e_made (u v : Rat) (m : Nat) (d : Int) (h : v ≠ 0 → d = m) (S : Sto) : f_made [FQ u, FQ v, .int d] S = .ok (EN u v m) S := by
  by_cases c : v = 0
  · have n : v.num = 0 := Rat.num_eq_zero.mpr c
    have z : k_ZERO = FQ 0 := rfl
    subst c
    rw [EN_plain]
    simp [f_made, mkFn, m_made, DL.start, ixQ0, dNeI, z]
    rfl
  · have n : ¬ v.num = 0 := num_ne c
    have hd := h c
    subst hd
    have e : EN u v m = EL u v (m : Int) := by unfold EN; rw [if_neg c]
    rw [e]
    simp [f_made, mkFn, m_made, DL.start, ixQ0, dNeI, n]
    rfl
theorem e_scaled {n k : Nat} {u v w : Rat} {m : Nat} (hu : SQ n u) (hv : SQ n v) (hw : SQ k w) (hn : n ≤ 4400) (hk : k ≤ 4400) (S : Sto) : f_scaled [EN u v m, FQ w] S = .ok (EN (u * w) (v * w) m) S := by
  have t1 := fun S => e_timesQ hu hw S hn hk
  have t2 := fun S => e_timesQ hv hw S hn hk
  have md := fun S => e_made (u * w) (v * w) m (if v = 0 then 0 else (m : Int)) (fun h => by rw [if_neg]; intro z; rw [z] at h; exact h (by grind)) S
  have i0 : ∀ S, dIx (EN u v m) (.int 0) S = .ok (FQ u) S := fun S => ixEL0 _ _ _ S
  have i1 : ∀ S, dIx (EN u v m) (.int 1) S = .ok (FQ v) S := fun S => ixEL1 _ _ _ S
  have i2 : ∀ S, dIx (EN u v m) (.int 2) S = .ok (.int (if v = 0 then 0 else (m : Int))) S := fun S => ixEL2 _ _ _ S
  simp only [f_scaled, mkFn, m_scaled, DL.start, List.length_cons, List.length_nil, List.map_cons, List.map_nil, ap_sRet, ap_call, ap_cons, ap_bin, ap_var, ap_C, ap_nil, bind_ok, i0, i1, i2, t1, t2, md, st_ok, List.getElem?_cons_zero, List.getElem?_cons_succ, List.append_nil, List.cons_append, List.nil_append, if_true]
theorem e_plainQ (x : Rat) (S : Sto) : f_plain [FQ x] S = .ok (EL x 0 0) S := e_plain _ S
theorem e_vector (p : Rat × Rat) (S : Sto) : f_vector [PQ p] S = .ok (.tup [EL p.1 0 0, EL p.2 0 0]) S := by
  simp [f_vector, mkFn, m_vector, DL.start, ixP_0, ixP_1, e_plainQ]
theorem e_field_of (x u v : Rat) (m : Nat) (S : Sto) : f_field_of [EL x 0 0, EN u v m] S = .ok (.int (if v = 0 then 0 else (m : Int))) S := by
  have i1 : ∀ S, dIx (EL x 0 0) (.int 2) S = .ok (.int 0) S := fun S => ixEL2 _ _ _ S
  have i2 : ∀ S, dIx (EN u v m) (.int 2) S = .ok (.int (if v = 0 then 0 else (m : Int))) S := fun S => ixEL2 _ _ _ S
  have ne : ∀ S, dNe (.int 0) (.int 0) S = .ok (.bl false) S := fun S => by rw [dNeI]; rfl
  simp only [f_field_of, mkFn, m_field_of, DL.start, List.length_cons, List.length_nil, List.map_cons, List.map_nil, ap_sRet, ap_if, ap_tOf, ap_bin, ap_var, ap_C, bind_ok, i1, i2, ne, st_ok, List.getElem?_cons_zero, List.getElem?_cons_succ, List.append_nil, List.cons_append, List.nil_append, if_true]
theorem SQ0 {n : Nat} (h : 0 < n) : SQ n 0 := ⟨by show (0 : Int).natAbs < _; exact Nat.two_pow_pos n, by show (1 : Int).natAbs < _; exact Nat.one_lt_two_pow (by omega)⟩
theorem e_added {n k : Nat} {x u v : Rat} {m : Nat} (hx : SQ k x) (hu : SQ n u) (hv : SQ n v) (hn : n ≤ 4400) (hk : k ≤ 4400) (hk0 : 0 < k) (S : Sto) : f_added [EL x 0 0, EN u v m] S = .ok (EN (x + u) v m) S := by
  have t1 := fun S => e_plusQ hx hu S hk hn
  have t2 := fun S => e_plusQ (SQ0 hk0) hv S hk hn
  rw [Rat.zero_add] at t2
  have fo := fun S => e_field_of x u v m S
  have md := fun S => e_made (x + u) v m (if v = 0 then 0 else (m : Int)) (fun h => by rw [if_neg h]) S
  have i0 : ∀ S, dIx (EN u v m) (.int 0) S = .ok (FQ u) S := fun S => ixEL0 _ _ _ S
  have i1 : ∀ S, dIx (EN u v m) (.int 1) S = .ok (FQ v) S := fun S => ixEL1 _ _ _ S
  have j0 : ∀ S, dIx (EL x 0 0) (.int 0) S = .ok (FQ x) S := fun S => ixEL0 _ _ _ S
  have j1 : ∀ S, dIx (EL x 0 0) (.int 1) S = .ok (FQ 0) S := fun S => ixEL1 _ _ _ S
  simp only [f_added, mkFn, m_added, DL.start, List.length_cons, List.length_nil, List.map_cons, List.map_nil, ap_sRet, ap_call, ap_cons, ap_bin, ap_var, ap_C, ap_nil, bind_ok, i0, i1, j0, j1, t1, t2, fo, md, st_ok, List.getElem?_cons_zero, List.getElem?_cons_succ, List.append_nil, List.cons_append, List.nil_append, if_true]
theorem e_lessened {n k : Nat} {x u v : Rat} {m : Nat} (hx : SQ k x) (hu : SQ n u) (hv : SQ n v) (hn : n ≤ 4400) (hk : k ≤ 4400) (hk0 : 0 < k) (S : Sto) : f_lessened [EL x 0 0, EN u v m] S = .ok (EN (x - u) (-v) m) S := by
  have t1 := fun S => e_lessQ hx hu S hk hn
  have t2 := fun S => e_lessQ (SQ0 hk0) hv S hk hn
  have z : (0 : Rat) - v = -v := by grind
  rw [z] at t2
  have fo := fun S => e_field_of x u v m S
  have md := fun S => e_made (x - u) (-v) m (if v = 0 then 0 else (m : Int)) (fun h => by rw [if_neg]; intro q; rw [q] at h; exact h (by grind)) S
  have i0 : ∀ S, dIx (EN u v m) (.int 0) S = .ok (FQ u) S := fun S => ixEL0 _ _ _ S
  have i1 : ∀ S, dIx (EN u v m) (.int 1) S = .ok (FQ v) S := fun S => ixEL1 _ _ _ S
  have j0 : ∀ S, dIx (EL x 0 0) (.int 0) S = .ok (FQ x) S := fun S => ixEL0 _ _ _ S
  have j1 : ∀ S, dIx (EL x 0 0) (.int 1) S = .ok (FQ 0) S := fun S => ixEL1 _ _ _ S
  simp only [f_lessened, mkFn, m_lessened, DL.start, List.length_cons, List.length_nil, List.map_cons, List.map_nil, ap_sRet, ap_call, ap_cons, ap_bin, ap_var, ap_C, ap_nil, bind_ok, i0, i1, j0, j1, t1, t2, fo, md, st_ok, List.getElem?_cons_zero, List.getElem?_cons_succ, List.append_nil, List.cons_append, List.nil_append, if_true]
theorem e_root_of {q : Rat} (hq : 0 < q) {n : Nat} (h : SQ n q) (hn : n ≤ 2200) (S : Sto) : ∃ (m : Nat) (s t : Rat), RootIs q m s t ∧ SQ n t ∧ m < 2 ^ (n + n) ∧ SQ (n + n) s ∧ f_root_of [FQ q] S = .ok (EN s t m) S := by
  have nq := num_pos.mpr hq
  have dp := den_pos q
  obtain ⟨m, hm⟩ : ∃ m : Nat, (m : Int) = q.num * q.den := ⟨(q.num * q.den).natAbs, by have := Int.mul_pos nq dp; omega⟩
  have ml : m < 2 ^ (n + n) := by
    have : m = (q.num * q.den).natAbs := by rw [← hm, Int.natAbs_natCast]
    rw [this]; exact mul_lt h.a h.b
  have m44 : m < 2 ^ 4400 := Nat.lt_of_lt_of_le ml (Nat.pow_le_pow_right (by decide) (by omega))
  obtain ⟨r, r1, r2⟩ := whole_ex m
  have wr := fun S => e_whole_root r1 r2 m44 S
  have mm : mulOk q.num q.den = true := mul_ok h.a h.b (by omega) (by omega)
  have rl : r < 2 ^ (n + n) := by
    by_cases c : r = 0
    · rw [c]; exact Nat.two_pow_pos _
    · have : r * 1 ≤ r * r := Nat.mul_le_mul_left _ (by omega)
      omega
  have rm : mulOk (r : Int) (r : Int) = true := mul_ok (n := n + n) (m := n + n) (by rw [Int.natAbs_natCast]; exact rl) (by rw [Int.natAbs_natCast]; exact rl) (by omega) (by omega)
  have i0 := fun S => ixQ0 q S
  have i1 := fun S => ixQ1 q S
  have qd : q * ((q.den : Int) : Rat) = (q.num : Rat) := mul_den q
  have dn := castI_ne (den_ne q)
  have mc : ((m : Nat) : Rat) = (q.num : Rat) * ((q.den : Int) : Rat) := by
    have : ((m : Int) : Rat) = ((q.num * q.den : Int) : Rat) := by rw [hm]
    rw [Rat.intCast_mul] at this
    exact this
  have hsq : (r : Int) * (r : Int) = ((r * r : Nat) : Int) := (Int.natCast_mul r r).symm
  by_cases c : r * r = m
  · have er : ∀ S, dEq (.int ((r : Int) * (r : Int))) (.int (m : Int)) S = .ok (.bl true) S := fun S => by rw [dEqI, decide_eq_true (by rw [hsq, c])]
    have rt := fun S => e_rateQ (t := (r : Int)) (b := (q.den : Int)) (den_ne q) (up_lt h.b (by omega)) S
    refine ⟨m, ((r : Int) : Rat) / ((q.den : Int) : Rat), 0, ⟨.inl ⟨rfl, ?_, ?_⟩⟩, ?_, ml, ?_, ?_⟩
    · have r0 : 0 < r := by
        by_cases z : 0 < r
        · exact z
        · have : r = 0 := by omega
          subst this
          have := Int.mul_pos nq dp
          omega
      have a1 : 0 < ((r : Int) : Rat) := Rat.intCast_pos.mpr (by omega)
      have a2 : 0 < ((q.den : Int) : Rat) := Rat.intCast_pos.mpr dp
      rw [Rat.div_def]
      exact Rat.mul_pos a1 (Rat.inv_pos.mpr a2)
    · have e : (((r : Int) : Rat)) * ((r : Int) : Rat) = (q.num : Rat) * ((q.den : Int) : Rat) := by
        rw [← mc, ← c]
        have : (((r * r : Nat)) : Rat) = (((r : Int) * (r : Int) : Int) : Rat) := by rw [hsq]; rfl
        rw [this, Rat.intCast_mul]
      generalize ((r : Int) : Rat) = x at *
      generalize ((q.den : Int) : Rat) = d at *
      generalize (q.num : Rat) = y at *
      clear wr er rt i0 i1
      grind
    · exact ⟨by show (0 : Int).natAbs < _; exact Nat.two_pow_pos n, by
        show (1 : Int).natAbs < _
        have : 0 < n := by
          by_cases z : 0 < n
          · exact z
          · have : n = 0 := by omega
            have := h.b
            have h2 : ((pr q).2).natAbs < 2 ^ n := this
            have h3 : (pr q).2 = (q.den : Int) := rfl
            rw [h3] at h2
            subst n
            simp at h2; omega
        exact Nat.one_lt_two_pow (by omega)⟩
    · exact sq_of (den_ne q) (by rw [Int.natAbs_natCast]; exact rl) (up_lt h.b (by omega))
    · have wr' := wr
      rw [hm] at wr' er
      rw [EN_plain]
      simp only [f_root_of, mkFn, m_root_of, DL.start, List.length_cons, List.length_nil, List.map_cons, List.map_nil, ap_sSeq, ap_sSet, ap_sIf, ap_sRet, ap_sNil, ap_tOf, ap_call, ap_cons, ap_bin, ap_var, ap_C, ap_nil, bind_ok, i0, i1, d_mul mm, d_mul rm, wr', er, rt, e_plainQ, st_ok, then_nx, then_rt, List.getElem?_cons_zero, List.getElem?_cons_succ, List.append_nil, List.cons_append, List.nil_append, if_true, List.set_cons_zero, List.set_cons_succ, List.replicate]
  · have er : ∀ S, dEq (.int ((r : Int) * (r : Int))) (.int (m : Int)) S = .ok (.bl false) S := fun S => by rw [dEqI, decide_eq_false (by rw [hsq]; intro z; exact c (by exact_mod_cast z))]
    have ns : NoSq m := fun k hk => by
      have : k = r := by
        rcases Nat.lt_trichotomy k r with z | z | z
        · have := Nat.mul_le_mul (show k + 1 ≤ r by omega) (show k + 1 ≤ r by omega)
          have e : (k + 1) * (k + 1) = k * k + 2 * k + 1 := by grind
          omega
        · exact z
        · have := Nat.mul_le_mul (show r + 1 ≤ k by omega) (show r + 1 ≤ k by omega)
          omega
      rw [this] at hk; exact c hk
    have a2 : 0 < ((q.den : Int) : Rat) := Rat.intCast_pos.mpr dp
    have one : ((1 : Int) : Rat) = 1 := rfl
    have t1 : F (1, (q.den : Int)) = FQ (((1 : Int) : Rat) / ((q.den : Int) : Rat)) := by
      have l : Low (1, (q.den : Int)) := ⟨dp, by show Int.gcd 1 (q.den : Int) = 1; exact Int.one_gcd⟩
      exact F_rat l
    have tne : ((1 : Int) : Rat) / ((q.den : Int) : Rat) ≠ 0 := by rw [one]; grind
    refine ⟨m, 0, ((1 : Int) : Rat) / ((q.den : Int) : Rat), ⟨.inr ⟨rfl, ?_, ?_, ns⟩⟩, ?_, ml, ?_, ?_⟩
    · rw [one, Rat.div_def, Rat.one_mul]
      exact Rat.inv_pos.mpr a2
    · rw [mc, one]
      generalize ((q.den : Int) : Rat) = d at *
      generalize (q.num : Rat) = y at *
      clear wr er i0 i1 t1 tne a2
      grind
    · have n0 : 0 < n := by
        by_cases z : 0 < n
        · exact z
        · have : n = 0 := by omega
          subst this
          have h2 : ((pr q).1).natAbs < 2 ^ 0 := h.a
          have h3 : (pr q).1 = q.num := rfl
          rw [h3] at h2
          simp at h2; omega
      exact sq_of (den_ne q) (by show (1 : Int).natAbs < _; exact Nat.one_lt_two_pow (by omega)) h.b
    · have n0 : 0 < n + n := by
        by_cases z : 0 < n
        · omega
        · have : n = 0 := by omega
          subst this
          have h2 : ((pr q).1).natAbs < 2 ^ 0 := h.a
          have h3 : (pr q).1 = q.num := rfl
          rw [h3] at h2
          simp at h2; omega
      exact SQ0 n0
    · have wr' := wr
      rw [hm] at wr' er
      have e : EN 0 (((1 : Int) : Rat) / ((q.den : Int) : Rat)) m = .tup [k_ZERO, .tup [.int 1, .int q.den], .int (q.num * q.den)] := by
        unfold EN
        rw [if_neg tne]
        unfold EL
        rw [← t1, hm]; rfl
      rw [e]
      simp [f_root_of, mkFn, m_root_of, DL.start, i0, i1, d_mul mm, d_mul rm, wr', er]
/-- the ints of a told root -/
theorem lcm_of {x y : Nat} (hx : 0 < x) (hy : 0 < y) : ∃ B x' y' : Nat, B = x * x' ∧ B = y * y' ∧ 0 < B ∧ x' ≤ y ∧ y' ≤ x ∧ x * y = B * Nat.gcd x y := by
  obtain ⟨a, ha⟩ := Nat.gcd_dvd_left x y
  obtain ⟨b, hb⟩ := Nat.gcd_dvd_right x y
  have gp : 0 < Nat.gcd x y := Nat.gcd_pos_of_pos_left _ hx
  have h1 : x * b = y * a := by
    have e1 : x * b = Nat.gcd x y * a * b := by rw [← ha]
    have e2 : y * a = Nat.gcd x y * b * a := by rw [← hb]
    rw [e1, e2]; grind
  have bp : 0 < b := by
    by_cases c : 0 < b
    · exact c
    · have : b = 0 := by omega
      rw [this] at hb; simp at hb; omega
  have ap : 0 < a := by
    by_cases c : 0 < a
    · exact c
    · have : a = 0 := by omega
      rw [this] at ha; simp at ha; omega
  refine ⟨x * b, b, a, rfl, h1, Nat.mul_pos hx bp, ?_, ?_, ?_⟩
  · have := Nat.le_mul_of_pos_left b gp
    rw [← hb] at this; exact this
  · have := Nat.le_mul_of_pos_left a gp
    rw [← ha] at this; exact this
  · have : x * y = x * (Nat.gcd x y * b) := by rw [← hb]
    rw [this]; grind
theorem told_ints (m : Nat) (u v W L : Rat) (hW : -(u + u) = W) (hL : u * u - v * v * m = L) {n1 n2 : Nat} (h1 : SQ n1 W) (h2 : SQ n2 L) : ∃ (B w' l' : Nat) (g a b c : Int),
    (B : Int) = (W.den : Int) * w' ∧ (B : Int) = (L.den : Int) * l' ∧ 0 < B ∧ (L.den : Int) * (W.den : Int) = B * ((Int.gcd (L.den : Int) (W.den : Int) : Nat) : Int) ∧
    g ≠ 0 ∧ g.natAbs < 2 ^ (n1 + n2) ∧ ((Int.gcd ((Int.gcd (B : Int) (W.num * w') : Nat) : Int) (L.num * l') : Nat) : Int) = g ∧ (B : Int) = g * a ∧ W.num * w' = g * b ∧ L.num * l' = g * c ∧ Told m u v a b c (sgQ v) ∧ a.natAbs < 2 ^ (n1 + n2) ∧ b.natAbs < 2 ^ (n1 + n2) ∧ c.natAbs < 2 ^ (n1 + n2) ∧ w' < 2 ^ n2 ∧ l' < 2 ^ n1 ∧ B < 2 ^ (n1 + n2) := by
  have wd := W.den_pos
  have ld := L.den_pos
  obtain ⟨B, l', w', e1, e2, B0, le1, le2, eg⟩ := lcm_of ld wd
  have hwd : W.den < 2 ^ n1 := by
    have e : ((pr W).2).natAbs = W.den := Int.natAbs_natCast _
    rw [← e]; exact h1.b
  have hld : L.den < 2 ^ n2 := by
    have e : ((pr L).2).natAbs = L.den := Int.natAbs_natCast _
    rw [← e]; exact h2.b
  have wl : w' < 2 ^ n2 := by omega
  have ll : l' < 2 ^ n1 := by omega
  have Bl : B < 2 ^ (n1 + n2) := by rw [e2, Nat.pow_add]; exact Nat.mul_lt_mul'' hwd wl
  have b0 : (W.num * w').natAbs < 2 ^ (n1 + n2) := mul_lt h1.a (by rw [Int.natAbs_natCast]; exact wl)
  have c0 : (L.num * l').natAbs < 2 ^ (n1 + n2) := by rw [Nat.add_comm]; exact mul_lt h2.a (by rw [Int.natAbs_natCast]; exact ll)
  obtain ⟨h, hh⟩ : ∃ h, Int.gcd ((Int.gcd (B : Int) (W.num * w') : Nat) : Int) (L.num * l') = h := ⟨_, rfl⟩
  have gB : 0 < Int.gcd (B : Int) (W.num * w') := Int.gcd_pos_of_ne_zero_left _ (by omega)
  have hpos : 0 < h := by rw [← hh]; exact Int.gcd_pos_of_ne_zero_left _ (by omega)
  have d1 : (h : Int) ∣ ((Int.gcd (B : Int) (W.num * w') : Nat) : Int) := by rw [← hh]; exact Int.gcd_dvd_left _ _
  obtain ⟨c, hc⟩ : (h : Int) ∣ L.num * l' := by rw [← hh]; exact Int.gcd_dvd_right _ _
  obtain ⟨a, ha⟩ : (h : Int) ∣ (B : Int) := Int.dvd_trans d1 (Int.gcd_dvd_left _ _)
  obtain ⟨b, hb⟩ : (h : Int) ∣ W.num * w' := Int.dvd_trans d1 (Int.gcd_dvd_right _ _)
  have le : ∀ {x y : Int}, x = (h : Int) * y → y.natAbs ≤ x.natAbs := fun {x y} e => by
    rw [e, Int.natAbs_mul]; exact Nat.le_mul_of_pos_left _ (by rw [Int.natAbs_natCast]; exact hpos)
  have a0 : 0 < a := by
    by_cases z : 0 < a
    · exact z
    · have := Int.mul_nonpos_of_nonneg_of_nonpos (show 0 ≤ (h : Int) by omega) (show a ≤ 0 by omega); omega
  have hl : h ≤ B := by
    have : (h : Int).natAbs ∣ (B : Int).natAbs := Int.natAbs_dvd_natAbs.mpr ⟨a, ha⟩
    rw [Int.natAbs_natCast, Int.natAbs_natCast] at this
    exact Nat.le_of_dvd B0 this
  have hq : ((h : Int) : Rat) ≠ 0 := castI_ne (by omega)
  refine ⟨B, w', l', (h : Int), a, b, c, by rw [e2]; exact Int.natCast_mul _ _, by rw [e1]; exact Int.natCast_mul _ _, B0, ?_, by omega, by rw [Int.natAbs_natCast]; omega, by rw [hh], ha, hb, hc, ⟨a0, ?_, ?_, ?_, rfl⟩, ?_, ?_, ?_, wl, ll, Bl⟩
  · have : ((L.den * W.den : Nat) : Int) = ((B * Nat.gcd L.den W.den : Nat) : Int) := by rw [eg]
    rw [Int.natCast_mul, Int.natCast_mul] at this
    exact this
  · -- b
    have e : (W.num : Rat) * ((w' : Int) : Rat) = ((h : Int) : Rat) * (b : Rat) := by exact_mod_cast hb
    have e' : ((W.den : Int) : Rat) * ((w' : Int) : Rat) = ((h : Int) : Rat) * (a : Rat) := by
      have : ((W.den : Int)) * (w' : Int) = (h : Int) * a := by rw [← ha, e2]; exact (Int.natCast_mul _ _).symm
      exact_mod_cast this
    have q := mul_den W
    rw [hW]
    generalize ((W.den : Int) : Rat) = x at *; generalize (W.num : Rat) = y at *; generalize ((w' : Int) : Rat) = z at *; generalize ((h : Int) : Rat) = k at *; generalize (a : Rat) = p at *; generalize (b : Rat) = r at *
    have : k * r = k * (W * p) := by rw [← e, ← q]; grind
    have : k * (r - W * p) = 0 := by grind
    rcases Rat.mul_eq_zero.mp this with t | t
    · contradiction
    · grind
  · have e : (L.num : Rat) * ((l' : Int) : Rat) = ((h : Int) : Rat) * (c : Rat) := by exact_mod_cast hc
    have e' : ((L.den : Int) : Rat) * ((l' : Int) : Rat) = ((h : Int) : Rat) * (a : Rat) := by
      have : ((L.den : Int)) * (l' : Int) = (h : Int) * a := by rw [← ha, e1]; exact (Int.natCast_mul _ _).symm
      exact_mod_cast this
    have q := mul_den L
    rw [hL]
    generalize ((L.den : Int) : Rat) = x at *; generalize (L.num : Rat) = y at *; generalize ((l' : Int) : Rat) = z at *; generalize ((h : Int) : Rat) = k at *; generalize (a : Rat) = p at *; generalize (c : Rat) = r at *
    have : k * r = k * (L * p) := by rw [← e, ← q]; grind
    have : k * (r - L * p) = 0 := by grind
    rcases Rat.mul_eq_zero.mp this with t | t
    · contradiction
    · grind
  · -- no common part is left
    have e : Int.gcd ((Int.gcd (B : Int) (W.num * w') : Nat) : Int) (L.num * l') = h * Int.gcd ((Int.gcd a b : Nat) : Int) c := by
      rw [ha, hb, hc, Int.gcd_mul_left]
      have : (((h : Int).natAbs * Int.gcd a b : Nat) : Int) = (h : Int) * ((Int.gcd a b : Nat) : Int) := by
        rw [Int.natAbs_natCast, Int.natCast_mul]
      rw [this, Int.gcd_mul_left, Int.natAbs_natCast]
    rw [hh] at e
    have : h * Int.gcd ((Int.gcd a b : Nat) : Int) c = h * 1 := by omega
    exact Nat.eq_of_mul_eq_mul_left hpos this
  · have := le ha; rw [Int.natAbs_natCast] at this; omega
  · have := le hb; omega
  · have := le hc; omega
theorem e_told_plain (u : Rat) (m : Nat) (S : Sto) : f_told [EN u 0 m] S = .ok (FQ u) S := by
  have i0 : ∀ S, dIx (EN u 0 m) (.int 0) S = .ok (FQ u) S := fun S => ixEL0 _ _ _ S
  have i1 : ∀ S, dIx (EN u 0 m) (.int 1) S = .ok (FQ 0) S := fun S => ixEL1 _ _ _ S
  have z : (0 : Rat).num = 0 := rfl
  simp [f_told, mkFn, m_told, q_told_1, DL.start, i0, i1, ixQ0, z, dEqI]
theorem e_told_root {m : Nat} {u v : Rat} (hv : v ≠ 0) {n nm n1 n2 : Nat} (hu : SQ n u) (hvv : SQ n v) (hm : m < 2 ^ nm) (h1 : SQ n1 (-(u + u))) (h2 : SQ n2 (u * u - v * v * m)) (b0 : 2 * n + nm ≤ 4400) (b1 : n1 + n2 ≤ 4000) (hn : 0 < nm) (S : Sto) :
    ∃ a b c : Int, Told m u v a b c (sgQ v) ∧ a.natAbs < 2 ^ (n1 + n2) ∧ b.natAbs < 2 ^ (n1 + n2) ∧ c.natAbs < 2 ^ (n1 + n2) ∧ f_told [EN u v m] S = .ok (.tup [.int a, .int b, .int c, .int (sgQ v)]) S := by
  obtain ⟨W, hW⟩ : ∃ W, -(u + u) = W := ⟨_, rfl⟩
  obtain ⟨L, hL⟩ : ∃ L, u * u - v * v * m = L := ⟨_, rfl⟩
  rw [hW] at h1
  rw [hL] at h2
  obtain ⟨B, w', l', g, a, b, c, e1, e2, B0, eg, g0, gz, hg, ha, hb, hc, T, za, zb, zc, wz, lz, Bz⟩ := told_ints m u v W L hW hL h1 h2
  refine ⟨a, b, c, T, za, zb, zc, ?_⟩
  have i0 : ∀ S, dIx (EN u v m) (.int 0) S = .ok (FQ u) S := fun S => ixEL0 _ _ _ S
  have i1 : ∀ S, dIx (EN u v m) (.int 1) S = .ok (FQ v) S := fun S => ixEL1 _ _ _ S
  have i2 : ∀ S, dIx (EN u v m) (.int 2) S = .ok (.int (m : Int)) S := fun S => by
    have e := ixEL2 u v (if v = 0 then 0 else (m : Int)) S
    rw [if_neg hv] at e
    unfold EN; rw [if_neg hv]; exact e
  have vn := num_ne hv
  have s1 := fun S => e_squaredQ hu S (by omega)
  have s2 := fun S => e_squaredQ hvv S (by omega)
  have mf : D.tup [.int (m : Int), .int 1] = FQ (m : Rat) := rfl
  have mq : SQ nm (m : Rat) := SQ.int (i := (m : Int)) (by rw [Int.natAbs_natCast]; exact hm) hn
  have t1 := fun S => e_timesQ (hvv.mul hvv) mq S (by omega) (by omega)
  have l1 := fun S => e_lessQ ((hu.mul hu).mono (show n + n ≤ 4400 by omega)) (((hvv.mul hvv).mul mq).mono (show n + n + nm ≤ 4400 by omega)) S (by omega) (by omega)
  have p1 := fun S => e_plusQ hu hu S (by omega) (by omega)
  have tn := fun S => e_turnedQ (u + u) S
  have sg := fun S => e_sign_ofQ v S
  simp only [hW] at tn
  simp only [hL] at l1
  have wdz : (W.den : Int).natAbs < 2 ^ n1 := h1.b
  have ldz : (L.den : Int).natAbs < 2 ^ n2 := h2.b
  have m1 : mulOk (L.den : Int) (W.den : Int) = true := mul_ok ldz wdz (by omega) (by omega)
  have gcz : ((Int.gcd (L.den : Int) (W.den : Int) : Nat) : Int).natAbs < 2 ^ 9000 := by
    rw [Int.natAbs_natCast]
    exact Nat.lt_of_le_of_lt (red_gcd _ _ (den_ne W)) (up_lt wdz (by omega))
  have gcp : 0 < Int.gcd (L.den : Int) (W.den : Int) := Int.gcd_pos_of_ne_zero_right _ (den_ne W)
  have dg : divOk ((Int.gcd (L.den : Int) (W.den : Int) : Nat) : Int) = true := divOk_of (by omega) gcz
  have q1 : ((L.den : Int) * (W.den : Int)).fdiv ((Int.gcd (L.den : Int) (W.den : Int) : Nat) : Int) = B := by
    rw [eg]; exact Int.mul_fdiv_cancel _ (by omega)
  have dw : divOk (W.den : Int) = true := divOk_of (den_ne W) (up_lt wdz (by omega))
  have dl : divOk (L.den : Int) = true := divOk_of (den_ne L) (up_lt ldz (by omega))
  have q2 : (B : Int).fdiv (W.den : Int) = w' := by rw [e1]; exact Int.mul_fdiv_cancel_left _ (den_ne W)
  have q3 : (B : Int).fdiv (L.den : Int) = l' := by rw [e2]; exact Int.mul_fdiv_cancel_left _ (den_ne L)
  have m2 : mulOk W.num (w' : Int) = true := mul_ok h1.a (by rw [Int.natAbs_natCast]; exact wz) (by omega) (by omega)
  have m3 : mulOk L.num (l' : Int) = true := mul_ok h2.a (by rw [Int.natAbs_natCast]; exact lz) (by omega) (by omega)
  have dgg : divOk g = true := divOk_of g0 (up_lt gz (by omega))
  have f1 : (B : Int).fdiv g = a := by rw [ha]; exact Int.mul_fdiv_cancel_left _ g0
  have f2 : (W.num * (w' : Int)).fdiv g = b := by rw [hb]; exact Int.mul_fdiv_cancel_left _ g0
  have f3 : (L.num * (l' : Int)).fdiv g = c := by rw [hc]; exact Int.mul_fdiv_cancel_left _ g0
  unfold f_told mkFn
  rw [if_pos (show [EN u v m].length = 1 from rfl)]
  have st : DL.start 6 [EN u v m] = [some (EN u v m), none, none, none, none, none] := rfl
  rw [st]
  unfold m_told
  have g1 : q_told_1 [some (EN u v m), none, none, none, none, none] S = .nx [some (EN u v m), none, none, none, none, none] S := by
    simp [q_told_1, i1, ixQ0, dEqI, vn]
  have g2 : q_told_2 [some (EN u v m), none, none, none, none, none] S = .nx [some (EN u v m), some (FQ L), none, none, none, none] S := by
    simp [q_told_2, i0, i1, i2, s1, s2, mf, t1, l1]
  have g3 : q_told_3 [some (EN u v m), some (FQ L), none, none, none, none] S = .nx [some (EN u v m), some (FQ L), some (FQ W), none, none, none] S := by
    simp [q_told_3, i0, p1, tn]
  have g4 : q_told_4 [some (EN u v m), some (FQ L), some (FQ W), none, none, none] S = .nx [some (EN u v m), some (FQ L), some (FQ W), some (.int B), none, none] S := by
    simp only [q_told_4, ap_sSet, ap_bin, ap_call, ap_cons, ap_var, ap_C, ap_nil, bind_ok, ixQ1, e_common, d_mul m1, d_div dg, q1, st_ok, List.getElem?_cons_zero, List.getElem?_cons_succ, List.set_cons_zero, List.set_cons_succ]
  have g5 : q_told_5 [some (EN u v m), some (FQ L), some (FQ W), some (.int B), none, none] S = .nx [some (EN u v m), some (.int (L.num * l')), some (.int (W.num * w')), some (.int B), some (.int B), none] S := by
    simp [q_told_5, ixQ0, ixQ1, d_div dw, d_div dl, q2, q3, d_mul m2, d_mul m3]
  have g6 : q_told_6 [some (EN u v m), some (.int (L.num * l')), some (.int (W.num * w')), some (.int B), some (.int B), none] S = .nx [some (EN u v m), some (.int (L.num * l')), some (.int (W.num * w')), some (.int B), some (.int B), some (.int g)] S := by
    simp [q_told_6, e_common, hg]
  rw [ap_sSeq, g1, then_nx, ap_sSeq, g2, then_nx, ap_sSeq, g3, then_nx, ap_sSeq, g4, then_nx, ap_sSeq, g5, then_nx, ap_sSeq, g6, then_nx]
  simp [q_told_7, d_div dgg, f1, f2, f3, i1, sg]
theorem disc_lt {a b c : Int} {n : Nat} (ha : a.natAbs < 2 ^ n) (hb : b.natAbs < 2 ^ n) (hc : c.natAbs < 2 ^ n) : (b * b - 4 * a * c).natAbs < 2 ^ (n + n + 3) := by
  have h1 := mul_lt hb hb
  have h2 := mul_lt ha hc
  have e : 4 * a * c = 4 * (a * c) := Int.mul_assoc _ _ _
  have : 2 ^ (n + n + 3) = 2 ^ (n + n) * 8 := by rw [Nat.pow_add]
  rw [e]; omega
/-- it is a root, as the program looks at one -/
theorem e_is_root {m : Nat} {u v : Rat} {a b c : Int} (T : Told m u v a b c (sgQ v)) (hv : v ≠ 0) (hm : NoSq m) {n : Nat} (ha : a.natAbs < 2 ^ n) (hb : b.natAbs < 2 ^ n) (hc : c.natAbs < 2 ^ n) (hn : n ≤ 2198) (S : Sto) : f_is_root [.tup [.int a, .int b, .int c, .int (sgQ v)]] S = .ok (.bl true) S := by
  have a0 := T.a0
  obtain ⟨w, w0, w1, w2, w3⟩ := abs_sgn v hv
  have V := T.val hv hm.pos
  have d0 : 0 < b * b - 4 * a * c := by
    have := V.dn
    have h2 : b * b - 4 * a * c ≠ 0 := by
      rcases V.v with ⟨q, z, _⟩ | ⟨z, _⟩
      · exfalso
        have : sgQ v = 0 := z
        rcases w3 with y | y <;> omega
      · exact fun y => by have : 0 < b * b - 4 * a * c := z; omega
    have h3 : 0 ≤ b * b - 4 * a * c := this
    omega
  have dz := disc_lt ha hb hc
  obtain ⟨dd, hd⟩ : ∃ dd : Nat, (dd : Int) = b * b - 4 * a * c := ⟨(b * b - 4 * a * c).natAbs, by omega⟩
  have ddz : dd < 2 ^ 4400 := by
    have : dd = (b * b - 4 * a * c).natAbs := by omega
    rw [this]; exact Nat.lt_of_lt_of_le dz (Nat.pow_le_pow_right (by decide) (by omega))
  obtain ⟨r, r1, r2⟩ := whole_ex dd
  have wr := fun S => e_whole_root r1 r2 ddz S
  rw [hd] at wr
  have rne : (r : Int) * r ≠ b * b - 4 * a * c := by
    intro e
    have k0 : 2 * (a : Rat) * v ≠ 0 := by
      have : (a : Rat) ≠ 0 := castI_ne (by omega)
      intro z
      rcases Rat.mul_eq_zero.mp z with y | y
      · rcases Rat.mul_eq_zero.mp y with x | x
        · exact absurd x (by decide)
        · contradiction
      · contradiction
    have e2 : ((r : Int) : Rat) * ((r : Int) : Rat) = (2 * (a : Rat) * v) * (2 * (a : Rat) * v) * m := by
      rw [← T.disc, ← e, Rat.intCast_mul]
    refine hm.rat (((r : Int) : Rat) / (2 * (a : Rat) * v)) ?_
    generalize ((r : Int) : Rat) = x at *
    generalize 2 * (a : Rat) * v = y at *
    clear wr T V w1 w2
    grind
  have rl : r < 2 ^ 4400 := by
    by_cases z : r = 0
    · rw [z]; exact Nat.two_pow_pos _
    · have : r * 1 ≤ r * r := Nat.mul_le_mul_left _ (by omega)
      omega
  have e27 : (2 : Int) ^ 27 = 134217728 := by decide +kernel
  have pw : ∀ S, dPow (.int (r : Int)) (.int 2) S = .ok (.int ((r : Int) * r)) S := fun S => by
    rw [d_pow ⟨by decide, by
      have := bits_le (x := (r : Int)) (k := 4400) (by rw [Int.natAbs_natCast]; exact rl) (by decide)
      rw [e27]; omega⟩ S]
    congr 2
    exact Int.pow_succ (r : Int) 1 |>.trans (by rw [Int.pow_one])
  have ne : ∀ S, dNe (.int ((r : Int) * r)) (.int (b * b - 4 * a * c)) S = .ok (.bl true) S := fun S => by rw [dNeI, decide_eq_false rne]; rfl
  have i : ∀ S, dNotIn (.int (sgQ v)) (.tup [.int (-1), .int 1]) S = .ok (.bl false) S := fun S => by
    have h := in_pair (sgQ v) (-1) 1 S
    unfold dIn at h
    unfold dNotIn
    cases z : inD (.int (sgQ v)) (.tup [.int (-1), .int 1]) with
    | none => rw [z] at h; cases h
    | some k =>
      rw [z] at h
      have hk : k = (decide (-1 = sgQ v) || decide (1 = sgQ v)) := by cases h; rfl
      have : k = true := by
        rw [hk]
        rcases w3 with y | y
        · rw [decide_eq_true (show 1 = sgQ v by omega), Bool.or_true]
        · rw [decide_eq_true (show -1 = sgQ v by omega)]; rfl
      rw [this]; rfl
  have g := T.g
  have m1 := mul_ok hb hb (by omega) (by omega)
  have m2 : mulOk 4 a = true := mul_ok (n := 3) (by decide) ha (by omega) (by omega)
  have m3 : mulOk (4 * a) c = true := mul_ok (mul_lt (n := 3) (i := 4) (by decide) ha) hc (by omega) (by omega)
  have c1 : ¬ a < 1 := by omega
  have cg : ∀ S, dNe (.int ((Int.gcd ((Int.gcd a b : Nat) : Int) c : Nat) : Int)) (.int 1) S = .ok (.bl false) S := fun S => by rw [dNeI, decide_eq_true (by rw [g]; rfl)]; rfl
  simp [f_is_root, mkFn, m_is_root, DL.start, isTupT, truD, dNeI, compL, wipeE, e_is_whole, fAll, bools, c1, i, e_common, g, d_mul m1, d_mul m2, d_mul m3, wr, pw, show 4 * a * c < b * b by omega, rne]
/-- a told number, as the law reads it -/
theorem e_law_el_frac (u : Rat) (S : Sto) : f_law_el [FQ u] S = .ok (LD ⟨u.num, 0, u.den, 0⟩) S := by
  have l : ∀ S, fLen [FQ u] S = .ok (.int 2) S := fun S => rfl
  simp [f_law_el, mkFn, m_law_el, DL.start, l, dEqI, ixQ0, ixQ1]
  rfl
theorem e_law_el_root {a b c s : Int} {n : Nat} (ha : a.natAbs < 2 ^ n) (hb : b.natAbs < 2 ^ n) (hc : c.natAbs < 2 ^ n) (hn : n ≤ 20000) (S : Sto) : f_law_el [.tup [.int a, .int b, .int c, .int s]] S = .ok (LD ⟨-b, s, 2 * a, b * b - 4 * a * c⟩) S := by
  have m0 : mulOk 2 a = true := mul_ok (n := 2) (by decide) ha (by omega) (by omega)
  have m1 := mul_ok hb hb (by omega) (by omega)
  have m2 : mulOk 4 a = true := mul_ok (n := 3) (by decide) ha (by omega) (by omega)
  have m3 : mulOk (4 * a) c = true := mul_ok (mul_lt (n := 3) (i := 4) (by decide) ha) hc (by omega) (by omega)
  simp [f_law_el, mkFn, m_law_el, DL.start, dEqI, d_mul m0, d_mul m1, d_mul m2, d_mul m3]
  rfl
theorem e_toldE {m : Nat} {u v : Rat} (hm : v ≠ 0 → NoSq m) {n nm n1 n2 : Nat} (hu : SQ n u) (hv : SQ n v) (hmz : m < 2 ^ nm) (h0 : SQ (n1 + n2) u) (h1 : SQ n1 (-(u + u))) (h2 : SQ n2 (u * u - v * v * m)) (b0 : 2 * n + nm ≤ 4400) (b1 : n1 + n2 ≤ 2190) (hn : 0 < nm) (S : Sto) :
    ∃ (l : List Int) (x : Lz), f_told [EN u v m] S = .ok (IT l) S ∧ (∀ S, f_law_el [IT l] S = .ok (LD x) S) ∧ Val m x u v ∧ Zs x (n1 + n2) 1 (n1 + n2 + 1) (n1 + n2 + (n1 + n2) + 3) ∧ (∀ S, f_is_number [IT l] S = .ok (.bl true) S) ∧ (v = 0 → IT l = FQ u) := by
  by_cases c : v = 0
  · subst c
    refine ⟨[u.num, (u.den : Int)], ⟨u.num, 0, u.den, 0⟩, e_told_plain u m S, fun S => e_law_el_frac u S, Val.frac m u, ⟨h0.a, by show (0 : Int).natAbs < 2 ^ 1; decide, up_lt h0.b (by omega), by show (0 : Int).natAbs < _; exact Nat.two_pow_pos _⟩, fun S => ?_, fun _ => rfl⟩
    have lw := fun S => e_is_lowest (pr_low u) S
    have lw' : ∀ S, f_is_lowest [IT [u.num, (u.den : Int)]] S = .ok (.bl true) S := lw
    simp [f_is_number, mkFn, m_is_number, DL.start, lw']
  · obtain ⟨a, b, cc, T, za, zb, zc, run⟩ := e_told_root c hu hv hmz h1 h2 b0 (by omega) hn S
    have V := T.val c (hm c).pos
    obtain ⟨w, w0, w1, w2, w3⟩ := abs_sgn v c
    refine ⟨[a, b, cc, sgQ v], ⟨-b, sgQ v, 2 * a, b * b - 4 * a * cc⟩, run, fun S => e_law_el_root za zb zc (by omega) S, V, ⟨by show (-b).natAbs < _; rw [Int.natAbs_neg]; exact zb, ?_, ?_, disc_lt za zb zc⟩, fun S => ?_, fun z => absurd z c⟩
    · show (sgQ v).natAbs < 2 ^ 1
      rcases w3 with y | y <;> omega
    · show (2 * a).natAbs < 2 ^ (n1 + n2 + 1)
      rw [Nat.pow_succ]; omega
    · have k1 : L2.kitB "tuple" "tuple" = some true := ki_tt
      have lw : f_is_lowest [IT [a, b, cc, sgQ v]] S = .ok (.bl false) S := by
        have e : IT [a, b, cc, sgQ v] = .tup [.int a, .int b, .int cc, .int (sgQ v)] := rfl
        rw [e]
        simp [f_is_lowest, mkFn, m_is_lowest, DL.start, isTupT, truD, dNeI]
      have ir : f_is_root [IT [a, b, cc, sgQ v]] S = .ok (.bl true) S := e_is_root T c (hm c) za zb zc (by omega) S
      simp [f_is_number, mkFn, m_is_number, DL.start, lw, ir]
theorem e_law_told0 {m : Nat} {x : Lz} {U V : Rat} (h : Val m x U V) (hv : V = 0) {np nq nr nd : Nat} (z : Zs x np nq nr nd) (b1 : nr ≤ 9000) (b2 : nd ≤ 4400) (S : Sto) : f_law_told [LD x] S = .ok (FQ U) S := by
  have q0 := h.q0 hv
  have d0 := h.dn
  obtain ⟨d, hd⟩ : ∃ d : Nat, (d : Int) = x.d := ⟨x.d.natAbs, by omega⟩
  have dz : d < 2 ^ 4400 := by
    have : d = x.d.natAbs := by omega
    rw [this]; exact up_lt z.d b2
  obtain ⟨r, r1, r2⟩ := whole_ex d
  have wr := fun S => e_law_root_of r1 r2 dz S
  rw [hd] at wr
  have rt := fun S => e_law_rateQ (t := x.p) (b := x.r) h.r0 (up_lt z.r b1) S
  rw [← h.u] at rt
  have m0 : mulOk 0 0 = true := by decide +kernel
  have lx : LD x = .tup [.int x.p, .int 0, .int x.r, .int x.d] := by unfold LD; rw [q0]
  rw [lx]
  simp [f_law_told, mkFn, m_law_told, DL.start, wr, dEqI, dNeI, d_mul m0, rt]
theorem e_law_minus {m : Nat} {x : Lz} {U V : Rat} (h : Val m x U V) {np nq nr nd : Nat} (z : Zs x np nq nr nd) : Val m ⟨-x.p, -x.q, x.r, x.d⟩ (-U) (-V) ∧ Zs ⟨-x.p, -x.q, x.r, x.d⟩ np nq nr nd ∧ ∀ S, f_law_minus [LD x] S = .ok (LD ⟨-x.p, -x.q, x.r, x.d⟩) S := by
  have r := castI_ne h.r0
  refine ⟨⟨h.r0, ?_, ?_⟩, ⟨by show (-x.p).natAbs < _; rw [Int.natAbs_neg]; exact z.p, by show (-x.q).natAbs < _; rw [Int.natAbs_neg]; exact z.q, z.r, z.d⟩, fun S => ?_⟩
  · show -U = ((-x.p : Int) : Rat) / (x.r : Rat)
    rw [h.u, Rat.intCast_neg]; grind
  · rcases h.v with ⟨a, b, c⟩ | ⟨a, k, k0, e, f⟩
    · exact .inl ⟨a, by show -x.q = 0; omega, by rw [c]; rfl⟩
    · refine .inr ⟨a, k, k0, e, ?_⟩
      show -V = ((-x.q : Int) : Rat) * k / (x.r : Rat)
      rw [f, Rat.intCast_neg]; grind
  · simp [f_law_minus, mkFn, m_law_minus, DL.start, ixLD0, ixLD1, ixLD2, ixLD3]; rfl
theorem div_sgn {p r : Int} (hr : r ≠ 0) : (0 < p * (if 0 < r then 1 else -1) ↔ 0 < (p : Rat) / (r : Rat)) ∧ (p * (if 0 < r then 1 else -1) < 0 ↔ (p : Rat) / (r : Rat) < 0) := by
  by_cases c : 0 < r
  · have rp : 0 < (r : Rat) := Rat.intCast_pos.mpr c
    have ri := Rat.inv_pos.mpr rp
    rw [if_pos c, Int.mul_one, Rat.div_def]
    refine ⟨?_, ?_⟩
    · rw [Rat.mul_pos_iff_of_pos_right ri]; exact Rat.intCast_pos.symm
    · rw [Rat.mul_neg_iff_of_pos_right ri]; exact Rat.intCast_neg_iff.symm
  · have rp : 0 < ((-r : Int) : Rat) := Rat.intCast_pos.mpr (by omega)
    have ri := Rat.inv_pos.mpr rp
    have e : (p : Rat) / (r : Rat) = ((-p : Int) : Rat) * ((-r : Int) : Rat)⁻¹ := by
      have rn := castI_ne hr
      rw [Rat.intCast_neg, Rat.intCast_neg]
      grind
    rw [if_neg c, e]
    have e2 : p * -1 = -p := by omega
    rw [e2]
    refine ⟨?_, ?_⟩
    · rw [Rat.mul_pos_iff_of_pos_right ri]; exact Rat.intCast_pos.symm
    · rw [Rat.mul_neg_iff_of_pos_right ri]; exact Rat.intCast_neg_iff.symm
theorem sg_b2i {t : Int} {q : Rat} (h1 : 0 < t ↔ 0 < q) (h2 : t < 0 ↔ q < 0) : b2i (decide (0 < t)) - b2i (decide (t < 0)) = sgQ q := by
  unfold sgQ b2i
  by_cases c : 0 < q
  · have a := h1.mpr c
    have b : ¬ t < 0 := by omega
    simp [c, a, b]
  · have a : ¬ 0 < t := fun z => c (h1.mp z)
    by_cases d : q < 0
    · have b := h2.mpr d
      simp [c, a, b, d]
    · have b : ¬ t < 0 := fun z => d (h2.mp z)
      simp [c, a, b, d]
theorem sgQ_zero : sgQ 0 = 0 := by decide
/-- the sign, where one part is nothing -/
theorem e_law_sign {m : Nat} {x : Lz} {U V : Rat} (h : Val m x U V) (hz : U = 0 ∨ V = 0) {np nq nr nd : Nat} (z : Zs x np nq nr nd) (b1 : np ≤ 300000) (b2 : nq ≤ 300000) (S : Sto) : f_law_sign [LD x] S = .ok (.int (if U = 0 then sgQ V else sgQ U)) S := by
  have r0 := h.r0
  have u := div_sgn (p := x.p) r0
  have v := div_sgn (p := x.q) r0
  obtain ⟨t, ht⟩ : ∃ t : Int, (if 0 < x.r then (1 : Int) else -1) = t := ⟨_, rfl⟩
  have t1 : t = 1 ∨ t = -1 := by
    rw [← ht]; split
    · exact .inl rfl
    · exact .inr rfl
  have tz : t.natAbs < 2 ^ 1 := by rcases t1 with y | y <;> omega
  rw [ht] at u v
  have m1 : mulOk x.p t = true := mul_ok z.p tz (by omega) (by omega)
  have m2 : mulOk x.q t = true := mul_ok z.q tz (by omega) (by omega)
  have hu := sg_b2i u.1 u.2
  rw [← h.u] at hu
  -- the sign of the root's part
  obtain ⟨s, hs, hs2⟩ : ∃ s : Int, (b2i (decide (0 < x.q * t)) - b2i (decide (x.q * t < 0))) = s ∧ s * b2i (decide (0 < x.d)) = sgQ V := by
    refine ⟨_, rfl, ?_⟩
    rcases h.v with ⟨a, b, c⟩ | ⟨a, k, k0, e, f⟩
    · rw [a, c, sgQ_zero]; simp [b2i]
    · have : decide (0 < x.d) = true := decide_eq_true a
      rw [this]
      show _ * 1 = _
      rw [Int.mul_one]
      have e2 : V = (x.q : Rat) / (x.r : Rat) * k := by rw [f]; have := castI_ne r0; grind
      refine sg_b2i ?_ ?_
      · rw [v.1, e2, Rat.mul_pos_iff_of_pos_right k0]
      · rw [v.2, e2, Rat.mul_neg_iff_of_pos_right k0]
  have sz : s.natAbs ≤ 1 := by rw [← hs]; unfold b2i; split <;> split <;> omega
  have m3 : mulOk s (b2i (decide (0 < x.d))) = true := m40 (by omega) (by unfold b2i; split <;> omega)
  have tt : (if 0 < x.r then (1 : Int) else -1) = t := ht
  have ift : ∀ ρ : DL.Env, ∀ S, ρ[0]? = some (some (LD x)) → eIf (tOf (eBin dGt (eBin dIx (eVar 0) (eC (.int 2))) (eC (.int 0)))) (eC (.int 1)) (eUn dNeg (eC (.int 1))) ρ S = .ok (.int t) S := fun ρ S hρ => by
    by_cases c : 0 < x.r
    · rw [if_pos c] at tt
      simp [hρ, ixLD2, c, tt]
    · rw [if_neg c] at tt
      simp [hρ, ixLD2, c, tt]
  unfold f_law_sign mkFn
  rw [if_pos (show [LD x].length = 1 from rfl)]
  have st : DL.start 6 [LD x] = [some (LD x), none, none, none, none, none] := rfl
  rw [st]
  unfold m_law_sign
  have ift0 := fun S => ift [some (LD x), none, none, none, none, none] S rfl
  have sb : ∀ (i j : Bool) S, dSubB (.bl i) (.bl j) S = .ok (.int (b2i i - b2i j)) S := fun _ _ _ => rfl
  simp only [ap_sSeq, ap_sPar, ap_cons, ap_bin, ap_var, ap_C, ap_nil, ap_call, bind_ok, List.getElem?_cons_zero, List.getElem?_cons_succ, ixLD0, ixLD1, ixLD3, ift0, d_mul m1, d_mul m2, st_ok, then_nx, List.set_cons_zero, List.set_cons_succ, d_gt, d_lt, sb, f_intB, hu, hs, d_mul m3, hs2]
  by_cases c : U = 0
  · rw [if_pos c]
    have hU : sgQ U = 0 := by rw [c]; exact sgQ_zero
    rw [hU]
    by_cases d : sgQ V = 0
    · simp [dEqI, d]
    · have d' : ¬ 0 = sgQ V := fun e => d e.symm
      simp [dEqI, d, d']
  · rw [if_neg c]
    have hV : V = 0 := by rcases hz with y | y; exact absurd y c; exact y
    have hs3 : sgQ V = 0 := by rw [hV]; exact sgQ_zero
    rw [hs3]
    by_cases d : sgQ U = 0
    · simp [dEqI, d]
    · simp [dEqI, d]
end K20


set_option linter.all false
set_option autoImplicit false
set_option Elab.async false
set_option maxRecDepth 100000
set_option maxHeartbeats 4000000
/-! what the common defs of K20 do, printed by tmpl.py -/
namespace K20
open PySem DL
/-- both parts below 2 ^ n -/
structure PS (n : Nat) (p : Rat × Rat) : Prop where
  x : SQ n p.1
  y : SQ n p.2
def crossQ (p q r : Rat × Rat) : Rat := (q.1 - p.1) * (r.2 - p.2) - (q.2 - p.2) * (r.1 - p.1)
theorem e_told_side {n : Nat} {p q r : Rat × Rat} (hp : PS n p) (hq : PS n q) (hr : PS n r) (hn : n ≤ 1000) (S : Sto) : f_told_side [PQ p, PQ q, PQ r] S = .ok (.int (sgQ (crossQ p q r))) S := by
  have b1 := fun S => e_beside hq.x hq.y hp.x hp.y S (by omega) (by omega)
  have b2 := fun S => e_beside hr.x hr.y hp.x hp.y S (by omega) (by omega)
  have t1 := fun S => e_timesQ (hq.x.sub hp.x) (hr.y.sub hp.y) S (by omega) (by omega)
  have t2 := fun S => e_timesQ (hq.y.sub hp.y) (hr.x.sub hp.x) S (by omega) (by omega)
  have l := fun S => e_lessQ ((hq.x.sub hp.x).mul (hr.y.sub hp.y)) ((hq.y.sub hp.y).mul (hr.x.sub hp.x)) S (by omega) (by omega)
  have sg := fun S => e_sign_ofQ (crossQ p q r) S
  unfold crossQ at sg
  simp [f_told_side, mkFn, m_told_side, DL.start, b1, b2, ixP_0, ixP_1, t1, t2, l, sg, crossQ]
theorem sgQ_zero_iff (q : Rat) : sgQ q = 0 ↔ q = 0 := by
  unfold sgQ
  constructor
  · intro h
    split at h
    · omega
    · split at h
      · omega
      · rename_i a b
        exact Rat.le_antisymm (Rat.not_lt.mp a) (Rat.not_lt.mp b)
  · rintro rfl; decide
theorem sgQ_pos (q : Rat) : sgQ q = 1 ↔ 0 < q := by
  unfold sgQ
  constructor
  · intro h
    split at h
    · assumption
    · split at h <;> omega
  · intro h; rw [if_pos h]
theorem sgQ_neg (q : Rat) : sgQ q = -1 ↔ q < 0 := by
  unfold sgQ
  constructor
  · intro h
    split at h
    · omega
    · split at h
      · assumption
      · omega
  · intro h
    rw [if_neg (Rat.not_lt.mpr (Rat.le_of_lt h)), if_pos h]
theorem sgQ_le (q : Rat) : sgQ q ≤ 0 ↔ q ≤ 0 := by
  rw [← Rat.not_lt, ← sgQ_pos]
  unfold sgQ
  split
  · omega
  · split <;> omega
def onQ (p q r : Rat × Rat) : Bool := decide (crossQ p q r = 0) && decide ((p.1 - r.1) * (q.1 - r.1) + (p.2 - r.2) * (q.2 - r.2) ≤ 0)
theorem e_told_is_on {n : Nat} {p q r : Rat × Rat} (hp : PS n p) (hq : PS n q) (hr : PS n r) (hn : n ≤ 1000) (S : Sto) : f_told_is_on [PQ p, PQ q, PQ r] S = .ok (.bl (onQ p q r)) S := by
  have sd := fun S => e_told_side hp hq hr hn S
  unfold onQ
  by_cases c : crossQ p q r = 0
  · have z := (sgQ_zero_iff _).mpr c
    have b1 := fun S => e_beside hp.x hp.y hr.x hr.y S (by omega) (by omega)
    have b2 := fun S => e_beside hq.x hq.y hr.x hr.y S (by omega) (by omega)
    have t1 := fun S => e_timesQ (hp.x.sub hr.x) (hq.x.sub hr.x) S (by omega) (by omega)
    have t2 := fun S => e_timesQ (hp.y.sub hr.y) (hq.y.sub hr.y) S (by omega) (by omega)
    have l := fun S => e_plusQ ((hp.x.sub hr.x).mul (hq.x.sub hr.x)) ((hp.y.sub hr.y).mul (hq.y.sub hr.y)) S (by omega) (by omega)
    have sg := fun S => e_sign_ofQ ((p.1 - r.1) * (q.1 - r.1) + (p.2 - r.2) * (q.2 - r.2)) S
    have le := sgQ_le ((p.1 - r.1) * (q.1 - r.1) + (p.2 - r.2) * (q.2 - r.2))
    simp only [z] at sd
    simp [f_told_is_on, mkFn, m_told_is_on, DL.start, sd, dNeI, b1, b2, ixP_0, ixP_1, t1, t2, l, sg, le, c]
  · have z : ¬ sgQ (crossQ p q r) = 0 := fun y => c ((sgQ_zero_iff _).mp y)
    simp [f_told_is_on, mkFn, m_told_is_on, DL.start, sd, dNeI, z, c]
def meetQ (p q r s : Rat × Rat) : Bool := (decide (sgQ (crossQ p q r) * sgQ (crossQ p q s) < 0) && decide (sgQ (crossQ r s p) * sgQ (crossQ r s q) < 0)) || (onQ p q r || onQ p q s) || (onQ r s p || onQ r s q)
theorem sgQ_abs (q : Rat) : (sgQ q).natAbs ≤ 1 := by
  unfold sgQ
  split
  · decide
  · split <;> decide
theorem e_told_do_meet {n : Nat} {p q r s : Rat × Rat} (hp : PS n p) (hq : PS n q) (hr : PS n r) (hs : PS n s) (hn : n ≤ 1000) (S : Sto) : f_told_do_meet [.tup [PQ p, PQ q], .tup [PQ r, PQ s]] S = .ok (.bl (meetQ p q r s)) S := by
  have s1 := fun S => e_told_side hp hq hr hn S
  have s2 := fun S => e_told_side hp hq hs hn S
  have s3 := fun S => e_told_side hr hs hp hn S
  have s4 := fun S => e_told_side hr hs hq hn S
  have o1 := fun S => e_told_is_on hp hq hr hn S
  have o2 := fun S => e_told_is_on hp hq hs hn S
  have o3 := fun S => e_told_is_on hr hs hp hn S
  have o4 := fun S => e_told_is_on hr hs hq hn S
  have m1 : mulOk (sgQ (crossQ p q r)) (sgQ (crossQ p q s)) = true := m40 (by have := sgQ_abs (crossQ p q r); omega) (by have := sgQ_abs (crossQ p q s); omega)
  have m2 : mulOk (sgQ (crossQ r s p)) (sgQ (crossQ r s q)) = true := m40 (by have := sgQ_abs (crossQ r s p); omega) (by have := sgQ_abs (crossQ r s q); omega)
  unfold meetQ
  generalize sgQ (crossQ p q r) = a at *
  generalize sgQ (crossQ p q s) = b at *
  generalize sgQ (crossQ r s p) = c at *
  generalize sgQ (crossQ r s q) = d at *
  generalize onQ p q r = e at *
  generalize onQ p q s = f at *
  generalize onQ r s p = g at *
  generalize onQ r s q = h at *
  by_cases h1 : a * b < 0
  · by_cases h2 : c * d < 0
    · simp [f_told_do_meet, mkFn, m_told_do_meet, DL.start, s1, s2, s3, s4, d_mul m1, d_mul m2, h1, h2]
    · cases e <;> cases f <;> cases g <;> cases h <;> simp [f_told_do_meet, mkFn, m_told_do_meet, DL.start, s1, s2, s3, s4, d_mul m1, d_mul m2, h1, h2, compL, wipeE, o1, o2, o3, o4, fAny, bools, truD]
  · cases e <;> cases f <;> cases g <;> cases h <;> simp [f_told_do_meet, mkFn, m_told_do_meet, DL.start, s1, s2, s3, s4, d_mul m1, d_mul m2, h1, compL, wipeE, o1, o2, o3, o4, fAny, bools, truD]
structure Pt (p : Rat × Rat) : Prop where
  x : Pg p.1
  y : Pg p.2
theorem Pt.ps {p : Rat × Rat} (h : Pt p) : PS 20 p := ⟨h.x.sq, h.y.sq⟩
theorem e_do_meet {p q r s : Rat × Rat} (hp : Pt p) (hq : Pt q) (hr : Pt r) (hs : Pt s) (S : Sto) : f_do_meet [PQ p, PQ q, PQ r, PQ s] S = .ok (.bl (meetQ p q r s)) S := by
  have k1 := fun S => e_look_at_point hp.x hp.y S
  have k2 := fun S => e_look_at_point hq.x hq.y S
  have k3 := fun S => e_look_at_point hr.x hr.y S
  have k4 := fun S => e_look_at_point hs.x hs.y S
  have m := fun S => e_told_do_meet hp.ps hq.ps hr.ps hs.ps (by decide) S
  simp [f_do_meet, mkFn, m_do_meet, q_do_meet_1, q_do_meet_1B, q_do_meet_2, DL.start, forL, k1, k2, k3, k4, m]
theorem e_side_of {p q r : Rat × Rat} (hp : Pt p) (hq : Pt q) (hr : Pt r) (S : Sto) : f_side_of [PQ p, PQ q, PQ r] S = .ok (.int (sgQ (crossQ p q r))) S := by
  have k1 := fun S => e_look_at_point hp.x hp.y S
  have k2 := fun S => e_look_at_point hq.x hq.y S
  have k3 := fun S => e_look_at_point hr.x hr.y S
  have m := fun S => e_told_side hp.ps hq.ps hr.ps (by decide) S
  simp [f_side_of, mkFn, m_side_of, DL.start, k1, k2, k3, m]
theorem e_is_on {p q r : Rat × Rat} (hp : Pt p) (hq : Pt q) (hr : Pt r) (S : Sto) : f_is_on [PQ p, PQ q, PQ r] S = .ok (.bl (onQ p q r)) S := by
  have k1 := fun S => e_look_at_point hp.x hp.y S
  have k2 := fun S => e_look_at_point hq.x hq.y S
  have k3 := fun S => e_look_at_point hr.x hr.y S
  have m := fun S => e_told_is_on hp.ps hq.ps hr.ps (by decide) S
  simp [f_is_on, mkFn, m_is_on, DL.start, k1, k2, k3, m]
theorem e_square_of {n : Nat} {p : Rat × Rat} (hp : PS n p) (hn : n ≤ 2000) (S : Sto) : f_square_of [PQ p] S = .ok (FQ (p.1 * p.1 + p.2 * p.2)) S := by
  have a := fun S => e_squaredQ hp.x S (by omega)
  have b := fun S => e_squaredQ hp.y S (by omega)
  have c := fun S => e_plusQ (hp.x.mul hp.x) (hp.y.mul hp.y) S (by omega) (by omega)
  simp [f_square_of, mkFn, m_square_of, DL.start, ixP_0, ixP_1, a, b, c]
theorem e_square_between {p q : Rat × Rat} (hp : Pt p) (hq : Pt q) (S : Sto) : f_square_between [PQ p, PQ q] S = .ok (FQ ((p.1 - q.1) * (p.1 - q.1) + (p.2 - q.2) * (p.2 - q.2))) S := by
  have k1 := fun S => e_look_at_point hp.x hp.y S
  have k2 := fun S => e_look_at_point hq.x hq.y S
  have b := fun S => e_beside hp.ps.x hp.ps.y hq.ps.x hq.ps.y S (by omega) (by omega)
  have s := fun S => e_square_of (p := (p.1 - q.1, p.2 - q.2)) ⟨hp.ps.x.sub hq.ps.x, hp.ps.y.sub hq.ps.y⟩ (by decide) S
  simp [f_square_between, mkFn, m_square_between, DL.start, k1, k2, b, s]
theorem e_look_at_square {s : Rat} (h : Pg s) (h0 : 0 ≤ s) (S : Sto) : f_look_at_square [FQ s] S = .ok .non S := by
  have f := fun S => e_is_fractionQ h S
  have n := Rat.num_nonneg.mpr h0
  have n' : ¬ s.num < 0 := by omega
  simp [f_look_at_square, mkFn, m_look_at_square, DL.start, f, truD, ixQ0, n']
theorem e_line_through {n : Nat} {p q : Rat × Rat} (hp : PS n p) (hq : PS n q) (h0 : 0 < n) (hn : n ≤ 500) (S : Sto) : f_line_through [PQ p, PQ q] S = .ok (.tup [FQ (p.2 - q.2), FQ (q.1 - p.1), FQ (-((p.2 - q.2) * p.1 + (q.1 - p.1) * p.2))]) S := by
  have a := fun S => e_lessQ hp.y hq.y S (by omega) (by omega)
  have b := fun S => e_lessQ hq.x hp.x S (by omega) (by omega)
  have c := fun S => e_timesQ (hp.y.sub hq.y) hp.x S (by omega) (by omega)
  have d := fun S => e_timesQ (hq.x.sub hp.x) hp.y S (by omega) (by omega)
  have e := fun S => e_plusQ ((hp.y.sub hq.y).mul hp.x) ((hq.x.sub hp.x).mul hp.y) S (by omega) (by omega)
  have z : SQ 1 (0 : Rat) := ⟨by show (0 : Int).natAbs < _; decide, by show (1 : Int).natAbs < _; decide⟩
  have f := fun S => e_lessQ z (((hp.y.sub hq.y).mul hp.x).add ((hq.x.sub hp.x).mul hp.y)) S (by omega) (by omega)
  have zf : D.tup [.int 0, .int 1] = FQ 0 := rfl
  have e0 : ∀ x : Rat, 0 - x = -x := fun x => by grind
  simp only [e0] at f
  simp [f_line_through, mkFn, m_line_through, DL.start, ixP_0, ixP_1, a, b, c, d, e, zf, f]
theorem mk_negQ (c : Rat) : D.tup [.int (-c.num), .int c.den] = FQ (-c) := rfl
/-- the points of a line at a distance from nowhere -/
theorem e_on_line {na nb nc ns : Nat} {A B C s : Rat} (hA : SQ na A) (hB : SQ nb B) (hC : SQ nc C) (hs : SQ ns s) (hN : A * A + B * B ≠ 0) (b1 : na ≤ 30) (b2 : nb ≤ 30) (b3 : nc ≤ 90) (b4 : ns ≤ 20) (S : Sto) :
    (s * (A * A + B * B) - C * C < 0 → f_on_line [.tup [FQ A, FQ B, FQ C], FQ s] S = .ok (.lst []) S) ∧
    (s * (A * A + B * B) - C * C = 0 → f_on_line [.tup [FQ A, FQ B, FQ C], FQ s] S = .ok (.lst [.tup [EL (A * -C / (A * A + B * B)) 0 0, EL (B * -C / (A * A + B * B)) 0 0]]) S) ∧
    (0 < s * (A * A + B * B) - C * C → ∃ (m : Nat) (g t : Rat), RootIs (s * (A * A + B * B) - C * C) m g t ∧ m < 2 ^ 644 ∧ SQ 644 g ∧ SQ 322 t ∧
      f_on_line [.tup [FQ A, FQ B, FQ C], FQ s] S = .ok (.lst [.tup [EN (A * -C / (A * A + B * B) + g * (-B / (A * A + B * B))) (t * (-B / (A * A + B * B))) m, EN (B * -C / (A * A + B * B) + g * (A / (A * A + B * B))) (t * (A / (A * A + B * B))) m],
        .tup [EN (A * -C / (A * A + B * B) - g * (-B / (A * A + B * B))) (-(t * (-B / (A * A + B * B)))) m, EN (B * -C / (A * A + B * B) - g * (A / (A * A + B * B))) (-(t * (A / (A * A + B * B)))) m]]) S) := by
  have q1 := fun S => e_squaredQ hA S (by omega)
  have q2 := fun S => e_squaredQ hB S (by omega)
  have p1 := fun S => e_plusQ (hA.mul hA) (hB.mul hB) S (by omega) (by omega)
  have hNs := (hA.mul hA).add (hB.mul hB)
  have q3 := fun S => e_squaredQ hC S (by omega)
  have t1 := fun S => e_timesQ hs hNs S (by omega) (by omega)
  have l1 := fun S => e_lessQ (hs.mul hNs) (hC.mul hC) S (by omega) (by omega)
  have hI := ((hs.mul hNs).sub (hC.mul hC)).mono (show ns + (na + na + (nb + nb) + 1) + (nc + nc) + 1 ≤ 322 by omega)
  have t2 := fun S => e_timesQ hA hC.neg S (by omega) (by omega)
  have t3 := fun S => e_timesQ hB hC.neg S (by omega) (by omega)
  have o1 := fun S => e_overQ (hA.mul hC.neg) hNs hN S (by omega) (by omega)
  have o2 := fun S => e_overQ (hB.mul hC.neg) hNs hN S (by omega) (by omega)
  have o3 := fun S => e_overQ hB.neg hNs hN S (by omega) (by omega)
  have o4 := fun S => e_overQ hA hNs hN S (by omega) (by omega)
  have h1 := ((hA.mul hC.neg).div hNs hN).mono (show na + nc + (na + na + (nb + nb) + 1) ≤ 241 by omega)
  have h2 := ((hB.mul hC.neg).div hNs hN).mono (show nb + nc + (na + na + (nb + nb) + 1) ≤ 241 by omega)
  have h3 := (hB.neg.div hNs hN).mono (show nb + (na + na + (nb + nb) + 1) ≤ 151 by omega)
  have h4 := (hA.div hNs hN).mono (show na + (na + na + (nb + nb) + 1) ≤ 151 by omega)
  obtain ⟨N, hNN⟩ : ∃ N, A * A + B * B = N := ⟨_, rfl⟩
  rw [hNN] at hNs hN hI h1 h2 h3 h4 ⊢
  simp only [hNN] at p1 t1 l1 o1 o2 o3 o4
  obtain ⟨I, hII⟩ : ∃ I, s * N - C * C = I := ⟨_, rfl⟩
  rw [hII] at hI ⊢
  simp only [hII] at l1
  have sg := fun S => e_sign_ofQ I S
  have g1 : q_on_line_1 (DL.start 10 [.tup [FQ A, FQ B, FQ C], FQ s]) S = .nx [some (.tup [FQ A, FQ B, FQ C]), some (FQ s), some (FQ A), some (FQ B), some (FQ C), none, none, none, none, none] S := by
    simp [q_on_line_1, DL.start]
  have g2 : q_on_line_2 [some (.tup [FQ A, FQ B, FQ C]), some (FQ s), some (FQ A), some (FQ B), some (FQ C), none, none, none, none, none] S = .nx [some (.tup [FQ A, FQ B, FQ C]), some (FQ s), some (FQ A), some (FQ B), some (FQ C), some (FQ N), none, none, none, none] S := by
    simp [q_on_line_2, q1, q2, p1]
  have g3 : q_on_line_3 [some (.tup [FQ A, FQ B, FQ C]), some (FQ s), some (FQ A), some (FQ B), some (FQ C), some (FQ N), none, none, none, none] S = .nx [some (.tup [FQ A, FQ B, FQ C]), some (FQ s), some (FQ A), some (FQ B), some (FQ C), some (FQ N), some (FQ I), none, none, none] S := by
    simp [q_on_line_3, t1, q3, l1]
  have head : ∀ k : RS → Prop, True := fun _ => trivial
  have go : f_on_line [.tup [FQ A, FQ B, FQ C], FQ s] S = (match (q_on_line_4 [some (.tup [FQ A, FQ B, FQ C]), some (FQ s), some (FQ A), some (FQ B), some (FQ C), some (FQ N), some (FQ I), none, none, none] S).then (fun ρ S => (sSeq q_on_line_5 (sSeq q_on_line_6 (sSeq (sSet 8 (eCall f_root_of (aCons (eVar 6) (aNil)))) (sSeq q_on_line_8 q_on_line_9)))) ρ S) with
    | .nx _ S => .ok .non S
    | .rt d S => .ok d S
    | .exc c v _ S => .exc c v S
    | _ => .bad) := by
    unfold f_on_line mkFn
    rw [if_pos (show [D.tup [FQ A, FQ B, FQ C], FQ s].length = 2 from rfl)]
    unfold m_on_line
    rw [ap_sSeq, g1, then_nx, ap_sSeq, g2, then_nx, ap_sSeq, g3, then_nx, ap_sSeq]
    first | done | rfl
  have g5 : q_on_line_5 [some (.tup [FQ A, FQ B, FQ C]), some (FQ s), some (FQ A), some (FQ B), some (FQ C), some (FQ N), some (FQ I), none, none, none] S = .nx [some (.tup [FQ A, FQ B, FQ C]), some (FQ s), some (FQ A), some (FQ B), some (FQ C), some (FQ N), some (FQ I), some (PQ (A * -C / N, B * -C / N)), none, none] S := by
    simp [q_on_line_5, ixQ0, ixQ1, mk_negQ, t2, t3, o1, o2, PQ]
  have vec := fun S => e_vector (A * -C / N, B * -C / N) S
  refine ⟨fun c => ?_, fun c => ?_, fun c => ?_⟩
  · have s1 : sgQ I < 0 := by have := (sgQ_neg I).mpr c; omega
    have g4 : q_on_line_4 [some (.tup [FQ A, FQ B, FQ C]), some (FQ s), some (FQ A), some (FQ B), some (FQ C), some (FQ N), some (FQ I), none, none, none] S = .rt (.lst []) S := by
      simp [q_on_line_4, sg, s1]
    rw [go, g4]; rfl
  · have s1 : sgQ I = 0 := (sgQ_zero_iff I).mpr c
    have g4 : q_on_line_4 [some (.tup [FQ A, FQ B, FQ C]), some (FQ s), some (FQ A), some (FQ B), some (FQ C), some (FQ N), some (FQ I), none, none, none] S = .nx [some (.tup [FQ A, FQ B, FQ C]), some (FQ s), some (FQ A), some (FQ B), some (FQ C), some (FQ N), some (FQ I), none, none, none] S := by
      simp [q_on_line_4, sg, s1]
    have g6 : q_on_line_6 [some (.tup [FQ A, FQ B, FQ C]), some (FQ s), some (FQ A), some (FQ B), some (FQ C), some (FQ N), some (FQ I), some (PQ (A * -C / N, B * -C / N)), none, none] S = .rt (.lst [.tup [EL (A * -C / N) 0 0, EL (B * -C / N) 0 0]]) S := by
      simp [q_on_line_6, sg, s1, dEqI, q_on_line_6a_1, vec]
    rw [go, g4, then_nx, ap_sSeq, g5, then_nx, ap_sSeq, g6]; rfl
  · have s1 : sgQ I = 1 := (sgQ_pos I).mpr c
    have g4 : q_on_line_4 [some (.tup [FQ A, FQ B, FQ C]), some (FQ s), some (FQ A), some (FQ B), some (FQ C), some (FQ N), some (FQ I), none, none, none] S = .nx [some (.tup [FQ A, FQ B, FQ C]), some (FQ s), some (FQ A), some (FQ B), some (FQ C), some (FQ N), some (FQ I), none, none, none] S := by
      simp [q_on_line_4, sg, s1]
    have g6 : q_on_line_6 [some (.tup [FQ A, FQ B, FQ C]), some (FQ s), some (FQ A), some (FQ B), some (FQ C), some (FQ N), some (FQ I), some (PQ (A * -C / N, B * -C / N)), none, none] S = .nx [some (.tup [FQ A, FQ B, FQ C]), some (FQ s), some (FQ A), some (FQ B), some (FQ C), some (FQ N), some (FQ I), some (PQ (A * -C / N, B * -C / N)), none, none] S := by
      simp [q_on_line_6, sg, s1, dEqI]
    obtain ⟨m, g, t, R, ht, hm, hg, rt⟩ := e_root_of c hI (by decide) S
    have hg' : SQ 644 g := hg
    have ht' : SQ 644 t := ht.mono (by decide)
    have sc1 := fun S => e_scaled (m := m) hg' ht' h3 (by decide) (by decide) S
    have sc2 := fun S => e_scaled (m := m) hg' ht' h4 (by decide) (by decide) S
    have x1 : SQ 795 (g * (-B / N)) := hg'.mul h3
    have x2 : SQ 795 (t * (-B / N)) := ht'.mul h3
    have x3 : SQ 795 (g * (A / N)) := hg'.mul h4
    have x4 : SQ 795 (t * (A / N)) := ht'.mul h4
    have a1 := fun S => e_added (m := m) h1 x1 x2 (by decide) (by decide) (by decide) S
    have a2 := fun S => e_added (m := m) h2 x3 x4 (by decide) (by decide) (by decide) S
    have b1' := fun S => e_lessened (m := m) h1 x1 x2 (by decide) (by decide) (by decide) S
    have b2' := fun S => e_lessened (m := m) h2 x3 x4 (by decide) (by decide) (by decide) S
    refine ⟨m, g, t, R, hm, hg', ht, ?_⟩
    have g7 : (sSet 8 (eCall f_root_of (aCons (eVar 6) (aNil)))) [some (.tup [FQ A, FQ B, FQ C]), some (FQ s), some (FQ A), some (FQ B), some (FQ C), some (FQ N), some (FQ I), some (PQ (A * -C / N, B * -C / N)), none, none] S = .nx [some (.tup [FQ A, FQ B, FQ C]), some (FQ s), some (FQ A), some (FQ B), some (FQ C), some (FQ N), some (FQ I), some (PQ (A * -C / N, B * -C / N)), some (EN g t m), none] S := by
      simp [rt]
    have g8 : q_on_line_8 [some (.tup [FQ A, FQ B, FQ C]), some (FQ s), some (FQ A), some (FQ B), some (FQ C), some (FQ N), some (FQ I), some (PQ (A * -C / N, B * -C / N)), some (EN g t m), none] S = .nx [some (.tup [FQ A, FQ B, FQ C]), some (FQ s), some (FQ A), some (FQ B), some (FQ C), some (FQ N), some (FQ I), some (PQ (A * -C / N, B * -C / N)), some (EN g t m), some (.tup [EN (g * (-B / N)) (t * (-B / N)) m, EN (g * (A / N)) (t * (A / N)) m])] S := by
      simp [q_on_line_8, ixQ0, ixQ1, mk_negQ, o3, o4, sc1, sc2]
    have mv : ∀ S, f_moved [.tup [EL (A * -C / N) 0 0, EL (B * -C / N) 0 0], .tup [EN (g * (-B / N)) (t * (-B / N)) m, EN (g * (A / N)) (t * (A / N)) m]] S = .ok (.tup [EN (A * -C / N + g * (-B / N)) (t * (-B / N)) m, EN (B * -C / N + g * (A / N)) (t * (A / N)) m]) S := fun S => by
      simp [f_moved, mkFn, m_moved, DL.start, a1, a2]
    have aw : ∀ S, f_away [.tup [EL (A * -C / N) 0 0, EL (B * -C / N) 0 0], .tup [EN (g * (-B / N)) (t * (-B / N)) m, EN (g * (A / N)) (t * (A / N)) m]] S = .ok (.tup [EN (A * -C / N - g * (-B / N)) (-(t * (-B / N))) m, EN (B * -C / N - g * (A / N)) (-(t * (A / N))) m]) S := fun S => by
      simp [f_away, mkFn, m_away, DL.start, b1', b2']
    have g9 : q_on_line_9 [some (.tup [FQ A, FQ B, FQ C]), some (FQ s), some (FQ A), some (FQ B), some (FQ C), some (FQ N), some (FQ I), some (PQ (A * -C / N, B * -C / N)), some (EN g t m), some (.tup [EN (g * (-B / N)) (t * (-B / N)) m, EN (g * (A / N)) (t * (A / N)) m])] S = .rt (.lst [.tup [EN (A * -C / N + g * (-B / N)) (t * (-B / N)) m, EN (B * -C / N + g * (A / N)) (t * (A / N)) m], .tup [EN (A * -C / N - g * (-B / N)) (-(t * (-B / N))) m, EN (B * -C / N - g * (A / N)) (-(t * (A / N))) m]]) S := by
      simp [q_on_line_9, vec, mv, aw]
    rw [go, g4, then_nx, ap_sSeq, g5, then_nx, ap_sSeq, g6, then_nx, ap_sSeq, g7, then_nx, ap_sSeq, g8, then_nx, g9]
end K20


set_option linter.all false
set_option autoImplicit false
set_option Elab.async false
set_option maxRecDepth 100000
set_option maxHeartbeats 4000000
/-! the plain law of k20: told spots, and what the law asks of one -/
namespace K20
open PySem DL
theorem il0 (x : D) (xs : List D) (S : Sto) : dIx (.lst (x :: xs)) (.int 0) S = .ok x S := by
  show (match L2.atI (x :: xs) 0 with | some d => R.ok d S | none => R.bad) = _
  rw [at_0]
theorem il1 (x y : D) (S : Sto) : dIx (.lst [x, y]) (.int 1) S = .ok y S := by
  show (match L2.atI [x, y] 1 with | some d => R.ok d S | none => R.bad) = _
  rw [at_1]
theorem rg2 (ρ : DL.Env) (S : Sto) : fRange1 (aCons (eC (.int 2)) aNil) ρ S = .ok [.int 0, .int 1] S := rng_ok (j := 2) (by simp) (by decide) (by decide)
/-- a told number, as the law reads it -/
structure SpotN (m : Nat) (U V : Rat) (l : List Int) : Prop where
  el : ∃ x, (∀ S, f_law_el [IT l] S = .ok (LD x) S) ∧ Val m x U V ∧ Zs x 400 1 401 803
  num : ∀ S, f_is_number [IT l] S = .ok (.bl true) S
/-- what is asked of a number that is told -/
structure Tell (m : Nat) (u v : Rat) : Prop where
  ns : v ≠ 0 → NoSq m
  mz : m < 2 ^ 644
  su : SQ 1300 u
  sv : SQ 1300 v
  nn : ∃ n1 n2 : Nat, SQ n1 (-(u + u)) ∧ SQ n2 (u * u - v * v * m) ∧ SQ (n1 + n2) u ∧ n1 + n2 ≤ 400
theorem e_spot {m : Nat} {u v : Rat} (h : Tell m u v) (S : Sto) : ∃ l, f_told [EN u v m] S = .ok (IT l) S ∧ SpotN m u v l ∧ (v = 0 → IT l = FQ u) := by
  obtain ⟨n1, n2, a, b, c, d⟩ := h.nn
  obtain ⟨l, x, e1, e2, e3, e4, e5, e6⟩ := e_toldE h.ns h.su h.sv h.mz c a b (by decide) (by omega) (by decide) S
  exact ⟨l, e1, ⟨⟨x, e2, e3, e4.up (by omega) (by omega) (by omega) (by omega)⟩, e5⟩, e6⟩
theorem e_told_vector {m : Nat} {u v u2 v2 : Rat} (h : Tell m u v) (h2 : Tell m u2 v2) (S : Sto) : ∃ l l2, f_told_vector [.tup [EN u v m, EN u2 v2 m]] S = .ok (.tup [IT l, IT l2]) S ∧ SpotN m u v l ∧ SpotN m u2 v2 l2 := by
  obtain ⟨l, e, s, _⟩ := e_spot h S
  obtain ⟨l2, e2, s2, _⟩ := e_spot h2 S
  exact ⟨l, l2, by simp [f_told_vector, mkFn, m_told_vector, DL.start, e, e2], s, s2⟩
theorem e_told_vec0 (u u2 : Rat) (S : Sto) : f_told_vector [.tup [EL u 0 0, EL u2 0 0]] S = .ok (PQ (u, u2)) S := by
  have e := e_told_plain u 0 S
  have e2 := e_told_plain u2 0 S
  rw [EN_plain] at e e2
  simp [f_told_vector, mkFn, m_told_vector, DL.start, e, e2, PQ]
theorem e_far_point {m : Nat} {u v u2 v2 : Rat} {l l2 : List Int} (h : SpotN m u v l) (h2 : SpotN m u2 v2 l2) (S : Sto) : f_is_far_point [.tup [IT l, IT l2]] S = .ok (.bl true) S := by
  have a := h.num
  have b := h2.num
  simp [f_is_far_point, mkFn, m_is_far_point, DL.start, isTupT, dEqI, compL, wipeE, a, b, fAll, bools]
theorem z_frac {k : Nat} {q : Rat} (h : SQ k q) (hk : k ≤ 400) : Zs ⟨q.num, 0, q.den, 0⟩ 400 1 401 803 := ⟨up_lt h.a hk, by show (0 : Int).natAbs < _; decide, up_lt h.b (by omega), by show (0 : Int).natAbs < _; exact Nat.two_pow_pos _⟩
theorem e_law_is_at {m : Nat} {l1 l2 : List Int} {U1 V1 U2 V2 : Rat} (h1 : SpotN m U1 V1 l1) (h2 : SpotN m U2 V2 l2) {k : Nat} {P : Rat × Rat} (hP : PS k P) (hk : k ≤ 400) {sq its : Rat}
    (e1 : U1 * U1 + U2 * U2 + (V1 * V1 + V2 * V2) * m = sq) (e2 : U1 * V1 + U2 * V2 = 0) (e3 : (U1 - P.1) * (U1 - P.1) + (U2 - P.2) * (U2 - P.2) + (V1 * V1 + V2 * V2) * m = its) (e4 : (U1 - P.1) * V1 + (U2 - P.2) * V2 = 0) (S : Sto) :
    f_law_is_at [.tup [IT l1, IT l2], FQ sq, PQ P, FQ its] S = .ok (.bl true) S := by
  obtain ⟨x, ex, vx, zx⟩ := h1.el
  obtain ⟨y, ey, vy, zy⟩ := h2.el
  obtain ⟨p1, vp1, zp1, rp1⟩ := e_law_product vx vx zx zx (by decide) (by decide) (by decide) (by decide) (by decide) (by decide) S
  obtain ⟨p2, vp2, zp2, rp2⟩ := e_law_product vy vy zy zy (by decide) (by decide) (by decide) (by decide) (by decide) (by decide) S
  obtain ⟨s, vs, zs, rs⟩ := e_law_sum vp1 vp2 zp1 zp2 (by decide) (by decide) (by decide) (by decide) (by decide) (by decide) S
  have t1 := e_law_told0 vs (by grind) zs (by decide) (by decide) S
  rw [show U1 * U1 + V1 * V1 * (m : Rat) + (U2 * U2 + V2 * V2 * m) = sq by rw [← e1]; grind] at t1
  obtain ⟨b1, vb1, zb1, rb1⟩ := e_law_sum vx (Val.frac m (-P.1)) zx (z_frac hP.x.neg hk) (by decide) (by decide) (by decide) (by decide) (by decide) (by decide) S
  obtain ⟨b2, vb2, zb2, rb2⟩ := e_law_sum vy (Val.frac m (-P.2)) zy (z_frac hP.y.neg hk) (by decide) (by decide) (by decide) (by decide) (by decide) (by decide) S
  obtain ⟨q1, vq1, zq1, rq1⟩ := e_law_product vb1 vb1 zb1 zb1 (by decide) (by decide) (by decide) (by decide) (by decide) (by decide) S
  obtain ⟨q2, vq2, zq2, rq2⟩ := e_law_product vb2 vb2 zb2 zb2 (by decide) (by decide) (by decide) (by decide) (by decide) (by decide) S
  obtain ⟨t, vt, zt, rt⟩ := e_law_sum vq1 vq2 zq1 zq2 (by decide) (by decide) (by decide) (by decide) (by decide) (by decide) S
  have t2 := e_law_told0 vt (by grind) zt (by decide) (by decide) S
  rw [show (U1 + -P.1) * (U1 + -P.1) + (V1 + 0) * (V1 + 0) * (m : Rat) + ((U2 + -P.2) * (U2 + -P.2) + (V2 + 0) * (V2 + 0) * m) = its by rw [← e3]; grind] at t2
  have f1 : D.tup [.int (-P.1.num), .int 0, .int P.1.den, .int 0] = LD ⟨-P.1.num, 0, P.1.den, 0⟩ := rfl
  have f2 : D.tup [.int (-P.2.num), .int 0, .int P.2.den, .int 0] = LD ⟨-P.2.num, 0, P.2.den, 0⟩ := rfl
  have rb1' : f_law_sum [LD x, LD ⟨-P.1.num, 0, P.1.den, 0⟩] S = .ok (LD b1) S := rb1
  have rb2' : f_law_sum [LD y, LD ⟨-P.2.num, 0, P.2.den, 0⟩] S = .ok (LD b2) S := rb2
  simp [f_law_is_at, mkFn, m_law_is_at, DL.start, compL, wipeE, ex, ey, il0, il1, rp1, rp2, rs, t1, rg2, ixP_0, ixP_1, ixQ0, ixQ1, f1, f2, rb1', rb2', rq1, rq2, rt, t2, dEqQ]
theorem sq_half {n : Nat} {q : Rat} (h : SQ n (q * q)) : SQ n q := by
  have e := sq_num q
  have e1 : (pr (q * q)).1 = q.num * q.num := by rw [← e]
  have e2 : (pr (q * q)).2 = (q.den : Int) * q.den := by rw [← e]
  have a := h.a
  have b := h.b
  rw [e1, Int.natAbs_mul] at a
  rw [e2, Int.natAbs_mul] at b
  have key : ∀ x : Nat, x * x < 2 ^ n → x < 2 ^ n := fun x hx => by
    by_cases c : x = 0
    · rw [c]; exact Nat.two_pow_pos n
    · have : x * 1 ≤ x * x := Nat.mul_le_mul_left _ (by omega)
      omega
  exact ⟨key _ a, key _ b⟩
/-- the told parts of foot + root times k -/
theorem tell_of {I f k : Rat} {m : Nat} {g t : Rat} (R : RootIs I m g t) (mz : m < 2 ^ 644) (hg : SQ 644 g) (ht : SQ 322 t) (hf : SQ 241 f) (hk : SQ 151 k) {n1 n2 a c : Nat} (h1 : SQ n1 (-(f + f))) (h2 : SQ n2 (f * f - I * (k * k))) (h3 : SQ c f) (hw : SQ a (I * (k * k))) (b1 : c ≤ n1 + n2) (b2 : n1 + n2 ≤ 400) (b3 : 4 * (c + a + 1) + 1 ≤ 400) : Tell m (f + g * k) (t * k) := by
  have su : SQ 1300 (f + g * k) := (hf.add (hg.mul hk)).mono (by decide)
  have sv : SQ 1300 (t * k) := (ht.mul hk).mono (by decide)
  rcases R.one with ⟨t0, g0, gg⟩ | ⟨g0, t0, tt, ns⟩
  · have hwk : SQ a (g * k) := sq_half (by
      have : g * k * (g * k) = I * (k * k) := by rw [← gg]; grind
      rw [this]; exact hw)
    have hu := h3.add hwk
    refine ⟨fun v => absurd (by rw [t0]; grind) v, mz, su, sv, c + a + 1 + (c + a + 1) + 1, c + a + 1 + (c + a + 1), (hu.add hu).neg, ?_, hu.mono (by omega), ?_⟩
    · have : (f + g * k) * (f + g * k) - t * k * (t * k) * m = (f + g * k) * (f + g * k) := by rw [t0]; grind
      rw [this]; exact hu.mul hu
    · omega
  · have e : f + g * k = f := by rw [g0]; grind
    rw [e] at su ⊢
    refine ⟨fun _ => ns, mz, su, sv, n1, n2, h1, ?_, h3.mono b1, b2⟩
    have : f * f - t * k * (t * k) * m = f * f - I * (k * k) := by rw [← tt]; grind
    rw [this]; exact h2
theorem tell_of' {I f k : Rat} {m : Nat} {g t : Rat} (R : RootIs I m g t) (mz : m < 2 ^ 644) (hg : SQ 644 g) (ht : SQ 322 t) (hf : SQ 241 f) (hk : SQ 151 k) {n1 n2 a c : Nat} (h1 : SQ n1 (-(f + f))) (h2 : SQ n2 (f * f - I * (k * k))) (h3 : SQ c f) (hw : SQ a (I * (k * k))) (b1 : c ≤ n1 + n2) (b2 : n1 + n2 ≤ 400) (b3 : 4 * (c + a + 1) + 1 ≤ 400) : Tell m (f - g * k) (-(t * k)) := by
  have e : -k * -k = k * k := by grind
  have := tell_of (k := -k) R mz hg ht hf hk.neg h1 (by rw [e]; exact h2) h3 (by rw [e]; exact hw) b1 b2 b3
  rw [show f + g * -k = f - g * k by grind, show t * -k = -(t * k) by grind] at this
  exact this
end K20


set_option linter.all false
set_option autoImplicit false
set_option Elab.async false
set_option maxRecDepth 100000
set_option maxHeartbeats 4000000
/-! the plain law of k20: a line against a circle -/
namespace K20
open PySem DL
theorem pg_of {n : Nat} {q : Rat} (h : SQ n q) (hn : n ≤ 19) : Pg q := by
  have k := h.mono hn
  have a : q.num.natAbs < 2 ^ 19 := k.a
  have b : ((q.den : Int)).natAbs < 2 ^ 19 := k.b
  exact ⟨by omega, by omega⟩
theorem pt_of {n : Nat} {p : Rat × Rat} (h : PS n p) (hn : n ≤ 19) : Pt p := ⟨pg_of h.x hn, pg_of h.y hn⟩
/-- a turn of the draw -/
structure Tr (c s : Rat) : Prop where
  cc : SQ 4 c
  ss : SQ 4 s
  one : c * c + s * s = 1
/-- the point of the line, part along from the foot -/
def onL (c s far p : Rat) : Rat × Rat := (c * far + -s * p, s * far + c * p)
theorem onL_ps {c s far p : Rat} (T : Tr c s) (hf : SQ 3 far) (hp : SQ 3 p) : PS 15 (onL c s far p) := ⟨(T.cc.mul hf).add (T.ss.neg.mul hp), (T.ss.mul hf).add (T.cc.mul hp)⟩
theorem onL_ne {c s far p q : Rat} (T : Tr c s) (h : p ≠ q) : onL c s far p ≠ onL c s far q := fun e => by
  have one := T.one
  have e1 := congrArg Prod.fst e
  have e2 := congrArg Prod.snd e
  unfold onL at e1 e2
  simp only at e1 e2
  clear T
  apply h
  have : p - q = (p - q) * (c * c + s * s) := by rw [one]; grind
  grind
theorem e_through {c s far p q : Rat} (T : Tr c s) (hf : SQ 3 far) (hp : SQ 3 p) (hq : SQ 3 q) (S : Sto) : f_line_through [PQ (onL c s far p), PQ (onL c s far q)] S = .ok (.tup [FQ ((p - q) * c), FQ ((p - q) * s), FQ (-((p - q) * far))]) S := by
  have l := e_line_through (onL_ps T hf hp) (onL_ps T hf hq) (by decide) (by decide) S
  have one := T.one
  rw [show (onL c s far p).2 - (onL c s far q).2 = (p - q) * c by unfold onL; grind, show (onL c s far q).1 - (onL c s far p).1 = (p - q) * s by unfold onL; grind] at l
  rw [show -((p - q) * c * (onL c s far p).1 + (p - q) * s * (onL c s far p).2) = -((p - q) * far) by
    unfold onL
    have : (p - q) * c * (c * far + -s * p) + (p - q) * s * (s * far + c * p) = (p - q) * far * (c * c + s * s) := by grind
    simp only
    rw [this, one]; grind] at l
  exact l
/-- a line at the distance far against a circle whose square is x more than far's -/
theorem e_meets {c s far p q x : Rat} (T : Tr c s) (hf : SQ 3 far) (hp : SQ 3 p) (hq : SQ 3 q) (hn : p ≠ q) (hx : SQ 10 x) (h0 : 0 ≤ far * far + x) (S : Sto) :
    (x < 0 → f_line_meets_circle [PQ (onL c s far p), PQ (onL c s far q), FQ (far * far + x)] S = .ok (.tup []) S) ∧
    (x = 0 → f_line_meets_circle [PQ (onL c s far p), PQ (onL c s far q), FQ (far * far + x)] S = .ok (.tup [PQ (c * far, s * far)]) S) ∧
    (0 < x → ∃ (m : Nat) (g t : Rat), RootIs (x * ((p - q) * (p - q))) m g t ∧ ∃ l1 l2 l3 l4 : List Int, SpotN m (c * far + g * (-s / (p - q))) (t * (-s / (p - q))) l1 ∧ SpotN m (s * far + g * (c / (p - q))) (t * (c / (p - q))) l2 ∧ SpotN m (c * far - g * (-s / (p - q))) (-(t * (-s / (p - q)))) l3 ∧ SpotN m (s * far - g * (c / (p - q))) (-(t * (c / (p - q)))) l4 ∧
      f_line_meets_circle [PQ (onL c s far p), PQ (onL c s far q), FQ (far * far + x)] S = .ok (.tup [.tup [IT l1, IT l2], .tup [IT l3, IT l4]]) S) := by
  have one := T.one
  have dn : p - q ≠ 0 := fun e => hn (by grind)
  have k1 := fun S => e_look_at_point (pt_of (onL_ps T hf hp) (by decide)).x (pt_of (onL_ps T hf hp) (by decide)).y S
  have k2 := fun S => e_look_at_point (pt_of (onL_ps T hf hq) (by decide)).x (pt_of (onL_ps T hf hq) (by decide)).y S
  have ne := onL_ne (far := far) T hn
  have hs : SQ 17 (far * far + x) := (hf.mul hf).add hx
  have lk := fun S => e_look_at_square (pg_of hs (by decide)) h0 S
  have th := fun S => e_through T hf hp hq S
  obtain ⟨d, hd⟩ : ∃ d, p - q = d := ⟨_, rfl⟩
  have hds : SQ 7 d := by rw [← hd]; exact hp.sub hq
  rw [hd] at dn ⊢
  simp only [hd] at th
  have NN : d * c * (d * c) + d * s * (d * s) = d * d := by
    have : d * c * (d * c) + d * s * (d * s) = d * d * (c * c + s * s) := by grind
    rw [this, one]; grind
  have ddn : d * d ≠ 0 := fun e => by
    rcases Rat.mul_eq_zero.mp e with w | w <;> exact dn w
  obtain ⟨r1, r2, r3⟩ := e_on_line (hds.mul T.cc) (hds.mul T.ss) (hds.mul hf).neg hs (by rw [NN]; exact ddn) (by decide) (by decide) (by decide) (by decide) S
  rw [NN] at r1 r2 r3
  have II : (far * far + x) * (d * d) - -(d * far) * -(d * far) = x * (d * d) := by grind
  rw [II] at r1 r2 r3
  have F1 : d * c * -(-(d * far)) / (d * d) = c * far := by grind
  have F2 : d * s * -(-(d * far)) / (d * d) = s * far := by grind
  have K1 : -(d * s) / (d * d) = -s / d := by grind
  have K2 : d * c / (d * d) = c / d := by grind
  rw [F1, F2] at r2
  rw [F1, F2, K1, K2] at r3
  have dpos : 0 < d * d := by
    rcases Rat.le_total (a := 0) (b := d) with w | w
    · have := Rat.lt_of_le_of_ne w (fun e => dn e.symm)
      exact Rat.mul_pos this this
    · have := Rat.lt_of_le_of_ne w dn
      have y : 0 < -d := by grind
      have := Rat.mul_pos y y
      rw [show -d * -d = d * d by grind] at this
      exact this
  refine ⟨fun c0 => ?_, fun c0 => ?_, fun c0 => ?_⟩
  · have neg : x * (d * d) < 0 := by
      have : 0 < -x := by grind
      have := Rat.mul_pos this dpos
      grind
    have l := r1 neg
    simp [f_line_meets_circle, mkFn, m_line_meets_circle, DL.start, k1, k2, dEqP, ne, lk, th, l, compL, fTuple, items]
  · have z : x * (d * d) = 0 := by rw [c0]; grind
    have l := r2 z
    have tv := e_told_vec0 (c * far) (s * far) S
    simp [f_line_meets_circle, mkFn, m_line_meets_circle, DL.start, k1, k2, dEqP, ne, lk, th, l, compL, wipeE, tv, fTuple, items]
  · obtain ⟨m, g, t, R, mz, hg, ht, l⟩ := r3 (Rat.mul_pos c0 dpos)
    have i1 : x * (d * d) * (-s / d * (-s / d)) = x * (s * s) := by grind
    have i2 : x * (d * d) * (c / d * (c / d)) = x * (c * c) := by grind
    have w1 : SQ 18 (x * (s * s)) := hx.mul (T.ss.mul T.ss)
    have w2 : SQ 18 (x * (c * c)) := hx.mul (T.cc.mul T.cc)
    have f1 : SQ 7 (c * far) := T.cc.mul hf
    have f2 : SQ 7 (s * far) := T.ss.mul hf
    have kk1 : SQ 151 (-s / d) := (T.ss.neg.div hds dn).mono (by decide)
    have kk2 : SQ 151 (c / d) := (T.cc.div hds dn).mono (by decide)
    have T1 := tell_of R mz hg ht (f1.mono (by decide)) kk1 (f1.add f1).neg (by rw [i1]; exact (f1.mul f1).sub w1) f1 (by rw [i1]; exact w1) (by decide) (by decide) (by decide)
    have T2 := tell_of R mz hg ht (f2.mono (by decide)) kk2 (f2.add f2).neg (by rw [i2]; exact (f2.mul f2).sub w2) f2 (by rw [i2]; exact w2) (by decide) (by decide) (by decide)
    have T3 := tell_of' R mz hg ht (f1.mono (by decide)) kk1 (f1.add f1).neg (by rw [i1]; exact (f1.mul f1).sub w1) f1 (by rw [i1]; exact w1) (by decide) (by decide) (by decide)
    have T4 := tell_of' R mz hg ht (f2.mono (by decide)) kk2 (f2.add f2).neg (by rw [i2]; exact (f2.mul f2).sub w2) f2 (by rw [i2]; exact w2) (by decide) (by decide) (by decide)
    obtain ⟨l1, l2, tv1, s1, s2⟩ := e_told_vector T1 T2 S
    obtain ⟨l3, l4, tv2, s3, s4⟩ := e_told_vector T3 T4 S
    refine ⟨m, g, t, R, l1, l2, l3, l4, s1, s2, s3, s4, ?_⟩
    simp [f_line_meets_circle, mkFn, m_line_meets_circle, DL.start, k1, k2, dEqP, ne, lk, th, l, compL, wipeE, tv1, tv2, fTuple, items]
end K20


set_option linter.all false
set_option autoImplicit false
set_option Elab.async false
set_option maxRecDepth 100000
set_option maxHeartbeats 4000000
/-! the plain law of k20: two circles -/
namespace K20
open PySem DL
theorem pos_sq {d : Rat} (dn : d ≠ 0) : 0 < d * d := by
  rcases Rat.le_total (a := 0) (b := d) with w | w
  · have := Rat.lt_of_le_of_ne w (fun e => dn e.symm)
    exact Rat.mul_pos this this
  · have := Rat.lt_of_le_of_ne w dn
    have y : 0 < -d := by grind
    have := Rat.mul_pos y y
    rw [show -d * -d = d * d by grind] at this
    exact this
theorem sq_ge (d : Rat) : 0 ≤ d * d := by
  by_cases h : d = 0
  · rw [h, Rat.mul_zero]; exact Rat.le_refl
  · exact Rat.le_of_lt (pos_sq h)
theorem sqI {i : Int} {n : Nat} (h : i.natAbs < 2 ^ n) (hn : 0 < n) : SQ n (i : Rat) := SQ.int h hn
theorem e_circles {c s f e y : Rat} (T : Tr c s) (hf : SQ 2 f) (he : SQ 2 e) (hn : f + e ≠ 0) (hy : SQ 10 y) (h0 : 0 ≤ e * e + y) (S : Sto) :
    (y * (4 * f * (f + e) - y) < 0 → f_circles_meet [FQ (f * f), PQ (c * (f + e), s * (f + e)), FQ (e * e + y)] S = .ok (.tup []) S) ∧
    (y = 0 → f_circles_meet [FQ (f * f), PQ (c * (f + e), s * (f + e)), FQ (e * e + y)] S = .ok (.tup [PQ (c * f, s * f)]) S) ∧
    (0 < y * (4 * f * (f + e) - y) → ∃ (m : Nat) (g t : Rat), RootIs (y * (4 * f * (f + e) - y)) m g t ∧ ∃ l1 l2 l3 l4 : List Int,
      SpotN m (c * (f - y / (f + e + (f + e))) + g * (-s / (f + e + (f + e)))) (t * (-s / (f + e + (f + e)))) l1 ∧ SpotN m (s * (f - y / (f + e + (f + e))) + g * (c / (f + e + (f + e)))) (t * (c / (f + e + (f + e)))) l2 ∧
      SpotN m (c * (f - y / (f + e + (f + e))) - g * (-s / (f + e + (f + e)))) (-(t * (-s / (f + e + (f + e))))) l3 ∧ SpotN m (s * (f - y / (f + e + (f + e))) - g * (c / (f + e + (f + e)))) (-(t * (c / (f + e + (f + e))))) l4 ∧
      f_circles_meet [FQ (f * f), PQ (c * (f + e), s * (f + e)), FQ (e * e + y)] S = .ok (.tup [.tup [IT l1, IT l2], .tup [IT l3, IT l4]]) S) := by
  have one := T.one
  have hfar : SQ 5 (f + e) := hf.add he
  have ha : SQ 9 (c * (f + e)) := T.cc.mul hfar
  have hb : SQ 9 (s * (f + e)) := T.ss.mul hfar
  have hsq : SQ 4 (f * f) := hf.mul hf
  have hits : SQ 15 (e * e + y) := (he.mul he).add hy
  have k1 := fun S => e_look_at_square (pg_of hsq (by decide)) (sq_ge f) S
  have k2 := fun S => e_look_at_point (p := (c * (f + e), s * (f + e))) (pg_of ha (by decide)) (pg_of hb (by decide)) S
  have k3 := fun S => e_look_at_square (pg_of hits (by decide)) h0 S
  have so := fun S => e_square_of (p := (c * (f + e), s * (f + e))) ⟨ha, hb⟩ (by decide) S
  have p0 := fun S => e_plusQ hsq ((ha.mul ha).add (hb.mul hb)) S (by decide) (by decide)
  have l0 := fun S => e_lessQ hits (hsq.add ((ha.mul ha).add (hb.mul hb))) S (by decide) (by decide)
  have p1 := fun S => e_plusQ ha ha S (by decide) (by decide)
  have p2 := fun S => e_plusQ hb hb S (by decide) (by decide)
  have hA := ha.add ha
  have hB := hb.add hb
  have hC := hits.sub (hsq.add ((ha.mul ha).add (hb.mul hb)))
  have C0 : e * e + y - (f * f + (c * (f + e) * (c * (f + e)) + s * (f + e) * (s * (f + e)))) = y - 2 * f * (f + e) := by
    have : c * (f + e) * (c * (f + e)) + s * (f + e) * (s * (f + e)) = (f + e) * (f + e) * (c * c + s * s) := by grind
    rw [this, one]; grind
  rw [C0] at hC
  simp only [C0] at l0
  obtain ⟨w, hw⟩ : ∃ w, f + e = w := ⟨_, rfl⟩
  rw [hw] at hn ha hb hA hB hC hfar ⊢
  simp only [hw] at k2 so p0 l0 p1 p2
  have wwn : w + w ≠ 0 := fun z => hn (by grind)
  have NN : (c * w + c * w) * (c * w + c * w) + (s * w + s * w) * (s * w + s * w) = (w + w) * (w + w) := by
    have : (c * w + c * w) * (c * w + c * w) + (s * w + s * w) * (s * w + s * w) = (w + w) * (w + w) * (c * c + s * s) := by grind
    rw [this, one]; grind
  have nn := pos_sq wwn
  have nne : (w + w) * (w + w) ≠ 0 := fun z => by rw [z] at nn; exact Rat.lt_irrefl nn
  obtain ⟨r1, r2, r3⟩ := e_on_line hA hB hC hsq (by rw [NN]; exact nne) (by decide) (by decide) (by decide) (by decide) S
  rw [NN] at r1 r2 r3
  have II : f * f * ((w + w) * (w + w)) - (y - 2 * f * w) * (y - 2 * f * w) = y * (4 * f * w - y) := by grind
  rw [II] at r1 r2 r3
  have F1 : (c * w + c * w) * -(y - 2 * f * w) / ((w + w) * (w + w)) = c * (f - y / (w + w)) := by grind
  have F2 : (s * w + s * w) * -(y - 2 * f * w) / ((w + w) * (w + w)) = s * (f - y / (w + w)) := by grind
  have K1 : -(s * w + s * w) / ((w + w) * (w + w)) = -s / (w + w) := by grind
  have K2 : (c * w + c * w) / ((w + w) * (w + w)) = c / (w + w) := by grind
  rw [F1, F2] at r2
  rw [F1, F2, K1, K2] at r3
  have nw : k_NOWHERE = PQ (0, 0) := rfl
  have pn : ¬ ((c * w, s * w) = ((0 : Rat), (0 : Rat))) := fun z => by
    have e1 := congrArg Prod.fst z
    have e2 := congrArg Prod.snd z
    simp only at e1 e2
    apply hn
    have : w = w * (c * c + s * s) := by rw [one]; grind
    clear T
    grind
  have oc : ∀ d, f_on_line [.tup [FQ (c * w + c * w), FQ (s * w + s * w), FQ (y - 2 * f * w)], FQ (f * f)] S = .ok d S → f_on_circles [FQ (f * f), PQ (c * w, s * w), FQ (e * e + y)] S = .ok d S := fun d hd => by
    simp [f_on_circles, mkFn, m_on_circles, DL.start, so, p0, l0, ixP_0, ixP_1, p1, p2, hd]
  have ne4 : ∀ S, dEq (PQ (c * w, s * w)) (PQ (0, 0)) S = .ok (.bl false) S := fun S => by rw [dEqP, decide_eq_false pn]
  refine ⟨fun c0 => ?_, fun c0 => ?_, fun c0 => ?_⟩
  · have l := oc _ (r1 c0)
    simp [f_circles_meet, mkFn, m_circles_meet, q_circles_meet_4, q_circles_meet_5, DL.start, k1, k2, k3, nw, ne4, l, compL, fTuple, items]
  · have z : y * (4 * f * w - y) = 0 := by rw [c0]; grind
    have l := oc _ (r2 z)
    rw [show f - y / (w + w) = f by rw [c0]; grind] at l
    have tv := e_told_vec0 (c * f) (s * f) S
    simp [f_circles_meet, mkFn, m_circles_meet, q_circles_meet_4, q_circles_meet_5, DL.start, k1, k2, k3, nw, ne4, l, compL, wipeE, tv, fTuple, items]
  · obtain ⟨m, g, t, R, mz, hg, ht, l⟩ := r3 c0
    have l := oc _ l
    have hww : SQ 11 (w + w) := hfar.add hfar
    have i1 : y * (4 * f * w - y) * (-s / (w + w) * (-s / (w + w))) = y * (4 * f * w - y) * (s * s) / ((w + w) * (w + w)) := by grind
    have i2 : y * (4 * f * w - y) * (c / (w + w) * (c / (w + w))) = y * (4 * f * w - y) * (c * c) / ((w + w) * (w + w)) := by grind
    have s4 : SQ 3 (4 : Rat) := sqI (i := 4) (by decide) (by decide)
    have hI : SQ 31 (y * (4 * f * w - y)) := hy.mul (((s4.mul hf).mul hfar).sub hy)
    have w1 : SQ 61 (y * (4 * f * w - y) * (s * s) / ((w + w) * (w + w))) := (hI.mul (T.ss.mul T.ss)).div (hww.mul hww) nne
    have w2 : SQ 61 (y * (4 * f * w - y) * (c * c) / ((w + w) * (w + w))) := (hI.mul (T.cc.mul T.cc)).div (hww.mul hww) nne
    have hq : SQ 24 (f - y / (w + w)) := hf.sub (hy.div hww wwn)
    have f1 : SQ 28 (c * (f - y / (w + w))) := T.cc.mul hq
    have f2 : SQ 28 (s * (f - y / (w + w))) := T.ss.mul hq
    have kk1 : SQ 151 (-s / (w + w)) := (T.ss.neg.div hww wwn).mono (by decide)
    have kk2 : SQ 151 (c / (w + w)) := (T.cc.div hww wwn).mono (by decide)
    have T1 := tell_of R mz hg ht (f1.mono (by decide)) kk1 (f1.add f1).neg (by rw [i1]; exact (f1.mul f1).sub w1) f1 (by rw [i1]; exact w1) (by decide) (by decide) (by decide)
    have T2 := tell_of R mz hg ht (f2.mono (by decide)) kk2 (f2.add f2).neg (by rw [i2]; exact (f2.mul f2).sub w2) f2 (by rw [i2]; exact w2) (by decide) (by decide) (by decide)
    have T3 := tell_of' R mz hg ht (f1.mono (by decide)) kk1 (f1.add f1).neg (by rw [i1]; exact (f1.mul f1).sub w1) f1 (by rw [i1]; exact w1) (by decide) (by decide) (by decide)
    have T4 := tell_of' R mz hg ht (f2.mono (by decide)) kk2 (f2.add f2).neg (by rw [i2]; exact (f2.mul f2).sub w2) f2 (by rw [i2]; exact w2) (by decide) (by decide) (by decide)
    obtain ⟨l1, l2, tv1, s1, s2⟩ := e_told_vector T1 T2 S
    obtain ⟨l3, l4, tv2, s3, s4'⟩ := e_told_vector T3 T4 S
    refine ⟨m, g, t, R, l1, l2, l3, l4, s1, s2, s3, s4', ?_⟩
    simp [f_circles_meet, mkFn, m_circles_meet, q_circles_meet_4, q_circles_meet_5, DL.start, k1, k2, k3, nw, ne4, l, compL, wipeE, tv1, tv2, fTuple, items]
end K20


set_option linter.all false
set_option autoImplicit false
set_option Elab.async false
set_option maxRecDepth 100000
set_option maxHeartbeats 4000000
/-! the plain law of k20: draws -/
namespace K20
open PySem DL
theorem e62' : (2 : Int) ^ 62 = 4611686018427387904 := by decide +kernel
/-- a drawn part: a over b -/
structure Part (q : Rat) : Prop where
  ex : ∃ a b : Int, q = (a : Rat) / (b : Rat) ∧ -3 ≤ a ∧ a ≤ 3 ∧ 1 ≤ b ∧ b ≤ 4
theorem Part.sq {q : Rat} (h : Part q) : SQ 3 q := by
  obtain ⟨a, b, e, a1, a2, b1, b2⟩ := h.ex
  rw [e]
  exact sq_of (by omega) (by omega) (by omega)
/-- a drawn length -/
structure Len (q : Rat) (M : Int) : Prop where
  ex : ∃ a b : Int, q = (a : Rat) / (b : Rat) ∧ 1 ≤ a ∧ a ≤ M ∧ 1 ≤ b ∧ b ≤ 3
theorem Len.sq3 {q : Rat} (h : Len q 4) : SQ 3 q := by
  obtain ⟨a, b, e, a1, a2, b1, b2⟩ := h.ex
  rw [e]
  exact sq_of (by omega) (by omega) (by omega)
theorem Len.sq2 {q : Rat} (h : Len q 3) : SQ 2 q := by
  obtain ⟨a, b, e, a1, a2, b1, b2⟩ := h.ex
  rw [e]
  exact sq_of (by omega) (by omega) (by omega)
theorem div_pos {a b : Int} (ha : 0 < a) (hb : 0 < b) : 0 < (a : Rat) / (b : Rat) := by
  rw [Rat.div_def]
  exact Rat.mul_pos (Rat.intCast_pos.mpr ha) (Rat.inv_pos.mpr (Rat.intCast_pos.mpr hb))
theorem Len.pos {q : Rat} {M : Int} (h : Len q M) : 0 < q := by
  obtain ⟨a, b, e, a1, a2, b1, b2⟩ := h.ex
  rw [e]
  exact div_pos (by omega) (by omega)
theorem e_law_part {S : Sto} {n : Nat} {k : Int} (P : PotAt S n k) (hk : k < 900) : ∃ q S', f_law_part [.loc n, .int 3] S = .ok (FQ q) S' ∧ Part q ∧ PotAt S' n (k + 3) ∧ S'.length = S.length ∧ ∀ m l, m ≠ n → S[m]? = some l → S'[m]? = some l := by
  obtain ⟨d1, S1, t1, a1, b1, P1, L1⟩ := e_take (u := 7) P (by omega) (by omega) (by rw [e62']; omega)
  obtain ⟨x, S2, hx, t2, P2, L2⟩ := e_of P1 (by omega) [.int 1, .int 1, .int 2, .int 4] (by simp) (by simp)
  obtain ⟨w, rfl, w1, w2⟩ : ∃ w : Int, x = .int w ∧ 1 ≤ w ∧ w ≤ 4 := by
    simp only [List.mem_cons, List.not_mem_nil, or_false] at hx
    rcases hx with r | r | r | r <;> exact ⟨_, r, by decide, by decide⟩
  obtain ⟨d3, S3, t3, a3, b3, P3, L3⟩ := e_take (u := w) P2 (by omega) (by omega) (by rw [e62']; omega)
  have m2 : mulOk 2 3 = true := m40 (by decide) (by decide)
  have r := fun S => e_law_rateQ (t := d1 - 3) (b := 1 + d3) (by omega) (lt_of40 (by omega) (by decide)) S
  refine ⟨_, S3, ?_, ⟨d1 - 3, 1 + d3, rfl, by omega, by omega, by omega, by omega⟩, P3.mono (by omega), by omega, fun m l hm h => ?_⟩
  · simp [f_law_part, mkFn, m_law_part, DL.start, d_mul m2, t1, t2, t3, r]
  · have k1 := take_keeps P (by omega) (by omega) (by rw [e62']; omega) t1 h hm
    have k2 := of_keeps P1 (by omega) [.int 1, .int 1, .int 2, .int 4] (by simp) (by simp) t2 k1 hm
    exact take_keeps P2 (by omega) (by omega) (by rw [e62']; omega) t3 k2 hm
theorem e_law_length {S : Sto} {n : Nat} {k M : Int} (P : PotAt S n k) (hk : k < 900) (M1 : 1 ≤ M) (M2 : M ≤ 4) : ∃ q S', f_law_length [.loc n, .int M] S = .ok (FQ q) S' ∧ Len q M ∧ PotAt S' n (k + 3) ∧ S'.length = S.length := by
  obtain ⟨d1, S1, t1, a1, b1, P1, L1⟩ := e_take (u := M) P (by omega) (by omega) (by rw [e62']; omega)
  obtain ⟨x, S2, hx, t2, P2, L2⟩ := e_of P1 (by omega) [.int 1, .int 1, .int 2, .int 3] (by simp) (by simp)
  obtain ⟨w, rfl, w1, w2⟩ : ∃ w : Int, x = .int w ∧ 1 ≤ w ∧ w ≤ 3 := by
    simp only [List.mem_cons, List.not_mem_nil, or_false] at hx
    rcases hx with r | r | r | r <;> exact ⟨_, r, by decide, by decide⟩
  obtain ⟨d3, S3, t3, a3, b3, P3, L3⟩ := e_take (u := w) P2 (by omega) (by omega) (by rw [e62']; omega)
  have r := fun S => e_law_rateQ (t := 1 + d1) (b := 1 + d3) (by omega) (lt_of40 (by omega) (by decide)) S
  refine ⟨_, S3, ?_, ⟨1 + d1, 1 + d3, rfl, by omega, by omega, by omega, by omega⟩, P3.mono (by omega), by omega⟩
  simp [f_law_length, mkFn, m_law_length, DL.start, t1, t2, t3, r]
theorem e_law_point {S : Sto} {n : Nat} {k : Int} (P : PotAt S n k) (hk : k < 890) : ∃ p S', f_law_point [.loc n, .int 3] S = .ok (PQ p) S' ∧ Part p.1 ∧ Part p.2 ∧ PotAt S' n (k + 6) ∧ S'.length = S.length := by
  obtain ⟨x, S1, t1, h1, P1, L1, _⟩ := e_law_part P (by omega)
  obtain ⟨y, S2, t2, h2, P2, L2, _⟩ := e_law_part P1 (by omega)
  refine ⟨(x, y), S2, ?_, h1, h2, P2.mono (by omega), by omega⟩
  simp [f_law_point, mkFn, m_law_point, DL.start, t1, t2, PQ]
theorem e_turnQ (t b : Int) (h : t.natAbs ≤ 3) (h2 : b.natAbs ≤ 3) (n0 : 0 < t * t + b * b) (n1 : t * t + b * b < 16) (n2 : (b * b - t * t).natAbs < 16) (n3 : (2 * t * b).natAbs < 16) : ∃ c s : Rat, Tr c s ∧ ∀ S, f_law_turn_of [.tup [.int t, .int b]] S = .ok (PQ (c, s)) S := by
  have m1 : mulOk b b = true := m40 (by omega) (by omega)
  have m2 : mulOk t t = true := m40 (by omega) (by omega)
  have m3 : mulOk 2 t = true := m40 (by decide) (by omega)
  have m4 : mulOk (2 * t) b = true := m40 (by omega) (by omega)
  have r1 := fun S => e_law_rateQ (t := b * b - t * t) (b := t * t + b * b) (by omega) (lt_of40 (by omega) (by decide)) S
  have r2 := fun S => e_law_rateQ (t := 2 * t * b) (b := t * t + b * b) (by omega) (lt_of40 (by omega) (by decide)) S
  refine ⟨_, _, ⟨sq_of (t := b * b - t * t) (b := t * t + b * b) (by omega) (by omega) (by omega), sq_of (t := 2 * t * b) (b := t * t + b * b) (by omega) (by omega) (by omega), ?_⟩, fun S => by
    simp [f_law_turn_of, mkFn, m_law_turn_of, DL.start, d_mul m1, d_mul m2, d_mul m3, d_mul m4, r1, r2, PQ]⟩
  have z : ((t * t + b * b : Int) : Rat) ≠ 0 := castI_ne (by omega)
  rw [Rat.intCast_add, Rat.intCast_mul, Rat.intCast_mul] at z
  rw [Rat.intCast_add, Rat.intCast_sub, Rat.intCast_mul, Rat.intCast_mul, Rat.intCast_mul, Rat.intCast_mul, show ((2 : Int) : Rat) = 2 from rfl]
  generalize (t : Rat) = x at *
  generalize (b : Rat) = y at *
  clear r1 r2 m1 m2 m3 m4
  grind
theorem e_small_turn {S : Sto} {n : Nat} {k : Int} (P : PotAt S n k) (hk : k < 900) : ∃ c s S', f_law_small_turn [.loc n] S = .ok (PQ (c, s)) S' ∧ Tr c s ∧ PotAt S' n (k + 1) ∧ S'.length = S.length := by
  obtain ⟨x, S1, hx, t1, P1, L1⟩ := e_of P (by omega) [.tup [.int 0, .int 1], .tup [.int 1, .int 1], .tup [.int (-1), .int 1], .tup [.int 1, .int 2], .tup [.int (-1), .int 2], .tup [.int 2, .int 1], .tup [.int 1, .int 3], .tup [.int (-3), .int 1], .tup [.int (-2), .int 1]] (by simp) (by simp)
  have ex : ∃ c s : Rat, Tr c s ∧ ∀ S, f_law_turn_of [x] S = .ok (PQ (c, s)) S := by
    simp only [List.mem_cons, List.not_mem_nil, or_false] at hx
    rcases hx with r | r | r | r | r | r | r | r | r <;> rw [r] <;> exact e_turnQ _ _ (by decide) (by decide) (by decide) (by decide) (by decide) (by decide)
  obtain ⟨c, s, T, h⟩ := ex
  refine ⟨c, s, S1, ?_, T, P1, L1⟩
  simp [f_law_small_turn, mkFn, m_law_small_turn, DL.start, t1, h]
/-- a hair -/
structure Hair (h : Rat) : Prop where
  ex : ∃ k : Int, h = ((1 : Int) : Rat) / (k : Rat) ∧ 50 ≤ k ∧ k ≤ 1000
theorem Hair.sq {h : Rat} (H : Hair h) : SQ 10 h := by
  obtain ⟨k, e, a, b⟩ := H.ex
  rw [e]
  exact sq_of (by omega) (by decide) (by omega)
theorem Hair.pos {h : Rat} (H : Hair h) : 0 < h := by
  obtain ⟨k, e, a, b⟩ := H.ex
  rw [e]
  exact div_pos (by omega) (by omega)
theorem hairF (k : Int) (h : 0 < k) : D.tup [.int 1, .int k] = FQ (((1 : Int) : Rat) / (k : Rat)) := F_rat (x := (1, k)) ⟨h, by show Int.gcd 1 k = 1; exact Int.one_gcd⟩
end K20


set_option linter.all false
set_option autoImplicit false
set_option Elab.async false
set_option maxRecDepth 100000
set_option maxHeartbeats 4000000
/-! the plain law of k20: what is told, compared -/
namespace K20
open PySem DL
theorem pdL_ints : ∀ l : List Int, D.pdL (l.map D.int) = some (l.map PyData.int)
  | [] => rfl
  | i :: l => by simp [D.pdL, D.pd, pdL_ints l]
theorem lay_ints : ∀ l : List Int, PyData.canLayAll0 (l.map PyData.int) = true
  | [] => rfl
  | i :: l => by simp [PyData.canLayAll0, PyData.canLay0, lay_ints l]
theorem depth_ints : ∀ l : List Int, PyData.depthAll (l.map PyData.int) ≤ 1
  | [] => by simp [PyData.depthAll]
  | i :: l => by have := depth_ints l; simp [PyData.depthAll, PyData.depth]; omega
theorem eqv_ints : ∀ a b : List Int, PyData.eqvAll (a.map PyData.int) (b.map PyData.int) = decide (a = b)
  | [], [] => rfl
  | [], _ :: _ => rfl
  | _ :: _, [] => rfl
  | x :: a, y :: b => by
    have h := eqv_ints a b
    by_cases c : x = y <;> simp [PyData.eqvAll, PyData.eqv, h, c]
theorem dEqIT {a b c d : List Int} (h : ¬ (a = c ∧ b = d)) (S : Sto) : dEq (.tup [IT a, IT b]) (.tup [IT c, IT d]) S = .ok (.bl false) S := by
  have da := depth_ints a; have db := depth_ints b; have dc := depth_ints c; have dd := depth_ints d
  have e : eqD (.tup [IT a, IT b]) (.tup [IT c, IT d]) = some false := by
    unfold eqD IT
    simp [D.pd, D.pdL, pdL_ints, SeqAt.shaped, PyData.canLay0, PyData.canLayAll0, lay_ints, PyData.depth, PyData.depthAll, PyData.eqv, PyData.eqvAll, eqv_ints]
    refine ⟨⟨by omega, by omega⟩, ?_⟩
    intro h1 h2
    exact h ⟨h1, h2⟩
  unfold dEq
  rw [e]
/-- told spots of other parts are other data -/
theorem spot_ne {m : Nat} {U V U2 V2 : Rat} {a b : List Int} (h : SpotN m U V a) (k : SpotN m U2 V2 b) (e : a = b) : U = U2 ∧ V = V2 := by
  subst e
  obtain ⟨x, ex, vx, _⟩ := h.el
  obtain ⟨y, ey, vy, _⟩ := k.el
  have : LD x = LD y := by
    have := (ex []).symm.trans (ey [])
    injection this
  unfold LD at this
  have xy : x = y := by
    cases x; cases y
    simp at this
    obtain ⟨h1, h2, h3, h4⟩ := this
    subst h1 h2 h3 h4; rfl
  rw [xy] at vx
  exact vx.uniq vy
theorem rpP {p : Rat × Rat} {n : Nat} (h : PS n p) (hn : n ≤ 1900) : ∃ x : Str, PyData.strOk x = true ∧ ∀ S, fRepr [.tup [PQ p]] S = .ok (.str x) S := by
  have a1 := up_lt h.x.a hn
  have a2 := up_lt h.x.b hn
  have b1 := up_lt h.y.a hn
  have b2 := up_lt h.y.b hn
  have pl : plainP (.tuple [.tuple [.tuple [.int (pr p.1).1, .int (pr p.1).2], .tuple [.int (pr p.2).1, .int (pr p.2).2]]]) = true := by
    simp [plainP, plainPs, a1, a2, b1, b2]
  refine ⟨_, ok_shown _ pl, fun S => repr_eq (by simp [PQ, FQ, F, D.pd, D.pdL]) pl (by simp [PyData.bulk, PyData.bulkAll]) (by simp [PyData.depth, PyData.depthAll]) S⟩
theorem rp0 (S : Sto) : fRepr [.tup []] S = .ok (.str "()") S := by
  have h := repr_eq (x := .tup []) (p := .tuple []) rfl rfl (by decide) (by decide) S
  rw [h]; rfl
theorem ne0 (S : Sto) : dNe (.str "()") (.str "()") S = .ok (.bl false) S := ne_self (okS "()") S
/-- the root's two parts -/
theorem RootIs.parts {q : Rat} {m : Nat} {g t : Rat} (R : RootIs q m g t) : g * t = 0 ∧ g * g + t * t * m = q ∧ ((g = 0 ∧ 0 < t) ∨ (t = 0 ∧ 0 < g)) := by
  rcases R.one with ⟨a, b, c⟩ | ⟨a, b, c, _⟩
  · exact ⟨by rw [a]; grind, by rw [a, ← c]; grind, .inr ⟨a, b⟩⟩
  · exact ⟨by rw [a]; grind, by rw [a, ← c]; grind, .inl ⟨a, b⟩⟩
theorem spot_alg {f1 f2 k1 k2 g t mm x : Rat} (h2 : f1 * k1 + f2 * k2 = 0) (h3 : (g * g + t * t * mm) * (k1 * k1 + k2 * k2) = x) (h4 : g * t = 0) :
    (f1 + g * k1) * (f1 + g * k1) + (f2 + g * k2) * (f2 + g * k2) + (t * k1 * (t * k1) + t * k2 * (t * k2)) * mm = f1 * f1 + f2 * f2 + x ∧ (f1 + g * k1) * (t * k1) + (f2 + g * k2) * (t * k2) = 0 := by
  have a : (f1 + g * k1) * (f1 + g * k1) + (f2 + g * k2) * (f2 + g * k2) + (t * k1 * (t * k1) + t * k2 * (t * k2)) * mm = f1 * f1 + f2 * f2 + 2 * g * (f1 * k1 + f2 * k2) + (g * g + t * t * mm) * (k1 * k1 + k2 * k2) := by clear h2 h3 h4; grind
  have b : (f1 + g * k1) * (t * k1) + (f2 + g * k2) * (t * k2) = t * (f1 * k1 + f2 * k2) + g * t * (k1 * k1 + k2 * k2) := by clear h2 h3 h4 a; grind
  rw [h2, h3] at a
  rw [h2, h4] at b
  refine ⟨by rw [a]; clear h2 h3 h4 a b; grind, by rw [b]; clear h2 h3 h4 a b; grind⟩
theorem e_at {m : Nat} {l1 l2 : List Int} {f1 f2 k1 k2 g t x : Rat} (s1 : SpotN m (f1 + g * k1) (t * k1) l1) (s2 : SpotN m (f2 + g * k2) (t * k2) l2) {k : Nat} {P : Rat × Rat} (hP : PS k P) (hk : k ≤ 400) {sq its : Rat}
    (h2 : f1 * k1 + f2 * k2 = 0) (hp : P.1 * k1 + P.2 * k2 = 0) (h3 : (g * g + t * t * m) * (k1 * k1 + k2 * k2) = x) (h4 : g * t = 0) (e1 : f1 * f1 + f2 * f2 + x = sq) (e2 : (f1 - P.1) * (f1 - P.1) + (f2 - P.2) * (f2 - P.2) + x = its) (S : Sto) :
    f_law_is_at [.tup [IT l1, IT l2], FQ sq, PQ P, FQ its] S = .ok (.bl true) S := by
  obtain ⟨a, b⟩ := spot_alg h2 h3 h4
  obtain ⟨c, d⟩ := spot_alg (f1 := f1 - P.1) (f2 := f2 - P.2) (by
    have : (f1 - P.1) * k1 + (f2 - P.2) * k2 = f1 * k1 + f2 * k2 - (P.1 * k1 + P.2 * k2) := by clear h2 h3 h4 hp e1 e2 a b; grind
    rw [this, h2, hp]; decide +kernel) h3 h4
  have u1 : f1 - P.1 + g * k1 = f1 + g * k1 - P.1 := by clear h2 h3 h4 hp e1 e2 a b c d; grind
  have u2 : f2 - P.2 + g * k2 = f2 + g * k2 - P.2 := by clear h2 h3 h4 hp e1 e2 a b c d; grind
  rw [u1, u2] at c d
  exact e_law_is_at s1 s2 hP hk (a.trans e1) b (c.trans e2) d S
theorem e_at' {m : Nat} {l1 l2 : List Int} {f1 f2 k1 k2 g t x : Rat} (s1 : SpotN m (f1 - g * k1) (-(t * k1)) l1) (s2 : SpotN m (f2 - g * k2) (-(t * k2)) l2) {k : Nat} {P : Rat × Rat} (hP : PS k P) (hk : k ≤ 400) {sq its : Rat}
    (h2 : f1 * k1 + f2 * k2 = 0) (hp : P.1 * k1 + P.2 * k2 = 0) (h3 : (g * g + t * t * m) * (k1 * k1 + k2 * k2) = x) (h4 : g * t = 0) (e1 : f1 * f1 + f2 * f2 + x = sq) (e2 : (f1 - P.1) * (f1 - P.1) + (f2 - P.2) * (f2 - P.2) + x = its) (S : Sto) :
    f_law_is_at [.tup [IT l1, IT l2], FQ sq, PQ P, FQ its] S = .ok (.bl true) S := by
  have m1 : ∀ f k : Rat, f - g * k = f + g * -k := fun f k => by clear h2 h3 h4 hp e1 e2; grind
  have m2 : ∀ k : Rat, -(t * k) = t * -k := fun k => by clear h2 h3 h4 hp e1 e2; grind
  rw [m1, m2] at s1 s2
  refine e_at s1 s2 hP hk ?_ ?_ ?_ h4 e1 e2 S
  · have : f1 * -k1 + f2 * -k2 = -(f1 * k1 + f2 * k2) := by clear h2 h3 h4 hp e1 e2; grind
    rw [this, h2]; decide +kernel
  · have : P.1 * -k1 + P.2 * -k2 = -(P.1 * k1 + P.2 * k2) := by clear h2 h3 h4 hp e1 e2; grind
    rw [this, hp]; decide +kernel
  · have : -k1 * -k1 + -k2 * -k2 = k1 * k1 + k2 * k2 := by clear h2 h3 h4 hp e1 e2; grind
    rw [this, h3]
end K20


set_option linter.all false
set_option autoImplicit false
set_option Elab.async false
set_option maxRecDepth 100000
set_option maxHeartbeats 4000000
/-! the plain law of k20: the law of lines -/
namespace K20
open PySem DL
def envL (n : Nat) (h c s far : Rat) (o : List (Option D)) : DL.Env := some (.loc n) :: some (FQ h) :: some (PQ (c, s)) :: some (FQ far) :: some (PQ (c * far, s * far)) :: some (PQ (-s, c)) :: o
theorem e_beside_law {n m : Nat} {p q : Rat × Rat} (hp : PS n p) (hq : PS m q) (hn : n ≤ 4400) (hm : m ≤ 4400) (S : Sto) : f_law_beside [PQ p, PQ q] S = .ok (PQ (p.1 - q.1, p.2 - q.2)) S := by
  have a := fun S => e_law_lessQ hp.x hq.x S hn hm
  have b := fun S => e_law_lessQ hp.y hq.y S hn hm
  simp [f_law_beside, mkFn, m_law_beside, DL.start, ixP_0, ixP_1, a, b, PQ]
theorem e_moved_law {n m : Nat} {p q : Rat × Rat} (hp : PS n p) (hq : PS m q) (hn : n ≤ 4400) (hm : m ≤ 4400) (S : Sto) : f_law_moved [PQ p, PQ q] S = .ok (PQ (p.1 + q.1, p.2 + q.2)) S := by
  have a := fun S => e_law_plusQ hp.x hq.x S hn hm
  have b := fun S => e_law_plusQ hp.y hq.y S hn hm
  simp [f_law_moved, mkFn, m_law_moved, DL.start, ixP_0, ixP_1, a, b, PQ]
theorem e_vector_law (p : Rat × Rat) (S : Sto) : f_law_vector [PQ p] S = .ok (.tup [LD ⟨p.1.num, 0, p.1.den, 0⟩, LD ⟨p.2.num, 0, p.2.den, 0⟩]) S := by
  simp [f_law_vector, mkFn, m_law_vector, DL.start, ixP_0, ixP_1, ixQ0, ixQ1, LD]
theorem e_line_tail {n : Nat} {h c s far p q : Rat} (H : Hair h) (T : Tr c s) (hl : Len far 4) (hp : SQ 3 p) (hq : SQ 3 q) (hn : p ≠ q) (o6 o7 o10 o11 o12 o13 o14 o15 : Option D) (S : Sto) :
    (sSeq (q_law_is_line_so_7) (sSeq (q_law_is_line_so_8) (sSeq (q_law_is_line_so_9) (sSeq (q_law_is_line_so_10) (sSeq (q_law_is_line_so_11) (sSeq (q_law_is_line_so_12) (sSeq (q_law_is_line_so_13) (sSeq (q_law_is_line_so_14) (q_law_is_line_so_15))))))))) (envL n h c s far [o6, o7, some (PQ (onL c s far p)), some (PQ (onL c s far q)), o10, o11, o12, o13, o14, o15]) S = .rt (.bl true) S := by
  have hf := hl.sq3
  have hpos := H.pos
  have one := T.one
  have dn : p - q ≠ 0 := fun e => hn (by grind)
  have ff : SQ 6 (far * far) := hf.mul hf
  have tf := fun S => e_law_timesQ hf hf S (by decide) (by decide)
  have g7 : q_law_is_line_so_7 (envL n h c s far [o6, o7, some (PQ (onL c s far p)), some (PQ (onL c s far q)), o10, o11, o12, o13, o14, o15]) S = .nx (envL n h c s far [o6, o7, some (PQ (onL c s far p)), some (PQ (onL c s far q)), some (FQ (far * far)), o11, o12, o13, o14, o15]) S := by
    simp [q_law_is_line_so_7, envL, tf]
  have M0 := (e_meets (x := 0) T hf hp hq hn ⟨by show (0 : Int).natAbs < _; decide, by show (1 : Int).natAbs < _; decide⟩ (by rw [Rat.add_zero]; exact sq_ge far) S).2.1 rfl
  rw [Rat.add_zero] at M0
  obtain ⟨x, xo, rx⟩ := rpP (p := (c * far, s * far)) (n := 7) ⟨T.cc.mul hf, T.ss.mul hf⟩ (by decide)
  have nex := ne_self xo
  have g8 : q_law_is_line_so_8 (envL n h c s far [o6, o7, some (PQ (onL c s far p)), some (PQ (onL c s far q)), some (FQ (far * far)), o11, o12, o13, o14, o15]) S = .nx (envL n h c s far [o6, o7, some (PQ (onL c s far p)), some (PQ (onL c s far q)), some (FQ (far * far)), o11, o12, o13, o14, o15]) S := by
    simp [q_law_is_line_so_8, envL, M0, rx, nex]
  have bl := fun S => e_law_is_belowQ ff H.sq S (by decide) (by decide)
  have lq := fun S => e_law_lessQ ff H.sq S (by decide) (by decide)
  have g9 : q_law_is_line_so_9 (envL n h c s far [o6, o7, some (PQ (onL c s far p)), some (PQ (onL c s far q)), some (FQ (far * far)), o11, o12, o13, o14, o15]) S = .nx (envL n h c s far [o6, o7, some (PQ (onL c s far p)), some (PQ (onL c s far q)), some (FQ (far * far)), o11, o12, o13, o14, o15]) S := by
    by_cases b : far * far < h
    · simp [q_law_is_line_so_9, envL, bl, b, truD]
    · have M1 := (e_meets (x := -h) T hf hp hq hn H.sq.neg (by have := Rat.not_lt.mp b; grind) S).1 (by grind)
      rw [← Rat.sub_eq_add_neg] at M1
      simp [q_law_is_line_so_9, envL, bl, b, truD, lq, M1, rp0, ne0]
  have pq := fun S => e_law_plusQ ff H.sq S (by decide) (by decide)
  obtain ⟨m, g, t, R, l1, l2, l3, l4, s1, s2, s3, s4, M2⟩ := (e_meets (x := h) T hf hp hq hn H.sq (by have := sq_ge far; grind) S).2.2 hpos
  obtain ⟨gt, gg, gp⟩ := RootIs.parts R
  have g10 : q_law_is_line_so_10 (envL n h c s far [o6, o7, some (PQ (onL c s far p)), some (PQ (onL c s far q)), some (FQ (far * far)), o11, o12, o13, o14, o15]) S = .nx (envL n h c s far [o6, o7, some (PQ (onL c s far p)), some (PQ (onL c s far q)), some (FQ (far * far)), some (.tup [.tup [IT l1, IT l2], .tup [IT l3, IT l4]]), o12, o13, o14, o15]) S := by
    simp [q_law_is_line_so_10, envL, pq, M2]
  have fp1 := fun S => e_far_point s1 s2 S
  have fp2 := fun S => e_far_point s3 s4 S
  have g11 : q_law_is_line_so_11 (envL n h c s far [o6, o7, some (PQ (onL c s far p)), some (PQ (onL c s far q)), some (FQ (far * far)), some (.tup [.tup [IT l1, IT l2], .tup [IT l3, IT l4]]), o12, o13, o14, o15]) S = .nx (envL n h c s far [o6, o7, some (PQ (onL c s far p)), some (PQ (onL c s far q)), some (FQ (far * far)), some (.tup [.tup [IT l1, IT l2], .tup [IT l3, IT l4]]), o12, o13, o14, o15]) S := by
    simp [q_law_is_line_so_11, envL, isTupT, truD, dNeI, compL, wipeE, fp1, fp2, dIsB, fAll, bools]
  obtain ⟨d, hd⟩ : ∃ d, p - q = d := ⟨_, rfl⟩
  obtain ⟨k1, hk1⟩ : ∃ k1, -s / (p - q) = k1 := ⟨_, rfl⟩
  obtain ⟨k2, hk2⟩ : ∃ k2, c / (p - q) = k2 := ⟨_, rfl⟩
  have sk1 : k1 * d = -s := by rw [← hk1, hd]; rw [hd] at dn; clear hk1 hk2; grind
  have sk2 : k2 * d = c := by rw [← hk2, hd]; rw [hd] at dn; clear hk1 hk2; grind
  rw [hk1] at s1 s3
  rw [hk2] at s2 s4
  rw [hd] at dn gg
  have fk : c * far * k1 + s * far * k2 = 0 := by
    have : (c * far * k1 + s * far * k2) * d = 0 := by
      have : (c * far * k1 + s * far * k2) * d = c * far * (k1 * d) + s * far * (k2 * d) := by clear sk1 sk2; grind
      rw [this, sk1, sk2]; grind
    rcases Rat.mul_eq_zero.mp this with w | w
    · exact w
    · exact absurd w dn
  have kk : (k1 * k1 + k2 * k2) * (d * d) = 1 := by
    have : (k1 * k1 + k2 * k2) * (d * d) = k1 * d * (k1 * d) + k2 * d * (k2 * d) := by clear sk1 sk2; grind
    rw [this, sk1, sk2, ← one]; grind
  have h3 : (g * g + t * t * m) * (k1 * k1 + k2 * k2) = h := by
    rw [gg]
    have : h * (d * d) * (k1 * k1 + k2 * k2) = h * ((k1 * k1 + k2 * k2) * (d * d)) := by clear sk1 sk2 kk; grind
    rw [this, kk]; grind
  have e1 : c * far * (c * far) + s * far * (s * far) + h = far * far + h := by
    have : c * far * (c * far) + s * far * (s * far) = far * far * (c * c + s * s) := by clear sk1 sk2 kk; grind
    rw [this, one]; grind
  have e2 : (c * far - (c * far, s * far).1) * (c * far - (c * far, s * far).1) + (s * far - (c * far, s * far).2) * (s * far - (c * far, s * far).2) + h = h := by
    simp only
    clear sk1 sk2 kk; grind
  have PF : PS 7 (c * far, s * far) := ⟨T.cc.mul hf, T.ss.mul hf⟩
  have a1 := fun S => e_at s1 s2 PF (by decide) fk fk h3 gt e1 e2 S
  have a2 := fun S => e_at' s3 s4 PF (by decide) fk fk h3 gt e1 e2 S
  have dif : ¬ (l1 = l3 ∧ l2 = l4) := fun w => by
    obtain ⟨y1, y2⟩ := spot_ne s1 s3 w.1
    obtain ⟨y3, y4⟩ := spot_ne s2 s4 w.2
    have z1 : g * k1 = 0 := by clear y2 y3 y4 sk1 sk2 kk h3 fk; grind
    have z2 : g * k2 = 0 := by clear y2 y1 y4 sk1 sk2 kk h3 fk z1; grind
    have z3 : t * k1 = 0 := by clear y1 y3 y4 sk1 sk2 kk h3 fk z1 z2; grind
    have z4 : t * k2 = 0 := by clear y1 y3 y2 sk1 sk2 kk h3 fk z1 z2 z3; grind
    have : h = 0 := by
      rw [← h3]
      have : (g * g + t * t * m) * (k1 * k1 + k2 * k2) = g * k1 * (g * k1) + g * k2 * (g * k2) + (t * k1 * (t * k1) + t * k2 * (t * k2)) * m := by clear y1 y2 y3 y4 sk1 sk2 kk h3 fk z1 z2 z3 z4; grind
      rw [this, z1, z2, z3, z4]; grind
    rw [this] at hpos
    exact Rat.lt_irrefl hpos
  have nd := dEqIT dif
  have g12 : q_law_is_line_so_12 (envL n h c s far [o6, o7, some (PQ (onL c s far p)), some (PQ (onL c s far q)), some (FQ (far * far)), some (.tup [.tup [IT l1, IT l2], .tup [IT l3, IT l4]]), o12, o13, o14, o15]) S = .nx (envL n h c s far [o6, o7, some (PQ (onL c s far p)), some (PQ (onL c s far q)), some (FQ (far * far)), some (.tup [.tup [IT l1, IT l2], .tup [IT l3, IT l4]]), o12, o13, o14, o15]) S := by
    simp [q_law_is_line_so_12, envL, compL, wipeE, pq, a1, a2, truD, fAll, bools, nd]
  have bs := fun S => e_beside_law (onL_ps T hf hp) (onL_ps T hf hq) (by decide) (by decide) S
  have g13 : q_law_is_line_so_13 (envL n h c s far [o6, o7, some (PQ (onL c s far p)), some (PQ (onL c s far q)), some (FQ (far * far)), some (.tup [.tup [IT l1, IT l2], .tup [IT l3, IT l4]]), o12, o13, o14, o15]) S = .nx (envL n h c s far [o6, o7, some (PQ (onL c s far p)), some (PQ (onL c s far q)), some (FQ (far * far)), some (.tup [.tup [IT l1, IT l2], .tup [IT l3, IT l4]]), some (PQ ((onL c s far p).1 - (onL c s far q).1, (onL c s far p).2 - (onL c s far q).2)), o13, o14, o15]) S := by
    simp [q_law_is_line_so_13, envL, bs]
  have le1 : (onL c s far p).1 - (onL c s far q).1 = -s * d := by unfold onL; rw [← hd]; clear sk1 sk2 kk h3 fk hd; grind
  have le2 : (onL c s far p).2 - (onL c s far q).2 = c * d := by unfold onL; rw [← hd]; clear sk1 sk2 kk h3 fk hd; grind
  rw [le1, le2] at g13
  have hds : SQ 7 d := by rw [← hd]; exact hp.sub hq
  obtain ⟨x1, ex1, vx1, zx1⟩ := s1.el
  obtain ⟨x2, ex2, vx2, zx2⟩ := s2.el
  obtain ⟨b1, vb1, zb1, rb1⟩ := e_law_sum vx1 (Val.frac m (-(c * far))) zx1 (z_frac PF.x.neg (by decide)) (by decide) (by decide) (by decide) (by decide) (by decide) (by decide) S
  obtain ⟨b2, vb2, zb2, rb2⟩ := e_law_sum vx2 (Val.frac m (-(s * far))) zx2 (z_frac PF.y.neg (by decide)) (by decide) (by decide) (by decide) (by decide) (by decide) (by decide) S
  have rb1' : f_law_sum [LD x1, .tup [.int (-(c * far).num), .int 0, .int (c * far).den, .int 0]] S = .ok (LD b1) S := rb1
  have rb2' : f_law_sum [LD x2, .tup [.int (-(s * far).num), .int 0, .int (s * far).den, .int 0]] S = .ok (LD b2) S := rb2
  obtain ⟨lead, hlead⟩ : ∃ lead, PQ (-s * d, c * d) = lead := ⟨_, rfl⟩
  rw [hlead] at g13
  have g14 : q_law_is_line_so_14 (envL n h c s far [o6, o7, some (PQ (onL c s far p)), some (PQ (onL c s far q)), some (FQ (far * far)), some (.tup [.tup [IT l1, IT l2], .tup [IT l3, IT l4]]), some lead, o13, o14, o15]) S = .nx (envL n h c s far [o6, o7, some (PQ (onL c s far p)), some (PQ (onL c s far q)), some (FQ (far * far)), some (.tup [.tup [IT l1, IT l2], .tup [IT l3, IT l4]]), some lead, some (.lst [LD b1, LD b2]), o14, o15]) S := by
    simp [q_law_is_line_so_14, envL, compL, wipeE, rg2, ixP_0, ixP_1, ixQ0, ixQ1, ex1, ex2, rb1', rb2']
  have v1s : SQ 11 (-s * d) := T.ss.neg.mul hds
  have v2s : SQ 11 (c * d) := T.cc.mul hds
  obtain ⟨q1, vq1, zq1, rq1⟩ := e_law_product vb1 (Val.frac m (-s * d)) zb1 (z_frac v1s (by decide)) (by decide) (by decide) (by decide) (by decide) (by decide) (by decide) S
  obtain ⟨q2, vq2, zq2, rq2⟩ := e_law_product vb2 (Val.frac m (c * d)) zb2 (z_frac v2s (by decide)) (by decide) (by decide) (by decide) (by decide) (by decide) (by decide) S
  obtain ⟨w, vw, zw, rw'⟩ := e_law_sum vq1 vq2 zq1 zq2 (by decide) (by decide) (by decide) (by decide) (by decide) (by decide) S
  have U1 : (c * far + g * k1 + -(c * far)) * (-s * d) + (t * k1 + 0) * 0 * (m : Rat) + ((s * far + g * k2 + -(s * far)) * (c * d) + (t * k2 + 0) * 0 * m) = g := by
    have : (c * far + g * k1 + -(c * far)) * (-s * d) + (t * k1 + 0) * 0 * (m : Rat) + ((s * far + g * k2 + -(s * far)) * (c * d) + (t * k2 + 0) * 0 * m) = g * (-s * (k1 * d) + c * (k2 * d)) := by clear sk1 sk2 kk h3 fk; grind
    rw [this, sk1, sk2, show -s * -s + c * c = c * c + s * s by grind, one]; grind
  have V1 : (c * far + g * k1 + -(c * far)) * 0 + (t * k1 + 0) * (-s * d) + ((s * far + g * k2 + -(s * far)) * 0 + (t * k2 + 0) * (c * d)) = t := by
    have : (c * far + g * k1 + -(c * far)) * 0 + (t * k1 + 0) * (-s * d) + ((s * far + g * k2 + -(s * far)) * 0 + (t * k2 + 0) * (c * d)) = t * (-s * (k1 * d) + c * (k2 * d)) := by clear sk1 sk2 kk h3 fk; grind
    rw [this, sk1, sk2, show -s * -s + c * c = c * c + s * s by grind, one]; grind
  rw [U1, V1] at vw
  have sg := e_law_sign vw (by rcases gp with ⟨a, _⟩ | ⟨a, _⟩; exact .inl a; exact .inr a) zw (by decide) (by decide) S
  have sv : (if g = 0 then sgQ t else sgQ g) = 1 := by
    rcases gp with ⟨a, b⟩ | ⟨a, b⟩
    · rw [if_pos a]; exact (sgQ_pos t).mpr b
    · rw [if_neg (ratpos_ne b)]; exact (sgQ_pos g).mpr b
  rw [sv] at sg
  have vv := e_vector_law (-s * d, c * d) S
  simp only at vv
  rw [hlead] at vv
  have g15 : q_law_is_line_so_15 (envL n h c s far [o6, o7, some (PQ (onL c s far p)), some (PQ (onL c s far q)), some (FQ (far * far)), some (.tup [.tup [IT l1, IT l2], .tup [IT l3, IT l4]]), some lead, some (.lst [LD b1, LD b2]), o14, o15]) S = .rt (.bl true) S := by
    simp [q_law_is_line_so_15, envL, il0, il1, vv, f_law_dot_el, mkFn, m_law_dot_el, DL.start, rq1, rq2, rw', sg]
  rw [ap_sSeq, g7, then_nx, ap_sSeq, g8, then_nx, ap_sSeq, g9, then_nx, ap_sSeq, g10, then_nx, ap_sSeq, g11, then_nx, ap_sSeq, g12, then_nx, ap_sSeq, g13, then_nx, ap_sSeq, g14, then_nx, g15]
end K20


set_option linter.all false
set_option autoImplicit false
set_option Elab.async false
set_option maxRecDepth 100000
set_option maxHeartbeats 4000000
/-! the plain law of k20: the law of lines, its draws -/
namespace K20
open PySem DL
theorem onL_zero (c s far : Rat) : PQ (c * far, s * far) = PQ (onL c s far 0) := by
  have : (c * far, s * far) = onL c s far 0 := by
    unfold onL
    refine Prod.ext ?_ ?_
    · show c * far = c * far + -s * 0
      grind
    · show s * far = s * far + c * 0
      grind
  rw [this]
theorem sq_int (i : Int) (n : Nat) (q : Rat) (e : q = (i : Rat)) (h : i.natAbs < 2 ^ n) (hn : 0 < n) : SQ n q := by rw [e]; exact SQ.int h hn
/-- the two points of the line -/
theorem e_line_ends {n L : Nat} {h c s far p q : Rat} (T : Tr c s) (hf : SQ 3 far) (hp : SQ 3 p) (hq : SQ 3 q) (S : Sto) (hL : S[L]? = some [PQ (onL c s far p), PQ (onL c s far q)]) (o7 o8 o9 o10 o11 o12 o13 o14 o15 : Option D) :
    ∃ p' q', p' ≠ q' ∧ SQ 3 p' ∧ SQ 3 q' ∧ (sSeq q_law_is_line_so_5 q_law_is_line_so_6) (envL n h c s far [some (.loc L), o7, o8, o9, o10, o11, o12, o13, o14, o15]) S = .nx (envL n h c s far [some (.loc L), o7, some (PQ (onL c s far p')), some (PQ (onL c s far q')), o10, o11, o12, o13, o14, o15]) S := by
  have i0 : dIx (.loc L) (.int 0) S = .ok (PQ (onL c s far p)) S := by
    show (match S[L]? with | some xs => (match L2.atI xs 0 with | some d => R.ok d S | none => R.bad) | none => R.bad) = _
    rw [hL]; simp only [at_0]
  have i1 : dIx (.loc L) (.int 1) S = .ok (PQ (onL c s far q)) S := by
    show (match S[L]? with | some xs => (match L2.atI xs 1 with | some d => R.ok d S | none => R.bad) | none => R.bad) = _
    rw [hL]; simp only [at_1]
  have ne : ∀ a b : Rat, a ≠ b → onL c s far a ≠ onL c s far b := fun a b w => onL_ne T w
  by_cases e : p = q
  · subst e
    have al : PS 4 (-s, c) := ⟨T.ss.neg, T.cc⟩
    have PF : PS 7 (c * far, s * far) := ⟨T.cc.mul hf, T.ss.mul hf⟩
    have m1 := fun S => e_moved_law al al (by decide) (by decide) S
    have m2 := fun S => e_moved_law (p := (c * far, s * far)) (q := ((-s, c).1 + (-s, c).1, (-s, c).2 + (-s, c).2)) PF ⟨al.x.add al.x, al.y.add al.y⟩ (by decide) (by decide) S
    have two : ((c * far, s * far).1 + (((-s, c).1 + (-s, c).1, (-s, c).2 + (-s, c).2) : Rat × Rat).1, (c * far, s * far).2 + (((-s, c).1 + (-s, c).1, (-s, c).2 + (-s, c).2) : Rat × Rat).2) = onL c s far 2 := by
      unfold onL
      refine Prod.ext ?_ ?_
      · show c * far + (-s + -s) = c * far + -s * 2
        grind
      · show s * far + (c + c) = s * far + c * 2
        grind
    simp only [two] at m2
    have t2 : SQ 3 (2 : Rat) := sq_int 2 3 2 rfl (by decide) (by decide)
    have t0 : SQ 3 (0 : Rat) := sq_int 0 3 0 rfl (by decide) (by decide)
    have g5 : q_law_is_line_so_5 (envL n h c s far [some (.loc L), o7, o8, o9, o10, o11, o12, o13, o14, o15]) S = .nx (envL n h c s far [some (.loc L), o7, some (PQ (onL c s far p)), some (PQ (onL c s far 2)), o10, o11, o12, o13, o14, o15]) S := by
      simp only at m1 m2
      simp [q_law_is_line_so_5, envL, i0, i1, dNeP, m1, m2]
    by_cases w : p = 2
    · refine ⟨0, 2, by decide, t0, t2, ?_⟩
      subst w
      have g6 : q_law_is_line_so_6 (envL n h c s far [some (.loc L), o7, some (PQ (onL c s far 2)), some (PQ (onL c s far 2)), o10, o11, o12, o13, o14, o15]) S = .nx (envL n h c s far [some (.loc L), o7, some (PQ (onL c s far 0)), some (PQ (onL c s far 2)), o10, o11, o12, o13, o14, o15]) S := by
        simp [q_law_is_line_so_6, envL, dEqP, onL_zero]
      rw [ap_sSeq, g5, then_nx, g6]
    · refine ⟨p, 2, w, hp, t2, ?_⟩
      have g6 : q_law_is_line_so_6 (envL n h c s far [some (.loc L), o7, some (PQ (onL c s far p)), some (PQ (onL c s far 2)), o10, o11, o12, o13, o14, o15]) S = .nx (envL n h c s far [some (.loc L), o7, some (PQ (onL c s far p)), some (PQ (onL c s far 2)), o10, o11, o12, o13, o14, o15]) S := by
        simp [q_law_is_line_so_6, envL, dEqP, ne p 2 w]
      rw [ap_sSeq, g5, then_nx, g6]
  · refine ⟨p, q, e, hp, hq, ?_⟩
    have e' : ¬ q = p := fun z => e z.symm
    have g5 : q_law_is_line_so_5 (envL n h c s far [some (.loc L), o7, o8, o9, o10, o11, o12, o13, o14, o15]) S = .nx (envL n h c s far [some (.loc L), o7, some (PQ (onL c s far p)), some (PQ (onL c s far q)), o10, o11, o12, o13, o14, o15]) S := by
      simp [q_law_is_line_so_5, envL, i0, i1, dNeP, ne q p e']
    have g6 : q_law_is_line_so_6 (envL n h c s far [some (.loc L), o7, some (PQ (onL c s far p)), some (PQ (onL c s far q)), o10, o11, o12, o13, o14, o15]) S = .nx (envL n h c s far [some (.loc L), o7, some (PQ (onL c s far p)), some (PQ (onL c s far q)), o10, o11, o12, o13, o14, o15]) S := by
      simp [q_law_is_line_so_6, envL, dEqP, ne p q e]
    rw [ap_sSeq, g5, then_nx, g6]
theorem lowPQ (k : Nat) (p : Rat × Rat) : D.low k (PQ p) = true := by simp [PQ, FQ, F, D.low, D.lowL]
theorem e_line_so {S : Sto} {n : Nat} {k : Int} {h : Rat} (P : PotAt S n k) (hk : k < 800) (H : Hair h) : ∃ S', f_law_is_line_so [.loc n, FQ h] S = .ok (.bl true) S' ∧ PotAt S' n (k + 10) := by
  obtain ⟨c, s, S1, t1, T, P1, L1⟩ := e_small_turn P (by omega)
  obtain ⟨far, S2, t2, hl, P2, L2⟩ := e_law_length (M := 4) P1 (by omega) (by decide) (by decide)
  have hf := hl.sq3
  have P3 : PotAt (S2 ++ [[]]) n (k + 1 + 3) := P2.app (by simp [D.lowL])
  have nl := P2.lt
  have n2 : S2.length ≠ n := by omega
  have l3 : (S2 ++ [[]])[S2.length]? = some ([] : List D) := by simp
  obtain ⟨p, S4, t4, hp, P4, L4, K4⟩ := e_law_part P3 (by omega)
  have l4 := K4 _ _ n2 l3
  obtain ⟨q, S5, t5, hq, P5, L5, K5⟩ := e_law_part P4 (by omega)
  have l5 := K5 _ _ n2 l4
  have zf : D.tup [.int 0, .int 1] = FQ 0 := rfl
  have tm1 := fun S => e_law_timesQ T.cc hf S (by decide) (by decide)
  have tm2 := fun S => e_law_timesQ T.ss hf S (by decide) (by decide)
  have ls := fun S => e_law_lessQ (sq_int 0 3 0 rfl (by decide) (by decide)) T.ss S (by decide) (by decide)
  have e0 : ∀ x : Rat, 0 - x = -x := fun x => by grind
  simp only [e0] at ls
  have g1 : q_law_is_line_so_1 (DL.start 16 [.loc n, FQ h]) S = .nx [some (.loc n), some (FQ h), some (PQ (c, s)), some (FQ far), none, none, none, none, none, none, none, none, none, none, none, none] S2 := by
    simp [q_law_is_line_so_1, DL.start, t1, t2]
  have g2 : q_law_is_line_so_2 [some (.loc n), some (FQ h), some (PQ (c, s)), some (FQ far), none, none, none, none, none, none, none, none, none, none, none, none] S2 = .nx (envL n h c s far [none, none, none, none, none, none, none, none, none, none]) S2 := by
    simp [q_law_is_line_so_2, envL, PQ, compL, wipeE, tm1, tm2, zf, ls, fTuple, items]
  have g3 : (sSet 6 (eNew (aNil))) (envL n h c s far [none, none, none, none, none, none, none, none, none, none]) S2 = .nx (envL n h c s far [some (.loc S2.length), none, none, none, none, none, none, none, none, none]) (S2 ++ [[]]) := by
    simp [envL]
  have PF : PS 7 (c * far, s * far) := ⟨T.cc.mul hf, T.ss.mul hf⟩
  have step : ∀ (x : Rat) (hx : SQ 3 x) (l : List D) (S : Sto) (o7 : Option D), S[S2.length]? = some l → l.length < 5 → q_law_is_line_so_4B (envL n h c s far [some (.loc S2.length), some (FQ x), none, none, none, none, none, none, none, none]) S = .nx (envL n h c s far [some (.loc S2.length), some (FQ x), none, none, none, none, none, none, none, none]) (S.set S2.length (l ++ [PQ (onL c s far x)])) := fun x hx l S o7 hl hlen => by
    have a1 := fun S => e_law_timesQ T.ss.neg hx S (by decide) (by decide)
    have a2 := fun S => e_law_timesQ T.cc hx S (by decide) (by decide)
    have mv := fun S => e_moved_law (p := (c * far, s * far)) (q := (-s * x, c * x)) PF ⟨T.ss.neg.mul hx, T.cc.mul hx⟩ (by decide) (by decide) S
    have ol : ((c * far, s * far).1 + (-s * x, c * x).1, (c * far, s * far).2 + (-s * x, c * x).2) = onL c s far x := rfl
    simp only [ol] at mv
    have pa : D.tup [FQ (-s * x), FQ (c * x)] = PQ (-s * x, c * x) := rfl
    have pb : PQ (-s, c) = D.tup [FQ (-s), FQ c] := rfl
    have ll : l.length < 16777216 := by omega
    simp [q_law_is_line_so_4B, q_law_is_line_so_4_1, envL, eAppend, pb, compL, wipeE, a1, a2, fTuple, items, pa, mv, hl, ll]
  have s1 := step p hp.sq [] S5 none l5 (by decide)
  have l6 : (S5.set S2.length ([] ++ [PQ (onL c s far p)]))[S2.length]? = some [PQ (onL c s far p)] := got l5
  have s2 := step q hq.sq [PQ (onL c s far p)] _ none l6 (by simp)
  have g4 : q_law_is_line_so_4 (envL n h c s far [some (.loc S2.length), none, none, none, none, none, none, none, none, none]) (S2 ++ [[]]) = .nx (envL n h c s far [some (.loc S2.length), some (FQ q), none, none, none, none, none, none, none, none]) ((S5.set S2.length ([] ++ [PQ (onL c s far p)])).set S2.length ([PQ (onL c s far p)] ++ [PQ (onL c s far q)])) := by
    have sa : ∀ (x : D) (o : Option D), (envL n h c s far [some (.loc S2.length), o, none, none, none, none, none, none, none, none]).set 7 (some x) = envL n h c s far [some (.loc S2.length), some x, none, none, none, none, none, none, none, none] := fun x o => rfl
    have it : (wTup (eTup (aCons (eCall f_law_part (aCons (eVar 0) (aCons (eC (.int 3)) (aNil)))) (aCons (eCall f_law_part (aCons (eVar 0) (aCons (eC (.int 3)) (aNil)))) (aNil))))) (envL n h c s far [some (.loc S2.length), none, none, none, none, none, none, none, none, none]) (S2 ++ [[]]) = .ok [FQ p, FQ q] S5 := by
      simp [envL, t4, t5]
    unfold q_law_is_line_so_4
    rw [ap_sFor, it, st_ok]
    unfold forL
    rw [g_set, sa]
    simp only [s1]
    unfold forL
    rw [g_set, sa]
    simp only [s2]
    rfl
  obtain ⟨S6, hS6⟩ : ∃ S6, (S5.set S2.length ([] ++ [PQ (onL c s far p)])).set S2.length ([PQ (onL c s far p)] ++ [PQ (onL c s far q)]) = S6 := ⟨_, rfl⟩
  have l7 : S6[S2.length]? = some [PQ (onL c s far p), PQ (onL c s far q)] := by rw [← hS6]; exact got l6
  have P6 : PotAt S6 n (k + 1 + 3 + 3 + 3) := by
    rw [← hS6]
    exact (P5.set n2 (by simp [D.lowL, lowPQ])).set n2 (by simp [D.lowL, lowPQ])
  rw [hS6] at g4
  obtain ⟨p', q', hn, hp', hq', g56⟩ := e_line_ends (n := n) (h := h) T hf hp.sq hq.sq S6 l7 (some (FQ q)) none none none none none none none none
  have tl := e_line_tail (n := n) H T hl hp' hq' hn (some (.loc S2.length)) (some (FQ q)) none none none none none none S6
  have run : (mkFn 2 16 m_law_is_line_so) [.loc n, FQ h] S = .ok (.bl true) S6 := by
    unfold mkFn
    rw [if_pos (show [D.loc n, FQ h].length = 2 from rfl)]
    unfold m_law_is_line_so
    rw [ap_sSeq] at g56
    have all : (sSeq q_law_is_line_so_5 (sSeq q_law_is_line_so_6 (sSeq (q_law_is_line_so_7) (sSeq (q_law_is_line_so_8) (sSeq (q_law_is_line_so_9) (sSeq (q_law_is_line_so_10) (sSeq (q_law_is_line_so_11) (sSeq (q_law_is_line_so_12) (sSeq (q_law_is_line_so_13) (sSeq (q_law_is_line_so_14) (q_law_is_line_so_15))))))))))) (envL n h c s far [some (.loc S2.length), some (FQ q), none, none, none, none, none, none, none, none]) S6 = .rt (.bl true) S6 := by
      rw [← tl]
      rw [ap_sSeq]
      cases h5 : q_law_is_line_so_5 (envL n h c s far [some (.loc S2.length), some (FQ q), none, none, none, none, none, none, none, none]) S6 with
      | nx ρ S' =>
        rw [h5, then_nx] at g56
        rw [then_nx, ap_sSeq, g56, then_nx]
      | _ => rw [h5] at g56; cases g56
    rw [ap_sSeq, g1, then_nx, ap_sSeq, g2, then_nx, ap_sSeq, g3, then_nx, ap_sSeq, g4, then_nx, all]
  obtain ⟨e, Q⟩ := drop_pot run (by rfl) P6 P.lt
  exact ⟨_, e, Q.mono (by omega)⟩
end K20


set_option linter.all false
set_option autoImplicit false
set_option Elab.async false
set_option maxRecDepth 100000
set_option maxHeartbeats 4000000
/-! the plain law of k20: the law of circles -/
namespace K20
open PySem DL
def envC (n : Nat) (h c s f w : Rat) (o : List (Option D)) : DL.Env := some (.loc n) :: some (FQ h) :: some (PQ (c, s)) :: some (FQ f) :: some (FQ w) :: o
/-- one wider or narrower circle -/
theorem e_wider {n : Nat} {h c s f w e y : Rat} {many : Int} (T : Tr c s) (hf : SQ 2 f) (he : SQ 2 e) (hn : f + e ≠ 0) (hy : SQ 10 y) (h0 : 0 ≤ e * e + y) (hm : (many = 2 ∧ 0 < y * (4 * f * (f + e) - y)) ∨ (many = 0 ∧ y * (4 * f * (f + e) - y) < 0)) (o5 o7 o9 o10 o13 o14 o15 o16 : Option D) (S : Sto) :
    ∃ p13 p14, q_law_are_circles_so_2_7B (envC n h c s f w [o5, some (PQ (c * (f + e), s * (f + e))), o7, some (FQ (f * f)), o9, o10, some (FQ (e * e + y)), some (.int many), o13, o14, o15, o16]) S = .nx (envC n h c s f w [o5, some (PQ (c * (f + e), s * (f + e))), o7, some (FQ (f * f)), o9, o10, some (FQ (e * e + y)), some (.int many), p13, p14, o15, o16]) S := by
  have one := T.one
  obtain ⟨r1, r2, r3⟩ := e_circles T hf he hn hy h0 S
  rcases hm with ⟨m2, c0⟩ | ⟨m0, c0⟩
  · subst m2
    obtain ⟨m, g, t, R, l1, l2, l3, l4, s1, s2, s3, s4, M⟩ := r3 c0
    obtain ⟨gt, gg, gp⟩ := RootIs.parts R
    have PP : PS 9 (c * (f + e), s * (f + e)) := ⟨T.cc.mul (hf.add he), T.ss.mul (hf.add he)⟩
    obtain ⟨far, hfar⟩ : ∃ far, f + e = far := ⟨_, rfl⟩
    have he2 : e = far - f := by rw [← hfar]; clear gg gp r1 r2 r3 c0; grind
    rw [hfar] at hn gg s1 s2 s3 s4 M PP ⊢
    have dn : far + far ≠ 0 := fun z => hn (by clear gg gp r1 r2 r3 c0; grind)
    obtain ⟨d, hd⟩ : ∃ d, far + far = d := ⟨_, rfl⟩
    rw [hd] at dn s1 s2 s3 s4
    obtain ⟨k1, hk1⟩ : ∃ k1, -s / d = k1 := ⟨_, rfl⟩
    obtain ⟨k2, hk2⟩ : ∃ k2, c / d = k2 := ⟨_, rfl⟩
    obtain ⟨r, hr⟩ : ∃ r, y / d = r := ⟨_, rfl⟩
    have sk1 : k1 * d = -s := by rw [← hk1]; clear hk1 hk2 gg gp hr; grind
    have sk2 : k2 * d = c := by rw [← hk2]; clear hk1 hk2 gg gp hr; grind
    have sr : r * d = y := by rw [← hr]; clear hk1 hk2 gg gp hr; grind
    rw [hk1, hr] at s1 s3
    rw [hk2, hr] at s2 s4
    have kk : (k1 * k1 + k2 * k2) * (d * d) = 1 := by
      have : (k1 * k1 + k2 * k2) * (d * d) = k1 * d * (k1 * d) + k2 * d * (k2 * d) := by clear sk1 sk2 gg gp hk1 hk2 hr; grind
      rw [this, sk1, sk2, ← one]; clear gg gp hk1 hk2 hr; grind
    have zero : ∀ x : Rat, x * d = 0 → x = 0 := fun x hx => by
      rcases Rat.mul_eq_zero.mp hx with w | w
      · exact w
      · exact absurd w dn
    have ck : c * k1 + s * k2 = 0 := zero _ (by
      have : (c * k1 + s * k2) * d = c * (k1 * d) + s * (k2 * d) := by clear sk1 sk2 gg gp hk1 hk2 hr kk; grind
      rw [this, sk1, sk2]; clear sk1 sk2 gg gp hk1 hk2 hr kk; grind)
    have fk : c * (f - r) * k1 + s * (f - r) * k2 = 0 := by
      have : c * (f - r) * k1 + s * (f - r) * k2 = (f - r) * (c * k1 + s * k2) := by clear ck sk1 sk2 gg gp hk1 hk2 hr kk; grind
      rw [this, ck, Rat.mul_zero]
    have pk : (c * far, s * far).1 * k1 + (c * far, s * far).2 * k2 = 0 := by
      have : c * far * k1 + s * far * k2 = far * (c * k1 + s * k2) := by clear ck sk1 sk2 gg gp hk1 hk2 hr kk fk; grind
      show c * far * k1 + s * far * k2 = 0
      rw [this, ck, Rat.mul_zero]
    have h3 : (g * g + t * t * m) * (k1 * k1 + k2 * k2) = r * (2 * f - r) := by
      rw [gg, ← sr]
      have : r * d * (4 * f * far - r * d) * (k1 * k1 + k2 * k2) = r * (2 * f - r) * ((k1 * k1 + k2 * k2) * (d * d)) := by
        rw [← hd]; clear ck sk1 sk2 gg gp hk1 hk2 hr kk fk pk sr; grind
      rw [this, kk, Rat.mul_one]
    have e1 : c * (f - r) * (c * (f - r)) + s * (f - r) * (s * (f - r)) + r * (2 * f - r) = f * f := by
      have : c * (f - r) * (c * (f - r)) + s * (f - r) * (s * (f - r)) + r * (2 * f - r) = (f - r) * (f - r) * (c * c + s * s) + r * (2 * f - r) := by clear h3 ck sk1 sk2 gg gp hk1 hk2 hr kk fk pk sr; grind
      rw [this, one]; clear h3 ck sk1 sk2 gg gp hk1 hk2 hr kk fk pk sr; grind
    have e2 : (c * (f - r) - (c * far, s * far).1) * (c * (f - r) - (c * far, s * far).1) + (s * (f - r) - (c * far, s * far).2) * (s * (f - r) - (c * far, s * far).2) + r * (2 * f - r) = e * e + y := by
      show (c * (f - r) - c * far) * (c * (f - r) - c * far) + (s * (f - r) - s * far) * (s * (f - r) - s * far) + r * (2 * f - r) = e * e + y
      have : (c * (f - r) - c * far) * (c * (f - r) - c * far) + (s * (f - r) - s * far) * (s * (f - r) - s * far) + r * (2 * f - r) = (f - r - far) * (f - r - far) * (c * c + s * s) + r * (2 * f - r) := by clear e1 h3 ck sk1 sk2 gg gp hk1 hk2 hr kk fk pk sr; grind
      rw [this, one, ← sr, he2, ← hd]; clear e1 h3 ck sk1 sk2 gg gp hk1 hk2 hr kk fk pk sr; grind
    have a1 := fun S => e_at s1 s2 PP (by decide) fk pk h3 gt e1 e2 S
    have a2 := fun S => e_at' s3 s4 PP (by decide) fk pk h3 gt e1 e2 S
    obtain ⟨x1, ex1, vx1, zx1⟩ := s1.el
    obtain ⟨x2, ex2, vx2, zx2⟩ := s2.el
    obtain ⟨q1, vq1, zq1, rq1⟩ := e_law_product (Val.frac m (c * far)) vx2 (z_frac PP.x (by decide)) zx2 (by decide) (by decide) (by decide) (by decide) (by decide) (by decide) S
    obtain ⟨q2, vq2, zq2, rq2⟩ := e_law_product (Val.frac m (s * far)) vx1 (z_frac PP.y (by decide)) zx1 (by decide) (by decide) (by decide) (by decide) (by decide) (by decide) S
    obtain ⟨vn, zn, rn⟩ := e_law_minus vq2 zq2
    obtain ⟨v, vv, zv, rv⟩ := e_law_sum vq1 vn zq1 zn (by decide) (by decide) (by decide) (by decide) (by decide) (by decide) S
    have U1 : c * far * (s * (f - r) + g * k2) + 0 * (t * k2) * (m : Rat) + -(s * far * (c * (f - r) + g * k1) + 0 * (t * k1) * m) = g / 2 := by
      have : c * far * (s * (f - r) + g * k2) + 0 * (t * k2) * (m : Rat) + -(s * far * (c * (f - r) + g * k1) + 0 * (t * k1) * m) = g * (c * (k2 * d) - s * (k1 * d)) / 2 := by
        rw [← hd]; clear e2 e1 h3 ck sk1 sk2 gg gp hk1 hk2 hr kk fk pk sr; grind
      rw [this, sk1, sk2, show c * c - s * -s = c * c + s * s by clear e2 e1 h3 ck sk1 sk2 gg gp hk1 hk2 hr kk fk pk sr; grind, one, Rat.mul_one]
    have V1 : c * far * (t * k2) + 0 * (s * (f - r) + g * k2) + -(s * far * (t * k1) + 0 * (c * (f - r) + g * k1)) = t / 2 := by
      have : c * far * (t * k2) + 0 * (s * (f - r) + g * k2) + -(s * far * (t * k1) + 0 * (c * (f - r) + g * k1)) = t * (c * (k2 * d) - s * (k1 * d)) / 2 := by
        rw [← hd]; clear e2 e1 h3 ck sk1 sk2 gg gp hk1 hk2 hr kk fk pk sr U1; grind
      rw [this, sk1, sk2, show c * c - s * -s = c * c + s * s by clear e2 e1 h3 ck sk1 sk2 gg gp hk1 hk2 hr kk fk pk sr; grind, one, Rat.mul_one]
    rw [U1, V1] at vv
    have half : ∀ x : Rat, x = 0 → x / 2 = 0 := fun x z => by rw [z]; decide +kernel
    have sg := e_law_sign vv (by rcases gp with ⟨a, _⟩ | ⟨a, _⟩; exact .inl (half g a); exact .inr (half t a)) zv (by decide) (by decide) S
    have hp2 : ∀ x : Rat, 0 < x → 0 < x / 2 := fun x z => by clear e2 e1 h3 ck sk1 sk2 gg gp hk1 hk2 hr kk fk pk sr; grind
    have sv : (if g / 2 = 0 then sgQ (t / 2) else sgQ (g / 2)) = 1 := by
      rcases gp with ⟨a, b⟩ | ⟨a, b⟩
      · rw [if_pos (half g a)]; exact (sgQ_pos _).mpr (hp2 t b)
      · rw [if_neg (ratpos_ne (hp2 g b))]; exact (sgQ_pos _).mpr (hp2 g b)
    rw [sv] at sg
    have ve := e_vector_law (c * far, s * far)
    refine ⟨some (.tup [.tup [IT l1, IT l2], .tup [IT l3, IT l4]]), some (.tup [LD x1, LD x2]), ?_⟩
    have g1 : q_law_are_circles_so_2_7_1 (envC n h c s f w [o5, some (PQ (c * far, s * far)), o7, some (FQ (f * f)), o9, o10, some (FQ (e * e + y)), some (.int 2), o13, o14, o15, o16]) S = .nx (envC n h c s f w [o5, some (PQ (c * far, s * far)), o7, some (FQ (f * f)), o9, o10, some (FQ (e * e + y)), some (.int 2), some (.tup [.tup [IT l1, IT l2], .tup [IT l3, IT l4]]), o14, o15, o16]) S := by
      simp [q_law_are_circles_so_2_7_1, envC, M]
    have g2 : q_law_are_circles_so_2_7_2 (envC n h c s f w [o5, some (PQ (c * far, s * far)), o7, some (FQ (f * f)), o9, o10, some (FQ (e * e + y)), some (.int 2), some (.tup [.tup [IT l1, IT l2], .tup [IT l3, IT l4]]), o14, o15, o16]) S = .nx (envC n h c s f w [o5, some (PQ (c * far, s * far)), o7, some (FQ (f * f)), o9, o10, some (FQ (e * e + y)), some (.int 2), some (.tup [.tup [IT l1, IT l2], .tup [IT l3, IT l4]]), o14, o15, o16]) S := by
      simp [q_law_are_circles_so_2_7_2, envC, isTupT, truD, dNeI]
    have g3 : q_law_are_circles_so_2_7_3 (envC n h c s f w [o5, some (PQ (c * far, s * far)), o7, some (FQ (f * f)), o9, o10, some (FQ (e * e + y)), some (.int 2), some (.tup [.tup [IT l1, IT l2], .tup [IT l3, IT l4]]), o14, o15, o16]) S = .nx (envC n h c s f w [o5, some (PQ (c * far, s * far)), o7, some (FQ (f * f)), o9, o10, some (FQ (e * e + y)), some (.int 2), some (.tup [.tup [IT l1, IT l2], .tup [IT l3, IT l4]]), o14, o15, o16]) S := by
      simp [q_law_are_circles_so_2_7_3, envC, truD, dEqI, compL, wipeE, a1, a2, fAll, bools]
    have g4 : q_law_are_circles_so_2_7_4 (envC n h c s f w [o5, some (PQ (c * far, s * far)), o7, some (FQ (f * f)), o9, o10, some (FQ (e * e + y)), some (.int 2), some (.tup [.tup [IT l1, IT l2], .tup [IT l3, IT l4]]), o14, o15, o16]) S = .nx (envC n h c s f w [o5, some (PQ (c * far, s * far)), o7, some (FQ (f * f)), o9, o10, some (FQ (e * e + y)), some (.int 2), some (.tup [.tup [IT l1, IT l2], .tup [IT l3, IT l4]]), some (.tup [LD x1, LD x2]), o15, o16]) S := by
      simp [q_law_are_circles_so_2_7_4, q_law_are_circles_so_2_7_4a_1, q_law_are_circles_so_2_7_4a_2, envC, dEqI, compL, wipeE, ex1, ex2, fTuple, items, ve, f_law_cross_el, mkFn, m_law_cross_el, DL.start, rq1, rq2, rn, rv, sg, dNeI]
    unfold q_law_are_circles_so_2_7B
    rw [ap_sSeq, g1, then_nx, ap_sSeq, g2, then_nx, ap_sSeq, g3, then_nx, g4]
  · subst m0
    have M := r1 c0
    refine ⟨some (.tup []), o14, ?_⟩
    unfold q_law_are_circles_so_2_7B
    simp [q_law_are_circles_so_2_7_1, q_law_are_circles_so_2_7_2, q_law_are_circles_so_2_7_3, q_law_are_circles_so_2_7_4, envC, M, isTupT, truD, dNeI, dEqI]
/-- a hair is less than 4 first far -/
theorem far_big {f w far h z : Rat} (hf : Len f 3) (hw : Len w 3) (H : Hair h) (e : far = f + w ∨ far = f - w) (p : far ≠ 0) : (0 < far → h < 4 * f * far) ∧ (far < 0 → h < -(4 * f * far)) := by
  obtain ⟨a1, b1, e1, x1, x2, x3, x4⟩ := hf.ex
  obtain ⟨a2, b2, e2, y1, y2, y3, y4⟩ := hw.ex
  obtain ⟨k, ek, k1, k2⟩ := H.ex
  have hp := H.pos
  have n1 : (b1 : Rat) ≠ 0 := castI_ne (by omega)
  have n2 : (b2 : Rat) ≠ 0 := castI_ne (by omega)
  have nk : (k : Rat) ≠ 0 := castI_ne (by omega)
  have hk : h * (k : Rat) = 1 := by
    rw [ek, show ((1 : Int) : Rat) = 1 from rfl]
    generalize (k : Rat) = kk at *
    clear e e1 e2 hp n1 n2
    grind
  have f1 : f * (b1 : Rat) = (a1 : Rat) := by
    rw [e1]; generalize (b1 : Rat) = kk at *; generalize (a1 : Rat) = aa at *; clear e e1 e2 ek hk nk n2; grind
  have f2 : w * (b2 : Rat) = (a2 : Rat) := by
    rw [e2]; generalize (b2 : Rat) = kk at *; generalize (a2 : Rat) = aa at *; clear e e1 e2 ek hk nk n1 f1; grind
  obtain ⟨mm, hmm, m1, m2⟩ : ∃ mm : Int, mm = b1 * b1 * b2 ∧ 1 ≤ mm ∧ mm ≤ 27 := by
    have c1 : b1 = 1 ∨ b1 = 2 ∨ b1 = 3 := by omega
    have c2 : b2 = 1 ∨ b2 = 2 ∨ b2 = 3 := by omega
    rcases c1 with r | r | r <;> rcases c2 with q | q | q <;> rw [r, q] <;> exact ⟨_, rfl, by decide, by decide⟩
  obtain ⟨v, hv⟩ : ∃ v : Int, (v : Rat) = far * ((b1 : Rat) * (b2 : Rat)) := by
    rcases e with e | e
    · refine ⟨a1 * b2 + a2 * b1, ?_⟩
      rw [Rat.intCast_add, Rat.intCast_mul, Rat.intCast_mul, ← f1, ← f2, e]
      generalize (b1 : Rat) = kk at *; generalize (b2 : Rat) = aa at *
      clear f1 f2 e e1 e2 ek hk nk n1 n2; grind
    · refine ⟨a1 * b2 - a2 * b1, ?_⟩
      rw [Rat.intCast_sub, Rat.intCast_mul, Rat.intCast_mul, ← f1, ← f2, e]
      generalize (b1 : Rat) = kk at *; generalize (b2 : Rat) = aa at *
      clear f1 f2 e e1 e2 ek hk nk n1 n2; grind
  have key : 4 * f * far * (mm : Rat) = ((4 * a1 * v : Int) : Rat) := by
    rw [hmm, Rat.intCast_mul, Rat.intCast_mul, Rat.intCast_mul, Rat.intCast_mul, hv, ← f1, show ((4 : Int) : Rat) = 4 from rfl]
    generalize (b1 : Rat) = kk at *; generalize (b2 : Rat) = aa at *
    clear f1 f2 e e1 e2 ek hk nk n1 n2 hv; grind
  have mp : 0 < (mm : Rat) := Rat.intCast_pos.mpr (by omega)
  have hm : h * (mm : Rat) < 1 := by
    have : 0 < h * ((k - mm : Int) : Rat) := Rat.mul_pos hp (Rat.intCast_pos.mpr (by omega))
    rw [Rat.intCast_sub] at this
    generalize (k : Rat) = kk at *; generalize (mm : Rat) = aa at *
    clear key e e1 e2 f1 f2 hv ek n1 n2
    grind
  have bp : 0 < (b1 : Rat) * (b2 : Rat) := Rat.mul_pos (Rat.intCast_pos.mpr (by omega)) (Rat.intCast_pos.mpr (by omega))
  have fin : ∀ x : Rat, ∀ i : Int, x * (mm : Rat) = (i : Rat) → 1 ≤ i → h < x := fun x i hx hi => by
    apply Rat.not_le.mp
    intro le
    have d0 : 0 ≤ (h - x) * (mm : Rat) := Rat.mul_nonneg (by clear key e e1 e2 f1 f2 hv ek n1 n2 hx; grind) (Rat.le_of_lt mp)
    have i1 : ((1 : Int) : Rat) ≤ (i : Rat) := Rat.intCast_le_intCast.mpr hi
    rw [show ((1 : Int) : Rat) = 1 from rfl] at i1
    generalize (mm : Rat) = aa at *; generalize (i : Rat) = ii at *
    clear key e e1 e2 f1 f2 hv ek n1 n2
    grind
  refine ⟨fun fp => ?_, fun fp => ?_⟩
  · have : 0 < (v : Rat) := by rw [hv]; exact Rat.mul_pos fp bp
    have v1 : 0 < v := Rat.intCast_pos.mp this
    have : 1 * 1 ≤ a1 * v := Int.mul_le_mul (by omega) (by omega) (by decide) (by omega)
    exact fin _ _ key (by rw [Int.mul_assoc]; omega)
  · have : 0 < ((-v : Int) : Rat) := by
      rw [Rat.intCast_neg, hv]
      have np : 0 < -far := by clear key e e1 e2 f1 f2 hv ek n1 n2; grind
      have := Rat.mul_pos np bp
      rw [Rat.neg_mul] at this
      exact this
    have v1 : 0 < -v := Rat.intCast_pos.mp this
    have : 1 * 1 ≤ a1 * -v := Int.mul_le_mul (by omega) (by omega) (by decide) (by omega)
    refine fin _ (4 * a1 * -v) ?_ (by rw [Int.mul_assoc]; omega)
    rw [Int.mul_neg, Rat.intCast_neg, ← key, Rat.neg_mul]
end K20


set_option linter.all false
set_option autoImplicit false
set_option Elab.async false
set_option maxRecDepth 100000
set_option maxHeartbeats 4000000
/-! the plain law of k20: the law of circles, whole -/
namespace K20
open PySem DL
theorem hair_small {e h : Rat} (he : Len e 3) (H : Hair h) : 0 ≤ e * e - h := by
  obtain ⟨a, b, e1, x1, x2, x3, x4⟩ := he.ex
  obtain ⟨k, ek, k1, k2⟩ := H.ex
  have hp := H.pos
  have n1 : (b : Rat) ≠ 0 := castI_ne (by omega)
  have nk : (k : Rat) ≠ 0 := castI_ne (by omega)
  have hk : h * (k : Rat) = 1 := by
    rw [ek, show ((1 : Int) : Rat) = 1 from rfl]
    generalize (k : Rat) = kk at *
    clear e1 hp n1
    grind
  have f1 : e * (b : Rat) = (a : Rat) := by
    rw [e1]; generalize (b : Rat) = kk at *; generalize (a : Rat) = aa at *; clear e1 ek hk nk; grind
  have bb : b * b ≤ 9 := by
    have c1 : b = 1 ∨ b = 2 ∨ b = 3 := by omega
    rcases c1 with r | r | r <;> rw [r] <;> decide
  have aa : 1 * 1 ≤ a * a := Int.mul_le_mul (by omega) (by omega) (by decide) (by omega)
  have bp : 0 < ((b * b : Int) : Rat) := Rat.intCast_pos.mpr (Int.mul_pos (by omega) (by omega))
  have hm : h * ((b * b : Int) : Rat) < 1 := by
    have : 0 < h * ((k - b * b : Int) : Rat) := Rat.mul_pos hp (Rat.intCast_pos.mpr (by omega))
    rw [Rat.intCast_sub] at this
    generalize (k : Rat) = kk at *; generalize ((b * b : Int) : Rat) = zz at *
    clear e1 f1 ek n1
    grind
  have ee : e * e * ((b * b : Int) : Rat) = ((a * a : Int) : Rat) := by
    rw [Rat.intCast_mul, Rat.intCast_mul, ← f1]
    generalize (b : Rat) = kk at *
    clear e1 f1 ek hm; grind
  have i1 : ((1 : Int) : Rat) ≤ ((a * a : Int) : Rat) := Rat.intCast_le_intCast.mpr (by omega)
  rw [show ((1 : Int) : Rat) = 1 from rfl, ← ee] at i1
  apply Rat.not_lt.mp
  intro lt
  have d0 : 0 < (h - e * e) * ((b * b : Int) : Rat) := Rat.mul_pos (by clear e1 f1 ek hm ee i1; grind) bp
  generalize ((b * b : Int) : Rat) = zz at *
  clear e1 f1 ek ee
  grind
/-- two circles that touch, one made wider and narrower -/
theorem e_pair {n : Nat} {h c s f w e : Rat} (H : Hair h) (T : Tr c s) (hf : Len f 3) (hw : Len w 3) (he : e = w ∨ e = -w) (o6 o7 o8 o9 o10 o11 o12 o13 o14 o15 o16 : Option D) (S : Sto) :
    ∃ p6 p7 p8 p9 p10 p11 p12 p13 p14, q_law_are_circles_so_2B (envC n h c s f w [some (FQ (f + e)), o6, o7, o8, o9, o10, o11, o12, o13, o14, o15, o16]) S = .nx (envC n h c s f w [some (FQ (f + e)), p6, p7, p8, p9, p10, p11, p12, p13, p14, o15, o16]) S ∨
      q_law_are_circles_so_2B (envC n h c s f w [some (FQ (f + e)), o6, o7, o8, o9, o10, o11, o12, o13, o14, o15, o16]) S = .ct (envC n h c s f w [some (FQ (f + e)), p6, p7, p8, p9, p10, p11, p12, p13, p14, o15, o16]) S := by
  have one := T.one
  have sf := hf.sq2
  have sw := hw.sq2
  have se : SQ 2 e := by rcases he with r | r <;> rw [r]; exact sw; exact sw.neg
  have ee : w * w = e * e := by rcases he with r | r <;> rw [r]; grind
  by_cases z : f + e = 0
  · refine ⟨o6, o7, o8, o9, o10, o11, o12, o13, o14, .inr ?_⟩
    have nz : (f + e).num = 0 := Rat.num_eq_zero.mpr z
    have g1 : q_law_are_circles_so_2_1 (envC n h c s f w [some (FQ (f + e)), o6, o7, o8, o9, o10, o11, o12, o13, o14, o15, o16]) S = .ct (envC n h c s f w [some (FQ (f + e)), o6, o7, o8, o9, o10, o11, o12, o13, o14, o15, o16]) S := by
      have d1 : ∀ S, dEq (.int (f + e).num) (.int 0) S = .ok (.bl true) S := fun S => by rw [dEqI, decide_eq_true nz]
      simp [q_law_are_circles_so_2_1, envC, ixQ0, d1]
      rfl
    unfold q_law_are_circles_so_2B
    rw [ap_sSeq, g1]; rfl
  · have nz : ¬ (f + e).num = 0 := num_ne z
    have sfar := sf.add se
    have tm1 := fun S => e_law_timesQ T.cc sfar S (by decide) (by decide)
    have tm2 := fun S => e_law_timesQ T.ss sfar S (by decide) (by decide)
    have tm3 := fun S => e_law_timesQ T.cc sf S (by decide) (by decide)
    have tm4 := fun S => e_law_timesQ T.ss sf S (by decide) (by decide)
    have tm5 := fun S => e_law_timesQ sf sf S (by decide) (by decide)
    have tm6 := fun S => e_law_timesQ sw sw S (by decide) (by decide)
    rw [ee] at tm6
    have hp := H.pos
    have e0 : 0 ≤ e * e := sq_ge e
    have small : 0 ≤ e * e - h := by rw [← ee]; exact hair_small hw H
    have M0 := (e_circles (y := 0) T sf se z (sq_int 0 10 0 rfl (by decide) (by decide)) (by rw [Rat.add_zero]; exact e0) S).2.1 rfl
    rw [Rat.add_zero] at M0
    obtain ⟨x, xo, rx⟩ := rpP (p := (c * f, s * f)) (n := 6) ⟨T.cc.mul sf, T.ss.mul sf⟩ (by decide)
    have nex := ne_self xo
    have sb := fun S => e_square_between (p := (c * f, s * f)) (q := (c * (f + e), s * (f + e))) (pt_of (n := 6) ⟨T.cc.mul sf, T.ss.mul sf⟩ (by decide)) (pt_of (n := 9) ⟨T.cc.mul sfar, T.ss.mul sfar⟩ (by decide)) S
    have sbe : (((c * f, s * f) : Rat × Rat).1 - ((c * (f + e), s * (f + e)) : Rat × Rat).1) * (((c * f, s * f) : Rat × Rat).1 - ((c * (f + e), s * (f + e)) : Rat × Rat).1) + (((c * f, s * f) : Rat × Rat).2 - ((c * (f + e), s * (f + e)) : Rat × Rat).2) * (((c * f, s * f) : Rat × Rat).2 - ((c * (f + e), s * (f + e)) : Rat × Rat).2) = e * e := by
      simp only
      have : (c * f - c * (f + e)) * (c * f - c * (f + e)) + (s * f - s * (f + e)) * (s * f - s * (f + e)) = e * e * (c * c + s * s) := by clear small e0 ee he; grind
      rw [this, one, Rat.mul_one]
    rw [sbe] at sb
    have ps : ∀ S, f_law_plus [FQ (e * e), FQ h] S = .ok (FQ (e * e + h)) S := fun S => e_law_plusQ (se.mul se) H.sq S (by decide) (by decide)
    have ls : ∀ S, f_law_less [FQ (e * e), FQ h] S = .ok (FQ (e * e + -h)) S := fun S => by
      have := e_law_lessQ (se.mul se) H.sq S (by decide) (by decide)
      rw [Rat.sub_eq_add_neg] at this
      exact this
    obtain ⟨big1, big2⟩ := far_big (z := 0) (far := f + e) hf hw H (by rcases he with r | r <;> rw [r]; exact .inl rfl; exact .inr (by grind)) z
    obtain ⟨most, hmost⟩ : ∃ most : Int, (if 0 < f + e then (2 : Int) else 0) = most := ⟨_, rfl⟩
    have fg : 0 < f + e ∨ f + e < 0 := by
      rcases Rat.le_total (a := 0) (b := f + e) with u | u
      · exact .inl (Rat.lt_of_le_of_ne u (fun y => z y.symm))
      · exact .inr (Rat.lt_of_le_of_ne u z)
    have fpos := hf.pos
    have c1 : (most = 2 ∧ 0 < h * (4 * f * (f + e) - h)) ∨ (most = 0 ∧ h * (4 * f * (f + e) - h) < 0) := by
      rcases fg with u | u
      · left
        refine ⟨by rw [← hmost, if_pos u], Rat.mul_pos hp ?_⟩
        have := big1 u
        clear sbe ee small; grind
      · right
        refine ⟨by rw [← hmost, if_neg (by intro v; exact absurd (Rat.le_of_lt u) (Rat.not_le.mpr v))], ?_⟩
        have := big2 u
        have q : 0 < -(4 * f * (f + e) - h) := by clear sbe ee small; grind
        have := Rat.mul_pos hp q
        rw [Rat.mul_neg] at this
        clear sbe ee small; grind
    have c2 : (2 - most = 2 ∧ 0 < -h * (4 * f * (f + e) - -h)) ∨ (2 - most = 0 ∧ -h * (4 * f * (f + e) - -h) < 0) := by
      rcases fg with u | u
      · right
        refine ⟨by rw [← hmost, if_pos u]; decide, ?_⟩
        have := big1 u
        have q : 0 < 4 * f * (f + e) - -h := by clear sbe ee small; grind
        have := Rat.mul_pos hp q
        rw [Rat.neg_mul]
        clear sbe ee small; grind
      · left
        refine ⟨by rw [← hmost, if_neg (by intro v; exact absurd (Rat.le_of_lt u) (Rat.not_le.mpr v))]; decide, ?_⟩
        have := big2 u
        have q : 0 < -(4 * f * (f + e) - -h) := by clear sbe ee small; grind
        have := Rat.mul_pos hp q
        rw [Rat.mul_neg] at this
        rw [Rat.neg_mul]
        exact this
    obtain ⟨a13, a14, w1⟩ := e_wider (n := n) (h := h) (w := w) (many := most) T sf se z H.sq (by clear sbe ee small; grind) c1 (some (FQ (f + e))) (some (PQ (c * f, s * f))) (some (FQ (e * e))) (some (.int most)) o13 o14 o15 o16 S
    obtain ⟨b13, b14, w2⟩ := e_wider (n := n) (h := h) (w := w) (many := 2 - most) T sf se z H.sq.neg (by rw [← Rat.sub_eq_add_neg]; exact small) c2 (some (FQ (f + e))) (some (PQ (c * f, s * f))) (some (FQ (e * e))) (some (.int most)) a13 a14 o15 o16 S
    refine ⟨some (PQ (c * (f + e), s * (f + e))), some (PQ (c * f, s * f)), some (FQ (f * f)), some (FQ (e * e)), some (.int most), some (FQ (e * e + -h)), some (.int (2 - most)), b13, b14, .inl ?_⟩
    have g1 : q_law_are_circles_so_2_1 (envC n h c s f w [some (FQ (f + e)), o6, o7, o8, o9, o10, o11, o12, o13, o14, o15, o16]) S = .nx (envC n h c s f w [some (FQ (f + e)), o6, o7, o8, o9, o10, o11, o12, o13, o14, o15, o16]) S := by
      have d1 : ∀ S, dEq (.int (f + e).num) (.int 0) S = .ok (.bl false) S := fun S => by rw [dEqI, decide_eq_false nz]
      simp [q_law_are_circles_so_2_1, envC, ixQ0, d1]
    have pcs : PQ (c, s) = .tup [FQ c, FQ s] := rfl
    have g2 : q_law_are_circles_so_2_2 (envC n h c s f w [some (FQ (f + e)), o6, o7, o8, o9, o10, o11, o12, o13, o14, o15, o16]) S = .nx (envC n h c s f w [some (FQ (f + e)), some (PQ (c * (f + e), s * (f + e))), o7, o8, o9, o10, o11, o12, o13, o14, o15, o16]) S := by
      simp [q_law_are_circles_so_2_2, envC, pcs, compL, wipeE, tm1, tm2, fTuple, items]
      rfl
    have g3 : q_law_are_circles_so_2_3 (envC n h c s f w [some (FQ (f + e)), some (PQ (c * (f + e), s * (f + e))), o7, o8, o9, o10, o11, o12, o13, o14, o15, o16]) S = .nx (envC n h c s f w [some (FQ (f + e)), some (PQ (c * (f + e), s * (f + e))), some (PQ (c * f, s * f)), o8, o9, o10, o11, o12, o13, o14, o15, o16]) S := by
      simp [q_law_are_circles_so_2_3, envC, pcs, compL, wipeE, tm3, tm4, fTuple, items]
      rfl
    have g4 : q_law_are_circles_so_2_4 (envC n h c s f w [some (FQ (f + e)), some (PQ (c * (f + e), s * (f + e))), some (PQ (c * f, s * f)), o8, o9, o10, o11, o12, o13, o14, o15, o16]) S = .nx (envC n h c s f w [some (FQ (f + e)), some (PQ (c * (f + e), s * (f + e))), some (PQ (c * f, s * f)), some (FQ (f * f)), some (FQ (e * e)), o10, o11, o12, o13, o14, o15, o16]) S := by
      simp [q_law_are_circles_so_2_4, envC, tm5, tm6]
    have g5 : q_law_are_circles_so_2_5 (envC n h c s f w [some (FQ (f + e)), some (PQ (c * (f + e), s * (f + e))), some (PQ (c * f, s * f)), some (FQ (f * f)), some (FQ (e * e)), o10, o11, o12, o13, o14, o15, o16]) S = .nx (envC n h c s f w [some (FQ (f + e)), some (PQ (c * (f + e), s * (f + e))), some (PQ (c * f, s * f)), some (FQ (f * f)), some (FQ (e * e)), o10, o11, o12, o13, o14, o15, o16]) S := by
      simp [q_law_are_circles_so_2_5, envC, M0, rx, nex, sb, dNeQ]
    have g6 : q_law_are_circles_so_2_6 (envC n h c s f w [some (FQ (f + e)), some (PQ (c * (f + e), s * (f + e))), some (PQ (c * f, s * f)), some (FQ (f * f)), some (FQ (e * e)), o10, o11, o12, o13, o14, o15, o16]) S = .nx (envC n h c s f w [some (FQ (f + e)), some (PQ (c * (f + e), s * (f + e))), some (PQ (c * f, s * f)), some (FQ (f * f)), some (FQ (e * e)), some (.int most), o11, o12, o13, o14, o15, o16]) S := by
      by_cases u : 0 < f + e
      · have u' := num_pos.mpr u
        rw [if_pos u] at hmost
        rw [← hmost]
        simp [q_law_are_circles_so_2_6, envC, ixQ0, u']
      · have u' : ¬ 0 < (f + e).num := fun v => u (num_pos.mp v)
        rw [if_neg u] at hmost
        rw [← hmost]
        simp [q_law_are_circles_so_2_6, envC, ixQ0, u']
    have it : (wTup (eTup (aCons (eTup (aCons (eCall f_law_plus (aCons (eVar 9) (aCons (eVar 1) (aNil)))) (aCons (eVar 10) (aNil)))) (aCons (eTup (aCons (eCall f_law_less (aCons (eVar 9) (aCons (eVar 1) (aNil)))) (aCons (eBin dSub (eC (.int 2)) (eVar 10)) (aNil)))) (aNil))))) (envC n h c s f w [some (FQ (f + e)), some (PQ (c * (f + e), s * (f + e))), some (PQ (c * f, s * f)), some (FQ (f * f)), some (FQ (e * e)), some (.int most), o11, o12, o13, o14, o15, o16]) S = .ok [.tup [FQ (e * e + h), .int most], .tup [FQ (e * e + -h), .int (2 - most)]] S := by
      simp [envC, ps, ls]
    have g7 : q_law_are_circles_so_2_7 (envC n h c s f w [some (FQ (f + e)), some (PQ (c * (f + e), s * (f + e))), some (PQ (c * f, s * f)), some (FQ (f * f)), some (FQ (e * e)), some (.int most), o11, o12, o13, o14, o15, o16]) S = .nx (envC n h c s f w [some (FQ (f + e)), some (PQ (c * (f + e), s * (f + e))), some (PQ (c * f, s * f)), some (FQ (f * f)), some (FQ (e * e)), some (.int most), some (FQ (e * e + -h)), some (.int (2 - most)), b13, b14, o15, o16]) S := by
      unfold q_law_are_circles_so_2_7
      rw [ap_sFor, it, st_ok]
      have t1 : ∀ (x y : D) (p q r t : Option D), gTupD (gsCons (gSet 11) (gsCons (gSet 12) (gsNil))) (.tup [x, y]) (envC n h c s f w [some (FQ (f + e)), some (PQ (c * (f + e), s * (f + e))), some (PQ (c * f, s * f)), some (FQ (f * f)), some (FQ (e * e)), some (.int most), p, q, r, t, o15, o16]) = some (envC n h c s f w [some (FQ (f + e)), some (PQ (c * (f + e), s * (f + e))), some (PQ (c * f, s * f)), some (FQ (f * f)), some (FQ (e * e)), some (.int most), some x, some y, r, t, o15, o16]) := fun x y p q r t => rfl
      unfold forL
      rw [t1]
      simp only [w1]
      unfold forL
      rw [t1]
      simp only [w2]
      rfl
    unfold q_law_are_circles_so_2B
    rw [ap_sSeq, g1, then_nx, ap_sSeq, g2, then_nx, ap_sSeq, g3, then_nx, ap_sSeq, g4, then_nx, ap_sSeq, g5, then_nx, ap_sSeq, g6, then_nx, g7]
theorem e_circles_so {S : Sto} {n : Nat} {k : Int} {h : Rat} (P : PotAt S n k) (hk : k < 800) (H : Hair h) : ∃ S', f_law_are_circles_so [.loc n, FQ h] S = .ok (.bl true) S' ∧ PotAt S' n (k + 7) := by
  obtain ⟨c, s, S1, t1, T, P1, L1⟩ := e_small_turn P (by omega)
  obtain ⟨f, S2, t2, hf, P2, L2⟩ := e_law_length (M := 3) P1 (by omega) (by decide) (by decide)
  obtain ⟨w, S3, t3, hw, P3, L3⟩ := e_law_length (M := 3) P2 (by omega) (by decide) (by decide)
  refine ⟨S3, ?_, P3.mono (by omega)⟩
  have g1 : q_law_are_circles_so_1 (DL.start 17 [.loc n, FQ h]) S = .nx (envC n h c s f w [none, none, none, none, none, none, none, none, none, none, none, none]) S3 := by
    simp [q_law_are_circles_so_1, DL.start, t1, t2, t3, envC]
  have ps := fun S => e_law_plusQ hf.sq2 hw.sq2 S (by decide) (by decide)
  have ls : ∀ S, f_law_less [FQ f, FQ w] S = .ok (FQ (f + -w)) S := fun S => by
    have := e_law_lessQ hf.sq2 hw.sq2 S (by decide) (by decide)
    rw [Rat.sub_eq_add_neg] at this
    exact this
  have it : (wTup (eTup (aCons (eCall f_law_plus (aCons (eVar 3) (aCons (eVar 4) (aNil)))) (aCons (eCall f_law_less (aCons (eVar 3) (aCons (eVar 4) (aNil)))) (aNil))))) (envC n h c s f w [none, none, none, none, none, none, none, none, none, none, none, none]) S3 = .ok [FQ (f + w), FQ (f + -w)] S3 := by
    simp [envC, ps, ls]
  obtain ⟨p6, p7, p8, p9, p10, p11, p12, p13, p14, w1⟩ := e_pair (n := n) H T hf hw (.inl rfl) none none none none none none none none none none none S3
  obtain ⟨r6, r7, r8, r9, r10, r11, r12, r13, r14, w2⟩ := e_pair (n := n) H T hf hw (.inr rfl) p6 p7 p8 p9 p10 p11 p12 p13 p14 none none S3
  have sa : ∀ (x : D) (o : Option D) (l : List (Option D)), (envC n h c s f w (o :: l)).set 5 (some x) = envC n h c s f w (some x :: l) := fun x o l => rfl
  have g2 : q_law_are_circles_so_2 (envC n h c s f w [none, none, none, none, none, none, none, none, none, none, none, none]) S3 = .nx (envC n h c s f w [some (FQ (f + -w)), r6, r7, r8, r9, r10, r11, r12, r13, r14, none, none]) S3 := by
    unfold q_law_are_circles_so_2
    rw [ap_sFor, it, st_ok]
    unfold forL
    rw [g_set, sa]
    rcases w1 with w1 | w1 <;> simp only [w1] <;> unfold forL <;> rw [g_set, sa] <;> rcases w2 with w2 | w2 <;> simp only [w2] <;> rfl
  unfold f_law_are_circles_so mkFn
  rw [if_pos (show [D.loc n, FQ h].length = 2 from rfl)]
  unfold m_law_are_circles_so
  rw [ap_sSeq, g1, then_nx, ap_sSeq, g2, then_nx]
  simp
end K20


set_option linter.all false
set_option autoImplicit false
set_option Elab.async false
set_option maxRecDepth 100000
set_option maxHeartbeats 4000000
/-! the plain law of k20: the law of stretches, a lap, the law -/
namespace K20
open PySem DL
theorem sg_neg (x : Rat) : sgQ (-x) = -sgQ x := by
  by_cases a : 0 < x
  · have b : -x < 0 := by grind
    have c : ¬ 0 < -x := by grind
    unfold sgQ
    rw [if_pos a, if_neg c, if_pos b]
  · by_cases b : x < 0
    · have c : 0 < -x := by grind
      unfold sgQ
      rw [if_neg a, if_pos b, if_pos c]; rfl
    · have z : x = 0 := by grind
      rw [z]; decide +kernel
theorem sg_mul {h : Rat} (hp : 0 < h) (x : Rat) : sgQ (h * x) = sgQ x := by
  unfold sgQ
  have a : 0 < h * x ↔ 0 < x := by rw [Rat.mul_pos_iff_of_pos_left hp]
  have b : h * x < 0 ↔ x < 0 := by rw [Rat.mul_neg_iff_of_pos_left hp]
  simp only [a, b]
theorem sg_nn (x y : Rat) (e : sgQ x = sgQ y) : ¬ sgQ x * sgQ y < 0 := by
  rw [e]
  have := Int.mul_self_le_mul_self (a := 0) (b := 0)
  have := sqn (sgQ y)
  omega
theorem bm {i j : Int} {x y : Nat} (h1 : i.natAbs ≤ x) (h2 : j.natAbs ≤ y) : (i * j).natAbs ≤ x * y := by
  rw [Int.natAbs_mul]; exact Nat.mul_le_mul h1 h2
theorem pg_div {t b : Int} (hb : b ≠ 0) (h1 : t.natAbs ≤ 1000000) (h2 : b.natAbs ≤ 1000000) : Pg ((t : Rat) / (b : Rat)) := by
  have l := red_le t b hb
  rw [red_rat hb] at l
  have p := den_pos ((t : Rat) / (b : Rat))
  exact ⟨Nat.le_trans l.1 h1, by
    have : ((((t : Rat) / (b : Rat)).den : Int)).natAbs ≤ b.natAbs := l.2
    omega⟩
/-- the short point's coordinate -/
theorem short_pg {A B C h : Rat} (ha : Part A) (hb : Part B) (hc : Part C) (H : Hair h) : Pg ((A + B) / 2 + (C - (A + B) / 2) * h) := by
  obtain ⟨a1, b1, e1, x1, x2, x3, x4⟩ := ha.ex
  obtain ⟨a2, b2, e2, y1, y2, y3, y4⟩ := hb.ex
  obtain ⟨a3, b3, e3, z1, z2, z3, z4⟩ := hc.ex
  obtain ⟨k, ek, k1, k2⟩ := H.ex
  have n1 : (b1 : Rat) ≠ 0 := castI_ne (by omega)
  have n2 : (b2 : Rat) ≠ 0 := castI_ne (by omega)
  have n3 : (b3 : Rat) ≠ 0 := castI_ne (by omega)
  have nk : (k : Rat) ≠ 0 := castI_ne (by omega)
  have dn : 2 * b1 * b2 * b3 * k ≠ 0 := Int.mul_ne_zero (Int.mul_ne_zero (Int.mul_ne_zero (by omega) (by omega)) (by omega)) (by omega)
  have f1 : A * (b1 : Rat) = (a1 : Rat) := by
    rw [e1]; generalize (b1 : Rat) = kk at *; generalize (a1 : Rat) = aa at *; clear e1 e2 e3 ek n2 n3 nk; grind
  have f2 : B * (b2 : Rat) = (a2 : Rat) := by
    rw [e2]; generalize (b2 : Rat) = kk at *; generalize (a2 : Rat) = aa at *; clear f1 e1 e2 e3 ek n1 n3 nk; grind
  have f3 : C * (b3 : Rat) = (a3 : Rat) := by
    rw [e3]; generalize (b3 : Rat) = kk at *; generalize (a3 : Rat) = aa at *; clear f1 f2 e1 e2 e3 ek n2 n1 nk; grind
  have hk : h * (k : Rat) = 1 := by
    rw [ek, show ((1 : Int) : Rat) = 1 from rfl]
    generalize (k : Rat) = kk at *
    clear f1 f2 f3 e1 e2 e3 n1 n2 n3; grind
  have key : ((A + B) / 2 + (C - (A + B) / 2) * h) * ((2 * b1 * b2 * b3 * k : Int) : Rat) = (((a1 * b2 + a2 * b1) * b3 * (k - 1) + 2 * (a3 * b1 * b2) : Int) : Rat) := by
    simp only [Rat.intCast_mul, Rat.intCast_add, Rat.intCast_sub, ← f1, ← f2, ← f3]
    rw [show ((2 : Int) : Rat) = 2 from rfl, show ((1 : Int) : Rat) = 1 from rfl]
    generalize (b1 : Rat) = p at *; generalize (b2 : Rat) = q at *; generalize (b3 : Rat) = r at *; generalize (k : Rat) = kk at *
    clear f1 f2 f3 e1 e2 e3 n1 n2 n3 ek nk dn
    have : ((A + B) / 2 + (C - (A + B) / 2) * h) * (2 * p * q * r * kk) = (A + B) * p * q * r * kk + (2 * C - (A + B)) * p * q * r * (h * kk) := by clear hk; grind
    rw [this, hk]; clear hk this; grind
  have e : (A + B) / 2 + (C - (A + B) / 2) * h = (((a1 * b2 + a2 * b1) * b3 * (k - 1) + 2 * (a3 * b1 * b2) : Int) : Rat) / ((2 * b1 * b2 * b3 * k : Int) : Rat) := by
    rw [← key]
    have := castI_ne dn
    generalize ((2 * b1 * b2 * b3 * k : Int) : Rat) = dd at *
    generalize (A + B) / 2 + (C - (A + B) / 2) * h = xx at *
    clear key f1 f2 f3 e1 e2 e3 ek hk; grind
  rw [e]
  have u1 : (a1 * b2).natAbs ≤ 3 * 4 := bm (by omega) (by omega)
  have u2 : (a2 * b1).natAbs ≤ 3 * 4 := bm (by omega) (by omega)
  have u3 : ((a1 * b2 + a2 * b1) * b3).natAbs ≤ 24 * 4 := bm (by omega) (by omega)
  have u4 : ((a1 * b2 + a2 * b1) * b3 * (k - 1)).natAbs ≤ 24 * 4 * 999 := bm u3 (by omega)
  have u5 : (a3 * b1 * b2).natAbs ≤ 3 * 4 * 4 := bm (bm (by omega) (by omega)) (by omega)
  have u6 : (2 * b1 * b2 * b3 * k).natAbs ≤ 2 * 4 * 4 * 4 * 1000 := bm (bm (bm (bm (by decide) (by omega)) (by omega)) (by omega)) (by omega)
  exact pg_div dn (by omega) (by omega)
theorem half_sq {n : Nat} {a b : Rat} (h : SQ n a) (k : SQ n b) : SQ (n + n + 1 + 2) ((a + b) / 2) := by
  have t : SQ 2 (2 : Rat) := sq_int 2 2 2 rfl (by decide) (by decide)
  exact (h.add k).div t (by decide)
theorem e_half {a b : Rat} (ha : SQ 3 a) (hb : SQ 3 b) (S : Sto) : mulOk a.num b.den = true ∧ mulOk b.num a.den = true ∧ mulOk 2 a.den = true ∧ mulOk (2 * (a.den : Int)) b.den = true ∧ f_law_rate [.int (a.num * b.den + b.num * a.den), .int (2 * a.den * b.den)] S = .ok (FQ ((a + b) / 2)) S := by
  have z : 2 * (a.den : Int) * b.den ≠ 0 := Int.mul_ne_zero (Int.mul_ne_zero (by decide) (den_ne a)) (den_ne b)
  have m4 := mul_lt (mul_lt (n := 2) (i := 2) (by decide) ha.b) hb.b
  have r := e_law_rateQ (t := a.num * b.den + b.num * a.den) z (up_lt m4 (by decide)) S
  have e : ((a.num * b.den + b.num * a.den : Int) : Rat) / ((2 * a.den * b.den : Int) : Rat) = (a + b) / 2 := by
    have := add_rat (a := a) (b := b)
    rw [Int.mul_assoc, Rat.intCast_mul, show ((2 : Int) : Rat) = 2 from rfl, ← this]
    generalize ((a.num * b.den + b.num * a.den : Int) : Rat) = x at *
    generalize ((a.den * b.den : Int) : Rat) = y at *
    clear r this; grind
  rw [e] at r
  exact ⟨mul_ok ha.a hb.b, mul_ok hb.a ha.b, mul_ok (n := 2) (by decide) ha.b, mul_ok (mul_lt (n := 2) (i := 2) (by decide) ha.b) hb.b, r⟩
theorem e_stretches_so {S : Sto} {n : Nat} {k : Int} {h : Rat} (P : PotAt S n k) (hk : k < 800) (H : Hair h) : ∃ S', f_law_are_stretches_so [.loc n, FQ h] S = .ok (.bl true) S' ∧ PotAt S' n (k + 18) := by
  obtain ⟨A, S1, t1, a1, a2, P1, L1⟩ := e_law_point P (by omega)
  obtain ⟨B, S2, t2, b1, b2, P2, L2⟩ := e_law_point P1 (by omega)
  obtain ⟨C, S3, t3, c1, c2, P3, L3⟩ := e_law_point P2 (by omega)
  refine ⟨S3, ?_, P3.mono (by omega)⟩
  have hA : PS 3 A := ⟨a1.sq, a2.sq⟩
  have hB : PS 3 B := ⟨b1.sq, b2.sq⟩
  have hC : PS 3 C := ⟨c1.sq, c2.sq⟩
  have pA := pt_of hA (by decide)
  have pB := pt_of hB (by decide)
  have pC := pt_of hC (by decide)
  have hp := H.pos
  have g1 : q_law_are_stretches_so_1 (DL.start 9 [.loc n, FQ h]) S = .nx [some (.loc n), some (FQ h), some (PQ A), some (PQ B), some (PQ C), none, none, none, none] S3 := by
    simp [q_law_are_stretches_so_1, DL.start, t1, t2, t3]
  obtain ⟨X, hX⟩ : ∃ X, crossQ A B C = X := ⟨_, rfl⟩
  have sd := fun S => e_side_of pA pB pC S
  rw [hX] at sd
  unfold f_law_are_stretches_so mkFn
  rw [if_pos (show [D.loc n, FQ h].length = 2 from rfl)]
  unfold m_law_are_stretches_so
  by_cases x0 : X = 0
  · have z := (sgQ_zero_iff X).mpr x0
    have g2 : q_law_are_stretches_so_2 [some (.loc n), some (FQ h), some (PQ A), some (PQ B), some (PQ C), none, none, none, none] S3 = .rt (.bl true) S3 := by
      have d1 : ∀ S, dEq (.int (sgQ X)) (.int 0) S = .ok (.bl true) S := fun S => by rw [dEqI, decide_eq_true z]
      simp [q_law_are_stretches_so_2, sd, d1]
    rw [ap_sSeq, g1, then_nx, ap_sSeq, g2]; rfl
  · have z : ¬ sgQ X = 0 := fun w => x0 ((sgQ_zero_iff X).mp w)
    have g2 : q_law_are_stretches_so_2 [some (.loc n), some (FQ h), some (PQ A), some (PQ B), some (PQ C), none, none, none, none] S3 = .nx [some (.loc n), some (FQ h), some (PQ A), some (PQ B), some (PQ C), none, none, none, none] S3 := by
      have d1 : ∀ S, dEq (.int (sgQ X)) (.int 0) S = .ok (.bl false) S := fun S => by rw [dEqI, decide_eq_false z]
      simp [q_law_are_stretches_so_2, sd, d1]
    obtain ⟨O, hO⟩ : ∃ O : Rat × Rat, ((A.1 + B.1) / 2, (A.2 + B.2) / 2) = O := ⟨_, rfl⟩
    obtain ⟨Z, hZ⟩ : ∃ Z : Rat × Rat, (O.1 + (C.1 - O.1) * h, O.2 + (C.2 - O.2) * h) = Z := ⟨_, rfl⟩
    have sO : PS 9 O := by rw [← hO]; exact ⟨half_sq hA.x hB.x, half_sq hA.y hB.y⟩
    have pO := pt_of sO (by decide)
    have pZ : Pt Z := by rw [← hZ, ← hO]; exact ⟨short_pg a1 b1 c1 H, short_pg a2 b2 c2 H⟩
    obtain ⟨u1, u2, u3, u4, u5⟩ := e_half hA.x hB.x S3
    obtain ⟨v1, v2, v3, v4, v5⟩ := e_half hA.y hB.y S3
    have pq : ∀ x y : Rat, D.tup [FQ x, FQ y] = PQ (x, y) := fun _ _ => rfl
    have g3 : q_law_are_stretches_so_3 [some (.loc n), some (FQ h), some (PQ A), some (PQ B), some (PQ C), none, none, none, none] S3 = .nx [some (.loc n), some (FQ h), some (PQ A), some (PQ B), some (PQ C), some (PQ O), none, none, none] S3 := by
      simp [q_law_are_stretches_so_3, rg2, compL, wipeE, ixP_0, ixP_1, ixQ0, ixQ1, d_mul u1, d_mul u2, d_mul u3, d_mul u4, d_mul v1, d_mul v2, d_mul v3, d_mul v4, u5, v5, fTuple, items, pq, hO]
    have l1 := fun S => e_law_lessQ hC.x sO.x S (by decide) (by decide)
    have l2 := fun S => e_law_lessQ hC.y sO.y S (by decide) (by decide)
    have m1 := fun S => e_law_timesQ (hC.x.sub sO.x) H.sq S (by decide) (by decide)
    have m2 := fun S => e_law_timesQ (hC.y.sub sO.y) H.sq S (by decide) (by decide)
    have q1 := fun S => e_law_plusQ sO.x ((hC.x.sub sO.x).mul H.sq) S (by decide) (by decide)
    have q2 := fun S => e_law_plusQ sO.y ((hC.y.sub sO.y).mul H.sq) S (by decide) (by decide)
    have g4 : q_law_are_stretches_so_4 [some (.loc n), some (FQ h), some (PQ A), some (PQ B), some (PQ C), some (PQ O), none, none, none] S3 = .nx [some (.loc n), some (FQ h), some (PQ A), some (PQ B), some (PQ C), some (PQ O), some (PQ Z), none, none] S3 := by
      simp [q_law_are_stretches_so_4, rg2, compL, wipeE, ixP_0, ixP_1, l1, l2, m1, m2, q1, q2, fTuple, items, pq, hZ]
    have o1 : O.1 + O.1 = A.1 + B.1 := by rw [← hO]; show (A.1 + B.1) / 2 + (A.1 + B.1) / 2 = _; grind
    have o2 : O.2 + O.2 = A.2 + B.2 := by rw [← hO]; show (A.2 + B.2) / 2 + (A.2 + B.2) / 2 = _; grind
    have z1 : Z.1 = O.1 + (C.1 - O.1) * h := by rw [← hZ]
    have z2 : Z.2 = O.2 + (C.2 - O.2) * h := by rw [← hZ]
    have xO : crossQ A B O = 0 := by
      unfold crossQ
      have : ((B.1 - A.1) * (O.2 - A.2) - (B.2 - A.2) * (O.1 - A.1)) = ((B.1 - A.1) * (O.2 + O.2 - A.2 - A.2) - (B.2 - A.2) * (O.1 + O.1 - A.1 - A.1)) / 2 := by clear o1 o2 z1 z2; grind
      rw [this, o1, o2]; clear o1 o2 z1 z2; grind
    have xZ : crossQ A B Z = h * X := by
      rw [← hX]
      have : crossQ A B Z = (1 - h) * crossQ A B O + h * crossQ A B C := by
        unfold crossQ; rw [z1, z2]; clear o1 o2 z1 z2 xO; grind
      rw [this, xO]; clear o1 o2 z1 z2 xO; grind
    have yC : crossQ B A C = -X := by rw [← hX]; unfold crossQ; clear o1 o2 z1 z2 xO; grind
    have yZ : crossQ B A Z = h * -X := by
      have : crossQ B A Z = -crossQ A B Z := by unfold crossQ; clear o1 o2 z1 z2 xO xZ yC; grind
      rw [this, xZ]; clear o1 o2 z1 z2 xO xZ yC; grind
    have h1 : 1 - h ≠ 0 := fun w => by
      obtain ⟨kk, ek, k1, k2⟩ := H.ex
      have nk : (kk : Rat) ≠ 0 := castI_ne (by omega)
      have hk : h * (kk : Rat) = 1 := by
        rw [ek, show ((1 : Int) : Rat) = 1 from rfl]
        generalize (kk : Rat) = q at *
        clear o1 o2 z1 z2 xO xZ yC yZ w; grind
      have : h = 1 := by clear o1 o2 z1 z2 xO xZ yC yZ hk ek; grind
      rw [this, Rat.one_mul] at hk
      have : kk = 1 := by exact_mod_cast hk
      omega
    have hX2 : (1 - h) * X ≠ 0 := fun w => by
      rcases Rat.mul_eq_zero.mp w with w | w
      · exact h1 w
      · exact x0 w
    have cB : crossQ C Z B + crossQ C Z B = (1 - h) * X := by
      rw [← hX]; unfold crossQ; rw [z1, z2]
      have : (O.1 + (C.1 - O.1) * h - C.1) * (B.2 - C.2) - (O.2 + (C.2 - O.2) * h - C.2) * (B.1 - C.1) + ((O.1 + (C.1 - O.1) * h - C.1) * (B.2 - C.2) - (O.2 + (C.2 - O.2) * h - C.2) * (B.1 - C.1)) = (1 - h) * ((O.1 + O.1 - C.1 - C.1) * (B.2 - C.2) - (O.2 + O.2 - C.2 - C.2) * (B.1 - C.1)) := by clear o1 o2 z1 z2 xO xZ yC yZ hX2; grind
      rw [this, o1, o2]; clear o1 o2 z1 z2 xO xZ yC yZ hX2 this; grind
    have cA : crossQ C Z A + crossQ C Z A = -((1 - h) * X) := by
      rw [← hX]; unfold crossQ; rw [z1, z2]
      have : (O.1 + (C.1 - O.1) * h - C.1) * (A.2 - C.2) - (O.2 + (C.2 - O.2) * h - C.2) * (A.1 - C.1) + ((O.1 + (C.1 - O.1) * h - C.1) * (A.2 - C.2) - (O.2 + (C.2 - O.2) * h - C.2) * (A.1 - C.1)) = (1 - h) * ((O.1 + O.1 - C.1 - C.1) * (A.2 - C.2) - (O.2 + O.2 - C.2 - C.2) * (A.1 - C.1)) := by clear o1 o2 z1 z2 xO xZ yC yZ hX2 cB; grind
      rw [this, o1, o2]; clear o1 o2 z1 z2 xO xZ yC yZ hX2 this cB; grind
    have nB : ¬ crossQ C Z B = 0 := fun w => hX2 (by rw [← cB, w]; decide +kernel)
    have nA : ¬ crossQ C Z A = 0 := fun w => hX2 (by
      have : -((1 - h) * X) = 0 := by rw [← cA, w]; decide +kernel
      clear o1 o2 z1 z2 xO xZ yC yZ cA cB; grind)
    have hXn : ¬ h * X = 0 := fun w => by
      rcases Rat.mul_eq_zero.mp w with w | w
      · exact ratpos_ne hp w
      · exact x0 w
    have nXn : ¬ -X = 0 := fun w => x0 (by clear o1 o2 z1 z2 xO xZ yC yZ cA cB; grind)
    have hnXn : ¬ h * -X = 0 := fun w => by
      rcases Rat.mul_eq_zero.mp w with w | w
      · exact ratpos_ne hp w
      · exact nXn w
    have onO : onQ A B O = true := by
      unfold onQ
      rw [decide_eq_true xO, Bool.true_and, decide_eq_true_eq]
      have : ((A.1 - O.1) * (B.1 - O.1) + (A.2 - O.2) * (B.2 - O.2)) = -((A.1 - O.1) * (A.1 - O.1) + (A.2 - O.2) * (A.2 - O.2)) := by
        have b1 : B.1 = O.1 + O.1 - A.1 := by rw [o1]; clear o1 o2 z1 z2 xO xZ yC yZ cA cB; grind
        have b2 : B.2 = O.2 + O.2 - A.2 := by rw [o2]; clear o1 o2 z1 z2 xO xZ yC yZ cA cB b1; grind
        rw [b1, b2]; clear o1 o2 z1 z2 xO xZ yC yZ cA cB b1 b2; grind
      rw [this]
      have s1 := sq_ge (A.1 - O.1)
      have s2 := sq_ge (A.2 - O.2)
      clear o1 o2 z1 z2 xO xZ yC yZ cA cB this
      grind
    have onZ : onQ A B Z = false := by unfold onQ; rw [xZ, decide_eq_false hXn, Bool.false_and]
    have mt1 : meetQ A B C O = true := by unfold meetQ; rw [onO]; simp
    have mt2 : meetQ C Z B A = false := by
      have q1 : onQ C Z B = false := by unfold onQ; rw [decide_eq_false nB, Bool.false_and]
      have q2 : onQ C Z A = false := by unfold onQ; rw [decide_eq_false nA, Bool.false_and]
      have q3 : onQ B A C = false := by unfold onQ; rw [yC, decide_eq_false nXn, Bool.false_and]
      have q4 : onQ B A Z = false := by unfold onQ; rw [yZ, decide_eq_false hnXn, Bool.false_and]
      have q5 : ¬ sgQ (crossQ B A C) * sgQ (crossQ B A Z) < 0 := sg_nn _ _ (by rw [yC, yZ, sg_mul hp])
      unfold meetQ
      rw [q1, q2, q3, q4, decide_eq_false q5]; simp
    have i1 := fun S => e_is_on pA pB pO S
    have i2 := fun S => e_is_on pA pB pZ S
    rw [onO] at i1
    rw [onZ] at i2
    have j1 := fun S => e_do_meet pA pB pC pO S
    have j2 := fun S => e_do_meet pC pZ pB pA S
    rw [mt1] at j1
    rw [mt2] at j2
    have g5 : q_law_are_stretches_so_5 [some (.loc n), some (FQ h), some (PQ A), some (PQ B), some (PQ C), some (PQ O), some (PQ Z), none, none] S3 = .nx [some (.loc n), some (FQ h), some (PQ A), some (PQ B), some (PQ C), some (PQ O), some (PQ Z), none, none] S3 := by
      simp [q_law_are_stretches_so_5, i1, i2, dNotB]
    have g6 : q_law_are_stretches_so_6 [some (.loc n), some (FQ h), some (PQ A), some (PQ B), some (PQ C), some (PQ O), some (PQ Z), none, none] S3 = .nx [some (.loc n), some (FQ h), some (PQ A), some (PQ B), some (PQ C), some (PQ O), some (PQ Z), none, none] S3 := by
      simp [q_law_are_stretches_so_6, j1, j2, dNotB]
    have g7 : q_law_are_stretches_so_7 [some (.loc n), some (FQ h), some (PQ A), some (PQ B), some (PQ C), some (PQ O), some (PQ Z), none, none] S3 = .nx [some (.loc n), some (FQ h), some (PQ A), some (PQ B), some (PQ C), some (PQ O), some (PQ Z), some (.int (sgQ X)), none] S3 := by
      simp [q_law_are_stretches_so_7, sd]
    have w1 := fun S => e_side_of pA pB pZ S
    have w2 := fun S => e_side_of pB pA pZ S
    rw [xZ, sg_mul hp] at w1
    rw [yZ, sg_mul hp, sg_neg] at w2
    have g8 : q_law_are_stretches_so_8 [some (.loc n), some (FQ h), some (PQ A), some (PQ B), some (PQ C), some (PQ O), some (PQ Z), some (.int (sgQ X)), none] S3 = .rt (.bl true) S3 := by
      simp [q_law_are_stretches_so_8, w1, w2, dEqI]
    rw [ap_sSeq, g1, then_nx, ap_sSeq, g2, then_nx, ap_sSeq, g3, then_nx, ap_sSeq, g4, then_nx, ap_sSeq, g5, then_nx, ap_sSeq, g6, then_nx, ap_sSeq, g7, then_nx, g8]
theorem e_lap {S : Sto} {n : Nat} {k : Int} (P : PotAt S n k) (hk : k < 700) (o1 o2 : Option D) : ∃ p2 S', q_law_right_1B [some (.loc n), o1, o2] S = .nx [some (.loc n), o1, p2] S' ∧ PotAt S' n (k + 36) := by
  obtain ⟨d, S1, t1, a1, b1, P1, L1⟩ := e_take (u := 951) P (by omega) (by omega) (by rw [e62']; omega)
  have H : Hair (((1 : Int) : Rat) / ((50 + d : Int) : Rat)) := ⟨50 + d, rfl, by omega, by omega⟩
  have hF := hairF (50 + d) (by omega)
  obtain ⟨S2, t2, P2⟩ := e_line_so P1 (by omega) H
  obtain ⟨S3, t3, P3⟩ := e_circles_so P2 (by omega) H
  obtain ⟨S4, t4, P4⟩ := e_stretches_so P3 (by omega) H
  refine ⟨some (FQ (((1 : Int) : Rat) / ((50 + d : Int) : Rat))), S4, ?_, P4.mono (by omega)⟩
  generalize (((1 : Int) : Rat) / ((50 + d : Int) : Rat)) = h at *
  have g1 : q_law_right_1_1 [some (.loc n), o1, o2] S = .nx [some (.loc n), o1, some (FQ h)] S1 := by
    simp [q_law_right_1_1, t1, hF]
  have g2 : q_law_right_1_2 [some (.loc n), o1, some (FQ h)] S1 = .nx [some (.loc n), o1, some (FQ h)] S3 := by
    simp [q_law_right_1_2, t2, t3, truD]
  have g3 : q_law_right_1_3 [some (.loc n), o1, some (FQ h)] S3 = .nx [some (.loc n), o1, some (FQ h)] S4 := by
    simp [q_law_right_1_3, t4, truD]
  unfold q_law_right_1B
  rw [ap_sSeq, g1, then_nx, ap_sSeq, g2, then_nx, g3]
theorem e_laps {n : Nat} : ∀ (ds : List D) (S : Sto) (k : Int), PotAt S n k → k + 36 * ds.length ≤ 600 → ∀ o1 o2 : Option D,
    ∃ p1 p2 S', forL (gSet 1) q_law_right_1B ds [some (.loc n), o1, o2] S = .nx [some (.loc n), p1, p2] S' ∧ Flat S'
  | [], S, k, P, hk, o1, o2 => ⟨o1, o2, S, rfl, P.2⟩
  | d :: ds, S, k, P, hk, o1, o2 => by
    simp only [List.length_cons] at hk
    obtain ⟨p2, S1, e1, P1⟩ := e_lap P (by omega) (some d) o2
    obtain ⟨q1, q2, S2, e2, F2⟩ := e_laps ds S1 (k + 36) P1 (by omega) (some d) p2
    refine ⟨q1, q2, S2, ?_, F2⟩
    show (match q_law_right_1B [some (.loc n), some d, o2] S with | .nx ρ S => forL (gSet 1) q_law_right_1B ds ρ S | .ct ρ S => forL (gSet 1) q_law_right_1B ds ρ S | .bk ρ S => .nx ρ S | .rt d S => .rt d S | .exc c v ρ S => .exc c v ρ S | .bad => .bad) = _
    rw [e1]; exact e2
theorem e_right (S : Sto) (n : Nat) (P : PotAt S n 0) : ∃ S', f_law_right [.loc n] S = .ok (.bl true) S' ∧ Flat S' := by
  obtain ⟨p1, p2, S1, e1, F1⟩ := e_laps (rngL 0 4) S 0 P (by simp) none none
  have rg : fRange1 (aCons (eC (.int 4)) aNil) [some (.loc n), none, none] S = .ok (rngL 0 4) S := rng_ok (j := 4) (by simp) (by decide) (by decide)
  refine ⟨S1, ?_, F1⟩
  unfold f_law_right mkFn
  rw [if_pos (show [D.loc n].length = 1 from rfl)]
  have st : DL.start 3 [D.loc n] = [some (.loc n), none, none] := rfl
  unfold m_law_right q_law_right_1
  rw [st, ap_sSeq, ap_sFor, rg, st_ok, e1, then_nx]
  simp
theorem law_true : ∀ ns : List Int, ns.length ≤ 63 → (∀ z ∈ ns, Builtin.Int.intBits z ≤ 1048576) → ∃ S, f_law [.lst (ns.map D.int)] [] = .ok (.bl true) S := law_true_of e_right
end K20


set_option Elab.async false
set_option linter.all false
set_option maxRecDepth 100000
/-! the end of elbowsexactly_k20_whole_circles_and_line, printed by gen.py -/
namespace K20
open PySem PySem.Spec L2 DL
open PyProof.Rows hiding St b2i
theorem law_all {P : Program} {w : World} {K : PySem.W.Frag} {mg : Str → Option Value} {base : Heap} {T : List (Addr × Str)} (G : Gl0 P K mg) (D_is_whole : DefIn K mg "is_whole" s_is_whole) (D_whole_root : DefIn K mg "whole_root" s_whole_root) (D_common : DefIn K mg "common" s_common) (D_rate : DefIn K mg "rate" s_rate) (D_is_lowest : DefIn K mg "is_lowest" s_is_lowest) (D_is_fraction : DefIn K mg "is_fraction" s_is_fraction) (D_plus : DefIn K mg "plus" s_plus) (D_less : DefIn K mg "less" s_less) (D_times : DefIn K mg "times" s_times) (D_over : DefIn K mg "over" s_over) (D_turned_sign : DefIn K mg "turned_sign" s_turned_sign) (D_squared : DefIn K mg "squared" s_squared) (D_sign_of : DefIn K mg "sign_of" s_sign_of) (D_plain : DefIn K mg "plain" s_plain) (D_made : DefIn K mg "made" s_made) (D_field_of : DefIn K mg "field_of" s_field_of) (D_added : DefIn K mg "added" s_added) (D_lessened : DefIn K mg "lessened" s_lessened) (D_scaled : DefIn K mg "scaled" s_scaled) (D_root_of : DefIn K mg "root_of" s_root_of) (D_told : DefIn K mg "told" s_told) (D_is_root : DefIn K mg "is_root" s_is_root) (D_is_number : DefIn K mg "is_number" s_is_number) (D_is_point : DefIn K mg "is_point" s_is_point) (D_look_at_point : DefIn K mg "look_at_point" s_look_at_point) (D_is_far_point : DefIn K mg "is_far_point" s_is_far_point) (D_beside : DefIn K mg "beside" s_beside) (D_square_of : DefIn K mg "square_of" s_square_of) (D_square_between : DefIn K mg "square_between" s_square_between) (D_told_side : DefIn K mg "told_side" s_told_side) (D_side_of : DefIn K mg "side_of" s_side_of) (D_told_is_on : DefIn K mg "told_is_on" s_told_is_on) (D_is_on : DefIn K mg "is_on" s_is_on) (D_told_do_meet : DefIn K mg "told_do_meet" s_told_do_meet) (D_do_meet : DefIn K mg "do_meet" s_do_meet) (D_vector : DefIn K mg "vector" s_vector) (D_told_vector : DefIn K mg "told_vector" s_told_vector) (D_moved : DefIn K mg "moved" s_moved) (D_away : DefIn K mg "away" s_away) (D_on_line : DefIn K mg "on_line" s_on_line) (D_line_through : DefIn K mg "line_through" s_line_through) (D_on_circles : DefIn K mg "on_circles" s_on_circles) (D_look_at_square : DefIn K mg "look_at_square" s_look_at_square) (D_line_meets_circle : DefIn K mg "line_meets_circle" s_line_meets_circle) (D_circles_meet : DefIn K mg "circles_meet" s_circles_meet) (D_law_pot : DefIn K mg "_law_pot" s_law_pot) (D_law_take : DefIn K mg "_law_take" s_law_take) (D_law_of : DefIn K mg "_law_of" s_law_of) (D_law_cells : DefIn K mg "_law_cells" s_law_cells) (D_law_gcd : DefIn K mg "_law_gcd" s_law_gcd) (D_law_rate : DefIn K mg "_law_rate" s_law_rate) (D_law_plus : DefIn K mg "_law_plus" s_law_plus) (D_law_is_below : DefIn K mg "_law_is_below" s_law_is_below) (D_law_root_of : DefIn K mg "_law_root_of" s_law_root_of) (D_law_el : DefIn K mg "_law_el" s_law_el) (D_law_told : DefIn K mg "_law_told" s_law_told) (D_law_brought : DefIn K mg "_law_brought" s_law_brought) (D_law_both : DefIn K mg "_law_both" s_law_both) (D_law_tidy : DefIn K mg "_law_tidy" s_law_tidy) (D_law_sum : DefIn K mg "_law_sum" s_law_sum) (D_law_product : DefIn K mg "_law_product" s_law_product) (D_law_sign : DefIn K mg "_law_sign" s_law_sign) (D_law_part : DefIn K mg "_law_part" s_law_part) (D_law_length : DefIn K mg "_law_length" s_law_length) (D_law_minus : DefIn K mg "_law_minus" s_law_minus) (D_law_less : DefIn K mg "_law_less" s_law_less) (D_law_times : DefIn K mg "_law_times" s_law_times) (D_law_point : DefIn K mg "_law_point" s_law_point) (D_law_turn_of : DefIn K mg "_law_turn_of" s_law_turn_of) (D_law_beside : DefIn K mg "_law_beside" s_law_beside) (D_law_vector : DefIn K mg "_law_vector" s_law_vector) (D_law_moved : DefIn K mg "_law_moved" s_law_moved) (D_law_cross_el : DefIn K mg "_law_cross_el" s_law_cross_el) (D_law_dot_el : DefIn K mg "_law_dot_el" s_law_dot_el) (D_law_small_turn : DefIn K mg "_law_small_turn" s_law_small_turn) (D_law_is_at : DefIn K mg "_law_is_at" s_law_is_at) (D_law_is_line_so : DefIn K mg "_law_is_line_so" s_law_is_line_so) (D_law_are_circles_so : DefIn K mg "_law_are_circles_so" s_law_are_circles_so) (D_law_are_stretches_so : DefIn K mg "_law_are_stretches_so" s_law_are_stretches_so) (D_law_right : DefIn K mg "_law_right" s_law_right) (D_law : DefIn K mg "law" s_law) : Callee P w K mg base T true 11 "law" ["script"] f_law := by
  have c_is_whole := d_is_whole (P := P) (w := w) (base := base) (T := T) G D_is_whole
  have c_whole_root := d_whole_root (P := P) (w := w) (base := base) (T := T) G D_whole_root
  have c_common := d_common (P := P) (w := w) (base := base) (T := T) G D_common
  have c_rate := d_rate (P := P) (w := w) (base := base) (T := T) G D_rate c_common
  have c_is_lowest := d_is_lowest (P := P) (w := w) (base := base) (T := T) G D_is_lowest c_is_whole c_common
  have c_is_fraction := d_is_fraction (P := P) (w := w) (base := base) (T := T) G D_is_fraction c_is_lowest
  have c_plus := d_plus (P := P) (w := w) (base := base) (T := T) G D_plus c_rate
  have c_less := d_less (P := P) (w := w) (base := base) (T := T) G D_less c_rate
  have c_times := d_times (P := P) (w := w) (base := base) (T := T) G D_times c_rate
  have c_over := d_over (P := P) (w := w) (base := base) (T := T) G D_over c_rate
  have c_turned_sign := d_turned_sign (P := P) (w := w) (base := base) (T := T) G D_turned_sign
  have c_squared := d_squared (P := P) (w := w) (base := base) (T := T) G D_squared
  have c_sign_of := d_sign_of (P := P) (w := w) (base := base) (T := T) G D_sign_of
  have c_plain := d_plain (P := P) (w := w) (base := base) (T := T) G D_plain
  have c_made := d_made (P := P) (w := w) (base := base) (T := T) G D_made
  have c_field_of := d_field_of (P := P) (w := w) (base := base) (T := T) G D_field_of
  have c_added := d_added (P := P) (w := w) (base := base) (T := T) G D_added c_field_of c_plus c_made
  have c_lessened := d_lessened (P := P) (w := w) (base := base) (T := T) G D_lessened c_field_of c_less c_made
  have c_scaled := d_scaled (P := P) (w := w) (base := base) (T := T) G D_scaled c_times c_made
  have c_root_of := d_root_of (P := P) (w := w) (base := base) (T := T) G D_root_of c_whole_root c_rate c_plain
  have c_told := d_told (P := P) (w := w) (base := base) (T := T) G D_told c_squared c_times c_less c_plus c_turned_sign c_common c_sign_of
  have c_is_root := d_is_root (P := P) (w := w) (base := base) (T := T) G D_is_root c_is_whole c_common c_whole_root
  have c_is_number := d_is_number (P := P) (w := w) (base := base) (T := T) G D_is_number c_is_lowest c_is_root
  have c_is_point := d_is_point (P := P) (w := w) (base := base) (T := T) G D_is_point c_is_fraction
  have c_look_at_point := d_look_at_point (P := P) (w := w) (base := base) (T := T) G D_look_at_point c_is_point
  have c_is_far_point := d_is_far_point (P := P) (w := w) (base := base) (T := T) G D_is_far_point c_is_number
  have c_beside := d_beside (P := P) (w := w) (base := base) (T := T) G D_beside c_less
  have c_square_of := d_square_of (P := P) (w := w) (base := base) (T := T) G D_square_of c_squared c_plus
  have c_square_between := d_square_between (P := P) (w := w) (base := base) (T := T) G D_square_between c_look_at_point c_beside c_square_of
  have c_told_side := d_told_side (P := P) (w := w) (base := base) (T := T) G D_told_side c_beside c_times c_less c_sign_of
  have c_side_of := d_side_of (P := P) (w := w) (base := base) (T := T) G D_side_of c_look_at_point c_told_side
  have c_told_is_on := d_told_is_on (P := P) (w := w) (base := base) (T := T) G D_told_is_on c_told_side c_beside c_times c_plus c_sign_of
  have c_is_on := d_is_on (P := P) (w := w) (base := base) (T := T) G D_is_on c_look_at_point c_told_is_on
  have c_told_do_meet := d_told_do_meet (P := P) (w := w) (base := base) (T := T) G D_told_do_meet c_told_side c_told_is_on
  have c_do_meet := d_do_meet (P := P) (w := w) (base := base) (T := T) G D_do_meet c_look_at_point c_told_do_meet
  have c_vector := d_vector (P := P) (w := w) (base := base) (T := T) G D_vector c_plain
  have c_told_vector := d_told_vector (P := P) (w := w) (base := base) (T := T) G D_told_vector c_told
  have c_moved := d_moved (P := P) (w := w) (base := base) (T := T) G D_moved c_added
  have c_away := d_away (P := P) (w := w) (base := base) (T := T) G D_away c_lessened
  have c_on_line := d_on_line (P := P) (w := w) (base := base) (T := T) G D_on_line c_squared c_plus c_times c_less c_sign_of c_over c_vector c_root_of c_scaled c_away c_moved
  have c_line_through := d_line_through (P := P) (w := w) (base := base) (T := T) G D_line_through c_less c_times c_plus
  have c_on_circles := d_on_circles (P := P) (w := w) (base := base) (T := T) G D_on_circles c_square_of c_plus c_less c_on_line
  have c_look_at_square := d_look_at_square (P := P) (w := w) (base := base) (T := T) G D_look_at_square c_is_fraction
  have c_line_meets_circle := d_line_meets_circle (P := P) (w := w) (base := base) (T := T) G D_line_meets_circle c_look_at_point c_look_at_square c_line_through c_on_line c_told_vector
  have c_circles_meet := d_circles_meet (P := P) (w := w) (base := base) (T := T) G D_circles_meet c_look_at_square c_look_at_point c_on_circles c_told_vector
  have c_law_pot := d_law_pot (P := P) (w := w) (base := base) (T := T) G D_law_pot
  have c_law_take := d_law_take (P := P) (w := w) (base := base) (T := T) G D_law_take
  have c_law_of := d_law_of (P := P) (w := w) (base := base) (T := T) G D_law_of c_law_take
  have c_law_cells := d_law_cells (P := P) (w := w) (base := base) (T := T) G D_law_cells
  have c_law_gcd := d_law_gcd (P := P) (w := w) (base := base) (T := T) G D_law_gcd
  have c_law_rate := d_law_rate (P := P) (w := w) (base := base) (T := T) G D_law_rate c_law_gcd
  have c_law_plus := d_law_plus (P := P) (w := w) (base := base) (T := T) G D_law_plus c_law_rate
  have c_law_is_below := d_law_is_below (P := P) (w := w) (base := base) (T := T) G D_law_is_below
  have c_law_root_of := d_law_root_of (P := P) (w := w) (base := base) (T := T) G D_law_root_of
  have c_law_el := d_law_el (P := P) (w := w) (base := base) (T := T) G D_law_el
  have c_law_told := d_law_told (P := P) (w := w) (base := base) (T := T) G D_law_told c_law_root_of c_law_rate c_law_gcd
  have c_law_brought := d_law_brought (P := P) (w := w) (base := base) (T := T) G D_law_brought c_law_root_of
  have c_law_both := d_law_both (P := P) (w := w) (base := base) (T := T) G D_law_both c_law_brought
  have c_law_tidy := d_law_tidy (P := P) (w := w) (base := base) (T := T) G D_law_tidy c_law_gcd
  have c_law_sum := d_law_sum (P := P) (w := w) (base := base) (T := T) G D_law_sum c_law_both c_law_tidy
  have c_law_product := d_law_product (P := P) (w := w) (base := base) (T := T) G D_law_product c_law_both c_law_tidy
  have c_law_sign := d_law_sign (P := P) (w := w) (base := base) (T := T) G D_law_sign
  have c_law_part := d_law_part (P := P) (w := w) (base := base) (T := T) G D_law_part c_law_of c_law_take c_law_rate
  have c_law_length := d_law_length (P := P) (w := w) (base := base) (T := T) G D_law_length c_law_of c_law_take c_law_rate
  have c_law_minus := d_law_minus (P := P) (w := w) (base := base) (T := T) G D_law_minus
  have c_law_less := d_law_less (P := P) (w := w) (base := base) (T := T) G D_law_less c_law_rate
  have c_law_times := d_law_times (P := P) (w := w) (base := base) (T := T) G D_law_times c_law_rate
  have c_law_point := d_law_point (P := P) (w := w) (base := base) (T := T) G D_law_point c_law_part
  have c_law_turn_of := d_law_turn_of (P := P) (w := w) (base := base) (T := T) G D_law_turn_of c_law_rate
  have c_law_beside := d_law_beside (P := P) (w := w) (base := base) (T := T) G D_law_beside c_law_less
  have c_law_vector := d_law_vector (P := P) (w := w) (base := base) (T := T) G D_law_vector
  have c_law_moved := d_law_moved (P := P) (w := w) (base := base) (T := T) G D_law_moved c_law_plus
  have c_law_cross_el := d_law_cross_el (P := P) (w := w) (base := base) (T := T) G D_law_cross_el c_law_product c_law_minus c_law_sum c_law_sign
  have c_law_dot_el := d_law_dot_el (P := P) (w := w) (base := base) (T := T) G D_law_dot_el c_law_product c_law_sum c_law_sign
  have c_law_small_turn := d_law_small_turn (P := P) (w := w) (base := base) (T := T) G D_law_small_turn c_law_of c_law_turn_of
  have c_law_is_at := d_law_is_at (P := P) (w := w) (base := base) (T := T) G D_law_is_at c_law_el c_law_product c_law_sum c_law_told
  have c_law_is_line_so := d_law_is_line_so (P := P) (w := w) (base := base) (T := T) G D_law_is_line_so c_law_length c_law_small_turn c_law_less c_law_times c_law_part c_law_moved c_line_meets_circle c_law_is_below c_law_plus c_is_far_point c_law_is_at c_law_beside c_law_el c_law_sum c_law_vector c_law_dot_el
  have c_law_are_circles_so := d_law_are_circles_so (P := P) (w := w) (base := base) (T := T) G D_law_are_circles_so c_law_length c_law_small_turn c_law_less c_law_plus c_law_times c_circles_meet c_square_between c_law_is_at c_law_el c_law_vector c_law_cross_el
  have c_law_are_stretches_so := d_law_are_stretches_so (P := P) (w := w) (base := base) (T := T) G D_law_are_stretches_so c_law_point c_side_of c_law_rate c_law_less c_law_times c_law_plus c_is_on c_do_meet
  have c_law_right := d_law_right (P := P) (w := w) (base := base) (T := T) G D_law_right c_law_take c_law_is_line_so c_law_are_circles_so c_law_are_stretches_so
  have c_law := d_law (P := P) (w := w) (base := base) (T := T) G D_law c_law_cells c_law_pot c_law_right
  exact c_law
end K20
open PySem PySem.W PyProof.Rows in
set_option maxRecDepth 100000 in
set_option maxHeartbeats 0 in
theorem PySem.Challenge.cw_elbowsexactly_k20_whole_circles_and_line_holds : PySem.Challenge.rw_elbowsexactly_k20_whole_circles_and_line.Holds := by
  w_on; o_law; k_head; (case hw => w_witness2)
  k_fill
  refine DL.law_walk (l := PySem.Challenge.rw_elbowsexactly_k20_whole_circles_and_line) (n := 63) (k := 11) (x := "script") (fn := K20.f_law) rfl (by decide) rfl ⟨rfl, by decide, by decide⟩ (fun w h Y => PySem.W.kIn_of Y) ?F K20.law_true
  case F =>
    intro w mg mb mean h Y KX G GT
    have D_is_whole : DL.DefOf KX mg "is_whole" K20.s_is_whole := by
      refine' DL.defIn_of KX G ?a ?l ?c ?k
      (case a => k_is); (case l => k_is); (case c => k_is); (case k => k_is)
    have D_whole_root : DL.DefOf KX mg "whole_root" K20.s_whole_root := by
      refine' DL.defIn_of KX G ?a ?l ?c ?k
      (case a => k_is); (case l => k_is); (case c => k_is); (case k => k_is)
    have D_common : DL.DefOf KX mg "common" K20.s_common := by
      refine' DL.defIn_of KX G ?a ?l ?c ?k
      (case a => k_is); (case l => k_is); (case c => k_is); (case k => k_is)
    have D_rate : DL.DefOf KX mg "rate" K20.s_rate := by
      refine' DL.defIn_of KX G ?a ?l ?c ?k
      (case a => k_is); (case l => k_is); (case c => k_is); (case k => k_is)
    have D_is_lowest : DL.DefOf KX mg "is_lowest" K20.s_is_lowest := by
      refine' DL.defIn_of KX G ?a ?l ?c ?k
      (case a => k_is); (case l => k_is); (case c => k_is); (case k => k_is)
    have D_is_fraction : DL.DefOf KX mg "is_fraction" K20.s_is_fraction := by
      refine' DL.defIn_of KX G ?a ?l ?c ?k
      (case a => k_is); (case l => k_is); (case c => k_is); (case k => k_is)
    have D_plus : DL.DefOf KX mg "plus" K20.s_plus := by
      refine' DL.defIn_of KX G ?a ?l ?c ?k
      (case a => k_is); (case l => k_is); (case c => k_is); (case k => k_is)
    have D_less : DL.DefOf KX mg "less" K20.s_less := by
      refine' DL.defIn_of KX G ?a ?l ?c ?k
      (case a => k_is); (case l => k_is); (case c => k_is); (case k => k_is)
    have D_times : DL.DefOf KX mg "times" K20.s_times := by
      refine' DL.defIn_of KX G ?a ?l ?c ?k
      (case a => k_is); (case l => k_is); (case c => k_is); (case k => k_is)
    have D_over : DL.DefOf KX mg "over" K20.s_over := by
      refine' DL.defIn_of KX G ?a ?l ?c ?k
      (case a => k_is); (case l => k_is); (case c => k_is); (case k => k_is)
    have D_turned_sign : DL.DefOf KX mg "turned_sign" K20.s_turned_sign := by
      refine' DL.defIn_of KX G ?a ?l ?c ?k
      (case a => k_is); (case l => k_is); (case c => k_is); (case k => k_is)
    have D_squared : DL.DefOf KX mg "squared" K20.s_squared := by
      refine' DL.defIn_of KX G ?a ?l ?c ?k
      (case a => k_is); (case l => k_is); (case c => k_is); (case k => k_is)
    have D_sign_of : DL.DefOf KX mg "sign_of" K20.s_sign_of := by
      refine' DL.defIn_of KX G ?a ?l ?c ?k
      (case a => k_is); (case l => k_is); (case c => k_is); (case k => k_is)
    have D_plain : DL.DefOf KX mg "plain" K20.s_plain := by
      refine' DL.defIn_of KX G ?a ?l ?c ?k
      (case a => k_is); (case l => k_is); (case c => k_is); (case k => k_is)
    have D_made : DL.DefOf KX mg "made" K20.s_made := by
      refine' DL.defIn_of KX G ?a ?l ?c ?k
      (case a => k_is); (case l => k_is); (case c => k_is); (case k => k_is)
    have D_field_of : DL.DefOf KX mg "field_of" K20.s_field_of := by
      refine' DL.defIn_of KX G ?a ?l ?c ?k
      (case a => k_is); (case l => k_is); (case c => k_is); (case k => k_is)
    have D_added : DL.DefOf KX mg "added" K20.s_added := by
      refine' DL.defIn_of KX G ?a ?l ?c ?k
      (case a => k_is); (case l => k_is); (case c => k_is); (case k => k_is)
    have D_lessened : DL.DefOf KX mg "lessened" K20.s_lessened := by
      refine' DL.defIn_of KX G ?a ?l ?c ?k
      (case a => k_is); (case l => k_is); (case c => k_is); (case k => k_is)
    have D_scaled : DL.DefOf KX mg "scaled" K20.s_scaled := by
      refine' DL.defIn_of KX G ?a ?l ?c ?k
      (case a => k_is); (case l => k_is); (case c => k_is); (case k => k_is)
    have D_root_of : DL.DefOf KX mg "root_of" K20.s_root_of := by
      refine' DL.defIn_of KX G ?a ?l ?c ?k
      (case a => k_is); (case l => k_is); (case c => k_is); (case k => k_is)
    have D_told : DL.DefOf KX mg "told" K20.s_told := by
      refine' DL.defIn_of KX G ?a ?l ?c ?k
      (case a => k_is); (case l => k_is); (case c => k_is); (case k => k_is)
    have D_is_root : DL.DefOf KX mg "is_root" K20.s_is_root := by
      refine' DL.defIn_of KX G ?a ?l ?c ?k
      (case a => k_is); (case l => k_is); (case c => k_is); (case k => k_is)
    have D_is_number : DL.DefOf KX mg "is_number" K20.s_is_number := by
      refine' DL.defIn_of KX G ?a ?l ?c ?k
      (case a => k_is); (case l => k_is); (case c => k_is); (case k => k_is)
    have D_is_point : DL.DefOf KX mg "is_point" K20.s_is_point := by
      refine' DL.defIn_of KX G ?a ?l ?c ?k
      (case a => k_is); (case l => k_is); (case c => k_is); (case k => k_is)
    have D_look_at_point : DL.DefOf KX mg "look_at_point" K20.s_look_at_point := by
      refine' DL.defIn_of KX G ?a ?l ?c ?k
      (case a => k_is); (case l => k_is); (case c => k_is); (case k => k_is)
    have D_is_far_point : DL.DefOf KX mg "is_far_point" K20.s_is_far_point := by
      refine' DL.defIn_of KX G ?a ?l ?c ?k
      (case a => k_is); (case l => k_is); (case c => k_is); (case k => k_is)
    have D_beside : DL.DefOf KX mg "beside" K20.s_beside := by
      refine' DL.defIn_of KX G ?a ?l ?c ?k
      (case a => k_is); (case l => k_is); (case c => k_is); (case k => k_is)
    have D_square_of : DL.DefOf KX mg "square_of" K20.s_square_of := by
      refine' DL.defIn_of KX G ?a ?l ?c ?k
      (case a => k_is); (case l => k_is); (case c => k_is); (case k => k_is)
    have D_square_between : DL.DefOf KX mg "square_between" K20.s_square_between := by
      refine' DL.defIn_of KX G ?a ?l ?c ?k
      (case a => k_is); (case l => k_is); (case c => k_is); (case k => k_is)
    have D_told_side : DL.DefOf KX mg "told_side" K20.s_told_side := by
      refine' DL.defIn_of KX G ?a ?l ?c ?k
      (case a => k_is); (case l => k_is); (case c => k_is); (case k => k_is)
    have D_side_of : DL.DefOf KX mg "side_of" K20.s_side_of := by
      refine' DL.defIn_of KX G ?a ?l ?c ?k
      (case a => k_is); (case l => k_is); (case c => k_is); (case k => k_is)
    have D_told_is_on : DL.DefOf KX mg "told_is_on" K20.s_told_is_on := by
      refine' DL.defIn_of KX G ?a ?l ?c ?k
      (case a => k_is); (case l => k_is); (case c => k_is); (case k => k_is)
    have D_is_on : DL.DefOf KX mg "is_on" K20.s_is_on := by
      refine' DL.defIn_of KX G ?a ?l ?c ?k
      (case a => k_is); (case l => k_is); (case c => k_is); (case k => k_is)
    have D_told_do_meet : DL.DefOf KX mg "told_do_meet" K20.s_told_do_meet := by
      refine' DL.defIn_of KX G ?a ?l ?c ?k
      (case a => k_is); (case l => k_is); (case c => k_is); (case k => k_is)
    have D_do_meet : DL.DefOf KX mg "do_meet" K20.s_do_meet := by
      refine' DL.defIn_of KX G ?a ?l ?c ?k
      (case a => k_is); (case l => k_is); (case c => k_is); (case k => k_is)
    have D_vector : DL.DefOf KX mg "vector" K20.s_vector := by
      refine' DL.defIn_of KX G ?a ?l ?c ?k
      (case a => k_is); (case l => k_is); (case c => k_is); (case k => k_is)
    have D_told_vector : DL.DefOf KX mg "told_vector" K20.s_told_vector := by
      refine' DL.defIn_of KX G ?a ?l ?c ?k
      (case a => k_is); (case l => k_is); (case c => k_is); (case k => k_is)
    have D_moved : DL.DefOf KX mg "moved" K20.s_moved := by
      refine' DL.defIn_of KX G ?a ?l ?c ?k
      (case a => k_is); (case l => k_is); (case c => k_is); (case k => k_is)
    have D_away : DL.DefOf KX mg "away" K20.s_away := by
      refine' DL.defIn_of KX G ?a ?l ?c ?k
      (case a => k_is); (case l => k_is); (case c => k_is); (case k => k_is)
    have D_on_line : DL.DefOf KX mg "on_line" K20.s_on_line := by
      refine' DL.defIn_of KX G ?a ?l ?c ?k
      (case a => k_is); (case l => k_is); (case c => k_is); (case k => k_is)
    have D_line_through : DL.DefOf KX mg "line_through" K20.s_line_through := by
      refine' DL.defIn_of KX G ?a ?l ?c ?k
      (case a => k_is); (case l => k_is); (case c => k_is); (case k => k_is)
    have D_on_circles : DL.DefOf KX mg "on_circles" K20.s_on_circles := by
      refine' DL.defIn_of KX G ?a ?l ?c ?k
      (case a => k_is); (case l => k_is); (case c => k_is); (case k => k_is)
    have D_look_at_square : DL.DefOf KX mg "look_at_square" K20.s_look_at_square := by
      refine' DL.defIn_of KX G ?a ?l ?c ?k
      (case a => k_is); (case l => k_is); (case c => k_is); (case k => k_is)
    have D_line_meets_circle : DL.DefOf KX mg "line_meets_circle" K20.s_line_meets_circle := by
      refine' DL.defIn_of KX G ?a ?l ?c ?k
      (case a => k_is); (case l => k_is); (case c => k_is); (case k => k_is)
    have D_circles_meet : DL.DefOf KX mg "circles_meet" K20.s_circles_meet := by
      refine' DL.defIn_of KX G ?a ?l ?c ?k
      (case a => k_is); (case l => k_is); (case c => k_is); (case k => k_is)
    have D_law_pot : DL.DefOf KX mg "_law_pot" K20.s_law_pot := by
      refine' DL.defIn_of KX G ?a ?l ?c ?k
      (case a => k_is); (case l => k_is); (case c => k_is); (case k => k_is)
    have D_law_take : DL.DefOf KX mg "_law_take" K20.s_law_take := by
      refine' DL.defIn_of KX G ?a ?l ?c ?k
      (case a => k_is); (case l => k_is); (case c => k_is); (case k => k_is)
    have D_law_of : DL.DefOf KX mg "_law_of" K20.s_law_of := by
      refine' DL.defIn_of KX G ?a ?l ?c ?k
      (case a => k_is); (case l => k_is); (case c => k_is); (case k => k_is)
    have D_law_cells : DL.DefOf KX mg "_law_cells" K20.s_law_cells := by
      refine' DL.defIn_of KX G ?a ?l ?c ?k
      (case a => k_is); (case l => k_is); (case c => k_is); (case k => k_is)
    have D_law_gcd : DL.DefOf KX mg "_law_gcd" K20.s_law_gcd := by
      refine' DL.defIn_of KX G ?a ?l ?c ?k
      (case a => k_is); (case l => k_is); (case c => k_is); (case k => k_is)
    have D_law_rate : DL.DefOf KX mg "_law_rate" K20.s_law_rate := by
      refine' DL.defIn_of KX G ?a ?l ?c ?k
      (case a => k_is); (case l => k_is); (case c => k_is); (case k => k_is)
    have D_law_plus : DL.DefOf KX mg "_law_plus" K20.s_law_plus := by
      refine' DL.defIn_of KX G ?a ?l ?c ?k
      (case a => k_is); (case l => k_is); (case c => k_is); (case k => k_is)
    have D_law_is_below : DL.DefOf KX mg "_law_is_below" K20.s_law_is_below := by
      refine' DL.defIn_of KX G ?a ?l ?c ?k
      (case a => k_is); (case l => k_is); (case c => k_is); (case k => k_is)
    have D_law_root_of : DL.DefOf KX mg "_law_root_of" K20.s_law_root_of := by
      refine' DL.defIn_of KX G ?a ?l ?c ?k
      (case a => k_is); (case l => k_is); (case c => k_is); (case k => k_is)
    have D_law_el : DL.DefOf KX mg "_law_el" K20.s_law_el := by
      refine' DL.defIn_of KX G ?a ?l ?c ?k
      (case a => k_is); (case l => k_is); (case c => k_is); (case k => k_is)
    have D_law_told : DL.DefOf KX mg "_law_told" K20.s_law_told := by
      refine' DL.defIn_of KX G ?a ?l ?c ?k
      (case a => k_is); (case l => k_is); (case c => k_is); (case k => k_is)
    have D_law_brought : DL.DefOf KX mg "_law_brought" K20.s_law_brought := by
      refine' DL.defIn_of KX G ?a ?l ?c ?k
      (case a => k_is); (case l => k_is); (case c => k_is); (case k => k_is)
    have D_law_both : DL.DefOf KX mg "_law_both" K20.s_law_both := by
      refine' DL.defIn_of KX G ?a ?l ?c ?k
      (case a => k_is); (case l => k_is); (case c => k_is); (case k => k_is)
    have D_law_tidy : DL.DefOf KX mg "_law_tidy" K20.s_law_tidy := by
      refine' DL.defIn_of KX G ?a ?l ?c ?k
      (case a => k_is); (case l => k_is); (case c => k_is); (case k => k_is)
    have D_law_sum : DL.DefOf KX mg "_law_sum" K20.s_law_sum := by
      refine' DL.defIn_of KX G ?a ?l ?c ?k
      (case a => k_is); (case l => k_is); (case c => k_is); (case k => k_is)
    have D_law_product : DL.DefOf KX mg "_law_product" K20.s_law_product := by
      refine' DL.defIn_of KX G ?a ?l ?c ?k
      (case a => k_is); (case l => k_is); (case c => k_is); (case k => k_is)
    have D_law_sign : DL.DefOf KX mg "_law_sign" K20.s_law_sign := by
      refine' DL.defIn_of KX G ?a ?l ?c ?k
      (case a => k_is); (case l => k_is); (case c => k_is); (case k => k_is)
    have D_law_part : DL.DefOf KX mg "_law_part" K20.s_law_part := by
      refine' DL.defIn_of KX G ?a ?l ?c ?k
      (case a => k_is); (case l => k_is); (case c => k_is); (case k => k_is)
    have D_law_length : DL.DefOf KX mg "_law_length" K20.s_law_length := by
      refine' DL.defIn_of KX G ?a ?l ?c ?k
      (case a => k_is); (case l => k_is); (case c => k_is); (case k => k_is)
    have D_law_minus : DL.DefOf KX mg "_law_minus" K20.s_law_minus := by
      refine' DL.defIn_of KX G ?a ?l ?c ?k
      (case a => k_is); (case l => k_is); (case c => k_is); (case k => k_is)
    have D_law_less : DL.DefOf KX mg "_law_less" K20.s_law_less := by
      refine' DL.defIn_of KX G ?a ?l ?c ?k
      (case a => k_is); (case l => k_is); (case c => k_is); (case k => k_is)
    have D_law_times : DL.DefOf KX mg "_law_times" K20.s_law_times := by
      refine' DL.defIn_of KX G ?a ?l ?c ?k
      (case a => k_is); (case l => k_is); (case c => k_is); (case k => k_is)
    have D_law_point : DL.DefOf KX mg "_law_point" K20.s_law_point := by
      refine' DL.defIn_of KX G ?a ?l ?c ?k
      (case a => k_is); (case l => k_is); (case c => k_is); (case k => k_is)
    have D_law_turn_of : DL.DefOf KX mg "_law_turn_of" K20.s_law_turn_of := by
      refine' DL.defIn_of KX G ?a ?l ?c ?k
      (case a => k_is); (case l => k_is); (case c => k_is); (case k => k_is)
    have D_law_beside : DL.DefOf KX mg "_law_beside" K20.s_law_beside := by
      refine' DL.defIn_of KX G ?a ?l ?c ?k
      (case a => k_is); (case l => k_is); (case c => k_is); (case k => k_is)
    have D_law_vector : DL.DefOf KX mg "_law_vector" K20.s_law_vector := by
      refine' DL.defIn_of KX G ?a ?l ?c ?k
      (case a => k_is); (case l => k_is); (case c => k_is); (case k => k_is)
    have D_law_moved : DL.DefOf KX mg "_law_moved" K20.s_law_moved := by
      refine' DL.defIn_of KX G ?a ?l ?c ?k
      (case a => k_is); (case l => k_is); (case c => k_is); (case k => k_is)
    have D_law_cross_el : DL.DefOf KX mg "_law_cross_el" K20.s_law_cross_el := by
      refine' DL.defIn_of KX G ?a ?l ?c ?k
      (case a => k_is); (case l => k_is); (case c => k_is); (case k => k_is)
    have D_law_dot_el : DL.DefOf KX mg "_law_dot_el" K20.s_law_dot_el := by
      refine' DL.defIn_of KX G ?a ?l ?c ?k
      (case a => k_is); (case l => k_is); (case c => k_is); (case k => k_is)
    have D_law_small_turn : DL.DefOf KX mg "_law_small_turn" K20.s_law_small_turn := by
      refine' DL.defIn_of KX G ?a ?l ?c ?k
      (case a => k_is); (case l => k_is); (case c => k_is); (case k => k_is)
    have D_law_is_at : DL.DefOf KX mg "_law_is_at" K20.s_law_is_at := by
      refine' DL.defIn_of KX G ?a ?l ?c ?k
      (case a => k_is); (case l => k_is); (case c => k_is); (case k => k_is)
    have D_law_is_line_so : DL.DefOf KX mg "_law_is_line_so" K20.s_law_is_line_so := by
      refine' DL.defIn_of KX G ?a ?l ?c ?k
      (case a => k_is); (case l => k_is); (case c => k_is); (case k => k_is)
    have D_law_are_circles_so : DL.DefOf KX mg "_law_are_circles_so" K20.s_law_are_circles_so := by
      refine' DL.defIn_of KX G ?a ?l ?c ?k
      (case a => k_is); (case l => k_is); (case c => k_is); (case k => k_is)
    have D_law_are_stretches_so : DL.DefOf KX mg "_law_are_stretches_so" K20.s_law_are_stretches_so := by
      refine' DL.defIn_of KX G ?a ?l ?c ?k
      (case a => k_is); (case l => k_is); (case c => k_is); (case k => k_is)
    have D_law_right : DL.DefOf KX mg "_law_right" K20.s_law_right := by
      refine' DL.defIn_of KX G ?a ?l ?c ?k
      (case a => k_is); (case l => k_is); (case c => k_is); (case k => k_is)
    have D_law : DL.DefOf KX mg "law" K20.s_law := by
      refine' DL.defIn_of KX G ?a ?l ?c ?k
      (case a => k_is); (case l => k_is); (case c => k_is); (case k => k_is)
    have c_MOST : DL.CstOf KX mg "MOST" K20.k_MOST := by
      refine' DL.cst_of (n := 30) KX G ?a ?e
      (case a => k_is); (case e => kernel_rfl)
    have c_NOWHERE : DL.CstOf KX mg "NOWHERE" K20.k_NOWHERE := by
      refine' DL.cst_of (n := 30) KX G ?a ?e
      (case a => k_is); (case e => kernel_rfl)
    have c_ZERO : DL.CstOf KX mg "ZERO" K20.k_ZERO := by
      refine' DL.cst_of (n := 30) KX G ?a ?e
      (case a => k_is); (case e => kernel_rfl)
    have A_BadFraction : DL.ArmOf KX PySem.Challenge.rw_elbowsexactly_k20_whole_circles_and_line.prog "BadFraction" := by
      refine' ⟨_, _, _, DL.arm_mk KX ?aC ?aD ?xL ?hb ?sa ?ga ?gg ?noN ?iC ?tC ?kC ?exC ?vC ?tyC ?hdC ?clD ?mD ?sm ?ca ?cn ?ctk ?cm ?th ?zlf ?zcd ?zlc ?zhv ?zhf ?zle ?ztop⟩
      (case aC => first | k_is | kernel_rfl); (case aD => first | k_is | kernel_rfl); (case xL => first | k_is | kernel_rfl); (case hb => decide +kernel); (case sa => first | k_is | kernel_rfl); (case ga => first | k_is | kernel_rfl); (case gg => first | k_is | kernel_rfl); (case noN => first | k_is | kernel_rfl); (case iC => first | k_is | kernel_rfl); (case tC => first | k_is | kernel_rfl); (case kC => first | k_is | kernel_rfl); (case exC => first | k_is | kernel_rfl); (case vC => first | k_is | kernel_rfl); (case tyC => first | k_is | kernel_rfl); (case hdC => first | k_is | kernel_rfl); (case clD => first | k_is | kernel_rfl); (case mD => first | k_is | kernel_rfl); (case sm => first | k_is | kernel_rfl); (case ca => first | k_is | kernel_rfl); (case cn => first | k_is | kernel_rfl); (case ctk => first | k_is | kernel_rfl); (case cm => first | k_is | kernel_rfl); (case th => first | k_is | kernel_rfl); (case zlf => first | k_is | kernel_rfl); (case zcd => first | k_is | kernel_rfl); (case zlc => first | k_is | kernel_rfl); (case zhv => rfl); (case zhf => first | rfl | decide +kernel); (case zle => first | k_is | kernel_rfl); (case ztop => first | rfl | decide +kernel)
    have A_BadPoint : DL.ArmOf KX PySem.Challenge.rw_elbowsexactly_k20_whole_circles_and_line.prog "BadPoint" := by
      refine' ⟨_, _, _, DL.arm_mk KX ?aC ?aD ?xL ?hb ?sa ?ga ?gg ?noN ?iC ?tC ?kC ?exC ?vC ?tyC ?hdC ?clD ?mD ?sm ?ca ?cn ?ctk ?cm ?th ?zlf ?zcd ?zlc ?zhv ?zhf ?zle ?ztop⟩
      (case aC => first | k_is | kernel_rfl); (case aD => first | k_is | kernel_rfl); (case xL => first | k_is | kernel_rfl); (case hb => decide +kernel); (case sa => first | k_is | kernel_rfl); (case ga => first | k_is | kernel_rfl); (case gg => first | k_is | kernel_rfl); (case noN => first | k_is | kernel_rfl); (case iC => first | k_is | kernel_rfl); (case tC => first | k_is | kernel_rfl); (case kC => first | k_is | kernel_rfl); (case exC => first | k_is | kernel_rfl); (case vC => first | k_is | kernel_rfl); (case tyC => first | k_is | kernel_rfl); (case hdC => first | k_is | kernel_rfl); (case clD => first | k_is | kernel_rfl); (case mD => first | k_is | kernel_rfl); (case sm => first | k_is | kernel_rfl); (case ca => first | k_is | kernel_rfl); (case cn => first | k_is | kernel_rfl); (case ctk => first | k_is | kernel_rfl); (case cm => first | k_is | kernel_rfl); (case th => first | k_is | kernel_rfl); (case zlf => first | k_is | kernel_rfl); (case zcd => first | k_is | kernel_rfl); (case zlc => first | k_is | kernel_rfl); (case zhv => rfl); (case zhf => first | rfl | decide +kernel); (case zle => first | k_is | kernel_rfl); (case ztop => first | rfl | decide +kernel)
    have A_Unlike : DL.ArmOf KX PySem.Challenge.rw_elbowsexactly_k20_whole_circles_and_line.prog "Unlike" := by
      refine' ⟨_, _, _, DL.arm_mk KX ?aC ?aD ?xL ?hb ?sa ?ga ?gg ?noN ?iC ?tC ?kC ?exC ?vC ?tyC ?hdC ?clD ?mD ?sm ?ca ?cn ?ctk ?cm ?th ?zlf ?zcd ?zlc ?zhv ?zhf ?zle ?ztop⟩
      (case aC => first | k_is | kernel_rfl); (case aD => first | k_is | kernel_rfl); (case xL => first | k_is | kernel_rfl); (case hb => decide +kernel); (case sa => first | k_is | kernel_rfl); (case ga => first | k_is | kernel_rfl); (case gg => first | k_is | kernel_rfl); (case noN => first | k_is | kernel_rfl); (case iC => first | k_is | kernel_rfl); (case tC => first | k_is | kernel_rfl); (case kC => first | k_is | kernel_rfl); (case exC => first | k_is | kernel_rfl); (case vC => first | k_is | kernel_rfl); (case tyC => first | k_is | kernel_rfl); (case hdC => first | k_is | kernel_rfl); (case clD => first | k_is | kernel_rfl); (case mD => first | k_is | kernel_rfl); (case sm => first | k_is | kernel_rfl); (case ca => first | k_is | kernel_rfl); (case cn => first | k_is | kernel_rfl); (case ctk => first | k_is | kernel_rfl); (case cm => first | k_is | kernel_rfl); (case th => first | k_is | kernel_rfl); (case zlf => first | k_is | kernel_rfl); (case zcd => first | k_is | kernel_rfl); (case zlc => first | k_is | kernel_rfl); (case zhv => rfl); (case zhf => first | rfl | decide +kernel); (case zle => first | k_is | kernel_rfl); (case ztop => first | rfl | decide +kernel)
    have X_BadFraction : DL.ExcOf KX mg PySem.Challenge.rw_elbowsexactly_k20_whole_circles_and_line.prog "BadFraction" := by
      refine' DL.exc_mk KX G A_BadFraction ?z
      (case z => k_is)
    have X_BadPoint : DL.ExcOf KX mg PySem.Challenge.rw_elbowsexactly_k20_whole_circles_and_line.prog "BadPoint" := by
      refine' DL.exc_mk KX G A_BadPoint ?z
      (case z => k_is)
    have X_Unlike : DL.ExcOf KX mg PySem.Challenge.rw_elbowsexactly_k20_whole_circles_and_line.prog "Unlike" := by
      refine' DL.exc_mk KX G A_Unlike ?z
      (case z => k_is)
    have b_abs : mg "abs" = none := by
      refine' PySem.W.mg_none_of KX G ?a
      (case a => k_is)
    have b_all : mg "all" = none := by
      refine' PySem.W.mg_none_of KX G ?a
      (case a => k_is)
    have b_any : mg "any" = none := by
      refine' PySem.W.mg_none_of KX G ?a
      (case a => k_is)
    have b_bool : mg "bool" = none := by
      refine' PySem.W.mg_none_of KX G ?a
      (case a => k_is)
    have b_int : mg "int" = none := by
      refine' PySem.W.mg_none_of KX G ?a
      (case a => k_is)
    have b_isinstance : mg "isinstance" = none := by
      refine' PySem.W.mg_none_of KX G ?a
      (case a => k_is)
    have b_len : mg "len" = none := by
      refine' PySem.W.mg_none_of KX G ?a
      (case a => k_is)
    have b_list : mg "list" = none := by
      refine' PySem.W.mg_none_of KX G ?a
      (case a => k_is)
    have b_max : mg "max" = none := by
      refine' PySem.W.mg_none_of KX G ?a
      (case a => k_is)
    have b_min : mg "min" = none := by
      refine' PySem.W.mg_none_of KX G ?a
      (case a => k_is)
    have b_range : mg "range" = none := by
      refine' PySem.W.mg_none_of KX G ?a
      (case a => k_is)
    have b_repr : mg "repr" = none := by
      refine' PySem.W.mg_none_of KX G ?a
      (case a => k_is)
    have b_sum : mg "sum" = none := by
      refine' PySem.W.mg_none_of KX G ?a
      (case a => k_is)
    have b_tuple : mg "tuple" = none := by
      refine' PySem.W.mg_none_of KX G ?a
      (case a => k_is)
    have SUB : DL.SubOf KX mg PySem.Challenge.rw_elbowsexactly_k20_whole_circles_and_line.prog K20.sub0 := by
      refine ⟨fun c c' b e => ?_⟩
      unfold K20.sub0 at e
      split at e
      · (rename_i hh; obtain ⟨rfl, rfl⟩ := hh; cases e; refine' DL.sub_mk KX G A_BadFraction ?a1 ?a ?k ?e; (case a1 => k_is); (case a => k_is); (case k => first | k_is | kernel_rfl); (case e => first | k_is | kernel_rfl))
      split at e
      · (rename_i hh; obtain ⟨rfl, rfl⟩ := hh; cases e; refine' DL.sub_mk KX G A_BadFraction ?a1 ?a ?k ?e; (case a1 => k_is); (case a => k_is); (case k => first | k_is | kernel_rfl); (case e => first | k_is | kernel_rfl))
      split at e
      · (rename_i hh; obtain ⟨rfl, rfl⟩ := hh; cases e; refine' DL.sub_mk KX G A_BadPoint ?a1 ?a ?k ?e; (case a1 => k_is); (case a => k_is); (case k => first | k_is | kernel_rfl); (case e => first | k_is | kernel_rfl))
      split at e
      · (rename_i hh; obtain ⟨rfl, rfl⟩ := hh; cases e; refine' DL.sub_mk KX G A_BadPoint ?a1 ?a ?k ?e; (case a1 => k_is); (case a => k_is); (case k => first | k_is | kernel_rfl); (case e => first | k_is | kernel_rfl))
      split at e
      · (rename_i hh; obtain ⟨rfl, rfl⟩ := hh; cases e; refine' DL.sub_mk KX G A_Unlike ?a1 ?a ?k ?e; (case a1 => k_is); (case a => k_is); (case k => first | k_is | kernel_rfl); (case e => first | k_is | kernel_rfl))
      split at e
      · (rename_i hh; obtain ⟨rfl, rfl⟩ := hh; cases e; refine' DL.sub_mk KX G A_Unlike ?a1 ?a ?k ?e; (case a1 => k_is); (case a => k_is); (case k => first | k_is | kernel_rfl); (case e => first | k_is | kernel_rfl))
      · cases e
    have GL := (⟨b_abs, b_all, b_any, b_bool, b_int, b_isinstance, b_len, b_list, b_max, b_min, b_range, b_repr, b_sum, b_tuple, c_MOST, c_NOWHERE, c_ZERO, X_BadFraction, X_BadPoint, X_Unlike, SUB⟩ : K20.Gl0 PySem.Challenge.rw_elbowsexactly_k20_whole_circles_and_line.prog _ mg)
    exact ⟨_, [], [], (by simp), (by simp), (by simp), (by simp), fun base KB GB TB => K20.law_all GL D_is_whole D_whole_root D_common D_rate D_is_lowest D_is_fraction D_plus D_less D_times D_over D_turned_sign D_squared D_sign_of D_plain D_made D_field_of D_added D_lessened D_scaled D_root_of D_told D_is_root D_is_number D_is_point D_look_at_point D_is_far_point D_beside D_square_of D_square_between D_told_side D_side_of D_told_is_on D_is_on D_told_do_meet D_do_meet D_vector D_told_vector D_moved D_away D_on_line D_line_through D_on_circles D_look_at_square D_line_meets_circle D_circles_meet D_law_pot D_law_take D_law_of D_law_cells D_law_gcd D_law_rate D_law_plus D_law_is_below D_law_root_of D_law_el D_law_told D_law_brought D_law_both D_law_tidy D_law_sum D_law_product D_law_sign D_law_part D_law_length D_law_minus D_law_less D_law_times D_law_point D_law_turn_of D_law_beside D_law_vector D_law_moved D_law_cross_el D_law_dot_el D_law_small_turn D_law_is_at D_law_is_line_so D_law_are_circles_so D_law_are_stretches_so D_law_right D_law⟩
#print axioms PySem.Challenge.cw_elbowsexactly_k20_whole_circles_and_line_holds


