import PyProof.Rows.All
import Wide.All
import OpenK.AllK
import Wide.FinOn
import HandS.ForMost
import HandS.EndBits
import HandS.Exc
import HandS.ExcOwn
import HandS.WordsExc
import HandS.TryOnly
import HandS.Codes
import HandS.Wide
import HandS.WideBits
import HandS.FStr
import HandS.RaiseMore
import HandS.TupAny
import HandS.Zip
import HandS.Deep
import HandS.IsInst
import PySem.Challenge.RW_halftruths_k65_texts_there_and_back
import KE.KIntText
import PyProof.Rows.StrIntSpec
set_option autoImplicit false
/-! Mirror: values as trees, a mirror heap, results, combinators. Plain Lean. -/
namespace Mir

inductive D where
  | non | bl (b : Bool) | int (i : Int) | str (s : List Nat) | tup (ds : List D) | rl (ds : List D) | loc (n : Nat)
  deriving Inhabited, Repr

mutual
def D.decEq : (a b : D) → Decidable (a = b)
  | .non, .non => isTrue rfl
  | .bl a, .bl b => if h : a = b then isTrue (by rw [h]) else isFalse (fun e => h (D.bl.inj e))
  | .int a, .int b => if h : a = b then isTrue (by rw [h]) else isFalse (fun e => h (D.int.inj e))
  | .str a, .str b => if h : a = b then isTrue (by rw [h]) else isFalse (fun e => h (D.str.inj e))
  | .loc a, .loc b => if h : a = b then isTrue (by rw [h]) else isFalse (fun e => h (D.loc.inj e))
  | .tup a, .tup b => match D.decEqs a b with
    | isTrue h => isTrue (by rw [h])
    | isFalse h => isFalse (fun e => h (D.tup.inj e))
  | .rl a, .rl b => match D.decEqs a b with
    | isTrue h => isTrue (by rw [h])
    | isFalse h => isFalse (fun e => h (D.rl.inj e))
  | .non, .bl _ | .non, .int _ | .non, .str _ | .non, .tup _ | .non, .rl _ | .non, .loc _ => isFalse nofun
  | .bl _, .non | .bl _, .int _ | .bl _, .str _ | .bl _, .tup _ | .bl _, .rl _ | .bl _, .loc _ => isFalse nofun
  | .int _, .non | .int _, .bl _ | .int _, .str _ | .int _, .tup _ | .int _, .rl _ | .int _, .loc _ => isFalse nofun
  | .str _, .non | .str _, .bl _ | .str _, .int _ | .str _, .tup _ | .str _, .rl _ | .str _, .loc _ => isFalse nofun
  | .tup _, .non | .tup _, .bl _ | .tup _, .int _ | .tup _, .str _ | .tup _, .rl _ | .tup _, .loc _ => isFalse nofun
  | .rl _, .non | .rl _, .bl _ | .rl _, .int _ | .rl _, .str _ | .rl _, .tup _ | .rl _, .loc _ => isFalse nofun
  | .loc _, .non | .loc _, .bl _ | .loc _, .int _ | .loc _, .str _ | .loc _, .tup _ | .loc _, .rl _ => isFalse nofun
def D.decEqs : (a b : List D) → Decidable (a = b)
  | [], [] => isTrue rfl
  | [], _ :: _ => isFalse nofun
  | _ :: _, [] => isFalse nofun
  | a :: as, b :: bs => match D.decEq a b, D.decEqs as bs with
    | isTrue h, isTrue h' => isTrue (by rw [h, h'])
    | isFalse h, _ => isFalse (fun e => h (List.cons.inj e).1)
    | _, isFalse h => isFalse (fun e => h (List.cons.inj e).2)
end
instance : DecidableEq D := D.decEq

/-- objects of the mirror heap: a list, a dict, an instance of a class -/
inductive MO where
  | lst (xs : List D) | dic (kvs : List (D × D)) | ins (c : String) (fs : List (String × D))
  deriving Inhabited, Repr, DecidableEq
abbrev MH := List MO
abbrev En := List (Option D)

/-- what an expression comes to -/
inductive R (α : Type) where
  | ok (a : α) (h : MH)
  | exc (c : String) (fs : List (String × D)) (h : MH)
  | stuck
/-- what a statement comes to -/
inductive SR where
  | nx (ρ : En) (h : MH) | rt (d : D) (h : MH) | bk (ρ : En) (h : MH) | ct (ρ : En) (h : MH)
  | exc (c : String) (fs : List (String × D)) (ρ : En) (h : MH)
  | stuck

abbrev ME := En → MH → R D
abbrev MA := En → MH → R (List D)
abbrev MT := En → MH → R Bool
abbrev MS := En → MH → SR
abbrev MF := List D → MH → R D

def R.bind {α β : Type} (r : R α) (f : α → MH → R β) : R β := match r with
  | .ok a h => f a h
  | .exc c fs h => .exc c fs h
  | .stuck => .stuck
def R.toS {α : Type} (r : R α) (ρ : En) (k : α → MH → SR) : SR := match r with
  | .ok a h => k a h
  | .exc c fs h => .exc c fs ρ h
  | .stuck => .stuck
def SR.andThen (r : SR) (k : En → MH → SR) : SR := match r with
  | .nx ρ h => k ρ h
  | .rt d h => .rt d h
  | .bk ρ h => .bk ρ h
  | .ct ρ h => .ct ρ h
  | .exc c fs ρ h => .exc c fs ρ h
  | .stuck => .stuck
/-- behind a turn of a loop's body -/
def SR.turn (r : SR) (k : En → MH → SR) : SR := match r with
  | .nx ρ h => k ρ h
  | .ct ρ h => k ρ h
  | .bk ρ h => .nx ρ h
  | .rt d h => .rt d h
  | .exc c fs ρ h => .exc c fs ρ h
  | .stuck => .stuck

section
variable {α β : Type} (a : α) (h : MH) (c : String) (fs : List (String × D)) (ρ ρ' : En) (d : D)
@[simp] theorem bind_ok (f : α → MH → R β) : (R.ok a h).bind f = f a h := rfl
@[simp] theorem bind_exc (f : α → MH → R β) : (R.exc c fs h).bind f = .exc c fs h := rfl
@[simp] theorem bind_stuck (f : α → MH → R β) : (R.stuck : R α).bind f = .stuck := rfl
@[simp] theorem toS_ok (k : α → MH → SR) : (R.ok a h).toS ρ k = k a h := rfl
@[simp] theorem toS_exc (k : α → MH → SR) : (R.exc c fs h).toS ρ k = .exc c fs ρ h := rfl
@[simp] theorem toS_stuck (k : α → MH → SR) : (R.stuck : R α).toS ρ k = .stuck := rfl
@[simp] theorem then_nx (k : En → MH → SR) : (SR.nx ρ h).andThen k = k ρ h := rfl
@[simp] theorem then_rt (k : En → MH → SR) : (SR.rt d h).andThen k = .rt d h := rfl
@[simp] theorem then_bk (k : En → MH → SR) : (SR.bk ρ h).andThen k = .bk ρ h := rfl
@[simp] theorem then_ct (k : En → MH → SR) : (SR.ct ρ h).andThen k = .ct ρ h := rfl
@[simp] theorem then_exc (k : En → MH → SR) : (SR.exc c fs ρ h).andThen k = .exc c fs ρ h := rfl
@[simp] theorem then_stuck (k : En → MH → SR) : SR.stuck.andThen k = .stuck := rfl
@[simp] theorem turn_nx (k : En → MH → SR) : (SR.nx ρ h).turn k = k ρ h := rfl
@[simp] theorem turn_rt (k : En → MH → SR) : (SR.rt d h).turn k = .rt d h := rfl
@[simp] theorem turn_bk (k : En → MH → SR) : (SR.bk ρ h).turn k = .nx ρ h := rfl
@[simp] theorem turn_ct (k : En → MH → SR) : (SR.ct ρ h).turn k = k ρ h := rfl
@[simp] theorem turn_exc (k : En → MH → SR) : (SR.exc c fs ρ h).turn k = .exc c fs ρ h := rfl
@[simp] theorem turn_stuck (k : En → MH → SR) : SR.stuck.turn k = .stuck := rfl
end

/-! ### expressions -/
def eLit (d : D) : ME := fun _ h => .ok d h
def eVar (i : Nat) : ME := fun ρ h => match ρ[i]? with
  | some (some d) => .ok d h
  | _ => .stuck
def eBin (f : D → D → MH → R D) (a b : ME) : ME := fun ρ h => (a ρ h).bind fun x h1 => (b ρ h1).bind fun y h2 => f x y h2
def eUn (f : D → MH → R D) (a : ME) : ME := fun ρ h => (a ρ h).bind f
def aNil : MA := fun _ h => .ok [] h
def aCons (a : ME) (as : MA) : MA := fun ρ h => (a ρ h).bind fun x h1 => (as ρ h1).bind fun xs h2 => .ok (x :: xs) h2
/-- a built-in, by the values of its arguments -/
def eApp (f : MF) (as : MA) : ME := fun ρ h => (as ρ h).bind f
def eTup (as : MA) : ME := fun ρ h => (as ρ h).bind fun xs h1 => if xs.length ≤ 100000 then .ok (.tup xs) h1 else .stuck
def eLst (as : MA) : ME := fun ρ h => (as ρ h).bind fun xs h1 => if xs.length ≤ 100000 then .ok (.loc h1.length) (h1 ++ [.lst xs]) else .stuck
def eIf (t : MT) (a b : ME) : ME := fun ρ h => (t ρ h).bind fun c h1 => if c = true then a ρ h1 else b ρ h1
/-- and, or, not of bools, as values -/
def eAnd (a b : ME) : ME := fun ρ h => (a ρ h).bind fun x h1 => match x with
  | .bl c => if c = true then b ρ h1 else .ok (.bl false) h1
  | _ => .stuck
def eOr (a b : ME) : ME := fun ρ h => (a ρ h).bind fun x h1 => match x with
  | .bl c => if c = true then .ok (.bl true) h1 else b ρ h1
  | _ => .stuck
def eNot (a : ME) : ME := fun ρ h => (a ρ h).bind fun x h1 => match x with
  | .bl c => .ok (.bl (!c)) h1
  | _ => .stuck
/-- a op1 b op2 c -/
def eChain (f g : D → D → MH → R D) (a b c : ME) : ME := fun ρ h => (a ρ h).bind fun x h1 => (b ρ h1).bind fun y h2 => (f x y h2).bind fun z h3 => match z with
  | .bl k => if k = true then (c ρ h3).bind fun w h4 => g y w h4 else .ok (.bl false) h3
  | _ => .stuck

/-! ### tests -/
def tVal (a : ME) : MT := fun ρ h => (a ρ h).bind fun x h1 => match x with
  | .bl c => .ok c h1
  | _ => .stuck
def tAnd (a b : MT) : MT := fun ρ h => (a ρ h).bind fun c h1 => if c = true then b ρ h1 else .ok false h1
def tOr (a b : MT) : MT := fun ρ h => (a ρ h).bind fun c h1 => if c = true then .ok true h1 else b ρ h1
def tNot (a : MT) : MT := fun ρ h => (a ρ h).bind fun c h1 => .ok (!c) h1
def tYes : MT := fun _ h => .ok true h

/-! ### targets that bind names -/
abbrev MB := D → En → Option En
def bName (i : Nat) : MB := fun d ρ => some (ρ.set i (some d))
def bsNil : List D → En → Option En := fun ds ρ => match ds with
  | [] => some ρ
  | _ => none
def bsCons (b : MB) (bs : List D → En → Option En) : List D → En → Option En := fun ds ρ => match ds with
  | d :: r => (b d ρ).bind fun ρ1 => bs r ρ1
  | [] => none
def bTup (bs : List D → En → Option En) : MB := fun d ρ => match d with
  | .tup ds => bs ds ρ
  | _ => none

/-! ### what is walked -/
structure Itb where
  items : List D
  watch : List (Nat × MO)
def Itb.same (I : Itb) (h : MH) : Bool := I.watch.all fun p => decide (h[p.1]? = some p.2)
abbrev MI := En → MH → R Itb

/-! ### comprehensions -/
def wipeM (ρ : En) : List Nat → En
  | [] => ρ
  | v :: vs => (wipeM ρ vs).set v none
def compGo (I : Itb) (b : MB) (t : MT) (e : ME) (ρ : En) : List D → List D → MH → R (List D)
  | [], acc, h => if I.same h = true then .ok acc h else .stuck
  | x :: xs, acc, h => if I.same h = true then
      match b x ρ with
      | some ρ1 => match t ρ1 h with
        | .ok c h1 => if c = true then
            match e ρ1 h1 with
            | .ok y h2 => compGo I b t e ρ xs (acc ++ [y]) h2
            | _ => .stuck
          else compGo I b t e ρ xs acc h1
        | _ => .stuck
      | none => .stuck
    else .stuck
def eComp (it : MI) (b : MB) (t : MT) (e : ME) (vs : List Nat) : ME := fun ρ h => (it ρ h).bind fun I h1 =>
  (compGo I b t e (wipeM ρ vs) I.items [] h1).bind fun ds h2 => if ds.length ≤ 100000 then .ok (.loc h2.length) (h2 ++ [.lst ds]) else .stuck

/-! ### statements -/
def sNil : MS := fun ρ h => .nx ρ h
def sCons (a b : MS) : MS := fun ρ h => (a ρ h).andThen b
def sSet (i : Nat) (e : ME) : MS := fun ρ h => (e ρ h).toS ρ fun d h1 => .nx (ρ.set i (some d)) h1
def sExpr (e : ME) : MS := fun ρ h => (e ρ h).toS ρ fun _ h1 => .nx ρ h1
def sRet (e : ME) : MS := fun ρ h => (e ρ h).toS ρ fun d h1 => .rt d h1
def sRetN : MS := fun _ h => .rt .non h
def sIf (t : MT) (a b : MS) : MS := fun ρ h => (t ρ h).toS ρ fun c h1 => if c = true then a ρ h1 else b ρ h1
def sPass : MS := sNil
def sBreak : MS := fun ρ h => .bk ρ h
def sCont : MS := fun ρ h => .ct ρ h
def sNever : MS := fun _ _ => .stuck
/-- names = a value -/
def sBind (b : MB) (e : ME) : MS := fun ρ h => (e ρ h).toS ρ fun d h1 => match b d ρ with
  | some ρ1 => .nx ρ1 h1
  | none => .stuck
/-- i, j = a, b -/
def sPar (is : List Nat) (as : MA) : MS := fun ρ h => (as ρ h).toS ρ fun ds h1 => if ds.length = is.length then .nx ((is.zip ds).foldl (fun ρ p => ρ.set p.1 (some p.2)) ρ) h1 else .stuck
/-- i op= e -/
def sAug (i : Nat) (f : D → D → MH → R D) (e : ME) : MS := fun ρ h => match ρ[i]? with
  | some (some x) => (e ρ h).toS ρ fun y h1 => (f x y h1).toS ρ fun z h2 => .nx (ρ.set i (some z)) h2
  | _ => .stuck
/-- d[k] = e -/
def putD (kvs : List (D × D)) (k v : D) : List (D × D) := if (kvs.any fun p => decide (p.1 = k)) = true then kvs.map (fun p => if p.1 = k then (p.1, v) else p) else kvs ++ [(k, v)]
def isKey : D → Bool
  | .int _ | .str _ => true
  | _ => false
def sPut (o i e : ME) : MS := fun ρ h => (e ρ h).toS ρ fun v h1 => (o ρ h1).toS ρ fun x h2 => (i ρ h2).toS ρ fun y h3 => match x with
  | .loc n => match h3[n]? with
    | some (.dic kvs) => if isKey y = true ∧ kvs.length < 100000 then .nx ρ (h3.set n (.dic (putD kvs y v))) else .stuck
    | _ => .stuck
  | _ => .stuck
/-- o.f = e -/
def putF (fs : List (String × D)) (f : String) (v : D) : List (String × D) := match fs with
  | [] => [(f, v)]
  | (g, w) :: r => if g = f then (g, v) :: r else (g, w) :: putF r f v
def sFld (c : String) (f : String) (o e : ME) : MS := fun ρ h => (e ρ h).toS ρ fun v h1 => (o ρ h1).toS ρ fun x h2 => match x with
  | .loc n => match h2[n]? with
    | some (.ins c' fs) => if c' = c ∧ fs.length < 900 then .nx ρ (h2.set n (.ins c' (putF fs f v))) else .stuck
    | _ => .stuck
  | _ => .stuck
/-- o.f op= e -/
def sFldAug (c : String) (f : String) (op : D → D → MH → R D) (o e : ME) : MS := fun ρ h => (o ρ h).toS ρ fun x h1 => match x with
  | .loc n => match h1[n]? with
    | some (.ins c' fs) => if c' = c then match fs.lookup f with
      | some v => (e ρ h1).toS ρ fun y h2 => (op v y h2).toS ρ fun z h3 => match h3[n]? with
        | some (.ins c2 fs2) => if c2 = c ∧ fs2.length < 900 then .nx ρ (h3.set n (.ins c2 (putF fs2 f z))) else .stuck
        | _ => .stuck
      | none => .stuck
      else .stuck
    | _ => .stuck
  | _ => .stuck
/-- o.f -/
def mFld (c : String) (f : String) (x : D) (h : MH) : R D := match x with
  | .loc n => match h[n]? with
    | some (.ins c' fs) => if c' = c then match fs.lookup f with
      | some v => .ok v h
      | none => .stuck
      else .stuck
    | _ => .stuck
  | _ => .stuck
/-- {k: v, ..} -/
abbrev MP := En → MH → R (List (D × D))
def pNil : MP := fun _ h => .ok [] h
def pCons (k v : ME) (ps : MP) : MP := fun ρ h => (k ρ h).bind fun x h1 => (v ρ h1).bind fun y h2 => (ps ρ h2).bind fun qs h3 => .ok ((x, y) :: qs) h3
def eDict (ps : MP) : ME := fun ρ h => (ps ρ h).bind fun kvs h1 => if kvs.length ≤ 15 ∧ (kvs.all fun p => isKey p.1) = true ∧ (kvs.map (·.1)).Nodup then .ok (.loc h1.length) (h1 ++ [.dic kvs]) else .stuck
/-- a loop over items -/
def forGo (I : Itb) (b : MB) (body : MS) : List D → En → MH → SR
  | [], ρ, h => if I.same h = true then .nx ρ h else .stuck
  | x :: xs, ρ, h => if I.same h = true then
      match b x ρ with
      | some ρ1 => (body ρ1 h).turn fun ρ2 h2 => forGo I b body xs ρ2 h2
      | none => .stuck
    else .stuck
def sFor (it : MI) (b : MB) (body : MS) : MS := fun ρ h => (it ρ h).toS ρ fun I h1 => forGo I b body I.items ρ h1
/-- a while loop of at most so many turns -/
def iterW (t : MT) (body : MS) : Nat → En → MH → SR
  | 0, _, _ => .stuck
  | n + 1, ρ, h => (t ρ h).toS ρ fun c h1 => if c = true then (body ρ h1).turn fun ρ2 h2 => iterW t body n ρ2 h2 else .nx ρ h1
open Classical in
noncomputable def sWhile (t : MT) (body : MS) : MS := fun ρ h =>
  if p : ∃ n, iterW t body n ρ h ≠ .stuck then iterW t body (Classical.choose p) ρ h else .stuck
theorem SR.turn_mono {r : SR} {k k' : En → MH → SR} (hk : ∀ ρ h, k ρ h ≠ .stuck → k' ρ h = k ρ h) (hr : r.turn k ≠ .stuck) : r.turn k' = r.turn k := by
  cases r with
  | nx ρ h => exact hk ρ h hr
  | ct ρ h => exact hk ρ h hr
  | _ => rfl
theorem iterW_mono (t : MT) (body : MS) : ∀ (n : Nat) (ρ : En) (h : MH), iterW t body n ρ h ≠ .stuck → iterW t body (n + 1) ρ h = iterW t body n ρ h
  | 0, _, _, q => absurd rfl q
  | n + 1, ρ, h, q => by
    unfold iterW at q ⊢
    cases ht : t ρ h with
    | exc => rfl
    | stuck => rfl
    | ok c h1 =>
      rw [ht] at q
      simp only [toS_ok] at q ⊢
      cases c with
      | false => rfl
      | true =>
        simp only [if_true] at q ⊢
        exact SR.turn_mono (fun ρ2 h2 q2 => iterW_mono t body n ρ2 h2 q2) q
theorem iterW_le (t : MT) (body : MS) {n m : Nat} {ρ : En} {h : MH} (hnm : n ≤ m) (q : iterW t body n ρ h ≠ .stuck) : iterW t body m ρ h = iterW t body n ρ h := by
  induction hnm with
  | refl => rfl
  | step _ ih => rw [iterW_mono t body _ ρ h (by rw [ih]; exact q), ih]
theorem sWhile_of {t : MT} {body : MS} {n : Nat} {ρ : En} {h : MH} (q : iterW t body n ρ h ≠ .stuck) : sWhile t body ρ h = iterW t body n ρ h := by
  have p : ∃ n, iterW t body n ρ h ≠ .stuck := ⟨n, q⟩
  unfold sWhile
  rw [dif_pos p]
  have c := Classical.choose_spec p
  rcases Nat.le_total n (Classical.choose p) with l | l
  · exact iterW_le t body l q
  · exact (iterW_le t body l c).symm
theorem sWhile_some {t : MT} {body : MS} {ρ : En} {h : MH} (q : sWhile t body ρ h ≠ .stuck) : ∃ n, iterW t body n ρ h = sWhile t body ρ h := by
  unfold sWhile at q ⊢
  split at q
  · rename_i p
    rw [dif_pos p]
    exact ⟨_, rfl⟩
  · exact absurd rfl q
/-- one turn -/
theorem sWhile_eq (t : MT) (body : MS) (ρ : En) (h : MH) : sWhile t body ρ h = (t ρ h).toS ρ fun c h1 => if c = true then (body ρ h1).turn fun ρ2 h2 => sWhile t body ρ2 h2 else .nx ρ h1 := by
  have up : ∀ (r : SR) (k k' : En → MH → SR), (∀ ρ h, k ρ h = k' ρ h) → r.turn k = r.turn k' := fun r k k' e => by
    cases r <;> simp [e]
  cases ht : t ρ h with
  | stuck =>
    have a : ∀ n, iterW t body n ρ h = .stuck := fun n => by cases n with
      | zero => rfl
      | succ n => unfold iterW; rw [ht]; rfl
    unfold sWhile
    rw [dif_neg (fun ⟨n, q⟩ => q (a n))]
    rfl
  | exc c fs h1 =>
    have a : iterW t body 1 ρ h = .exc c fs ρ h1 := by unfold iterW; rw [ht]; rfl
    rw [sWhile_of (n := 1) (by rw [a]; exact nofun), a]
    rfl
  | ok c h1 =>
    simp only [toS_ok]
    cases c with
    | false =>
      have a : iterW t body 1 ρ h = .nx ρ h1 := by unfold iterW; rw [ht]; rfl
      rw [sWhile_of (n := 1) (by rw [a]; exact nofun), a]
      rfl
    | true =>
      simp only [if_true]
      have a : ∀ n, iterW t body (n + 1) ρ h = (body ρ h1).turn fun ρ2 h2 => iterW t body n ρ2 h2 := fun n => by
        rw [iterW, ht]; rfl
      -- either the rest comes to something, or nothing does
      cases hb : body ρ h1 with
      | rt d h2 =>
        have e := a 0
        rw [hb] at e
        rw [sWhile_of (n := 1) (by rw [e]; exact nofun), e]
        rfl
      | bk ρ2 h2 =>
        have e := a 0
        rw [hb] at e
        rw [sWhile_of (n := 1) (by rw [e]; exact nofun), e]
        rfl
      | exc c fs ρ2 h2 =>
        have e := a 0
        rw [hb] at e
        rw [sWhile_of (n := 1) (by rw [e]; exact nofun), e]
        rfl
      | stuck =>
        have z : ∀ n, iterW t body n ρ h = .stuck := fun n => by cases n with
          | zero => rfl
          | succ n => rw [a, hb]; rfl
        unfold sWhile
        rw [dif_neg (fun ⟨n, q⟩ => q (z n))]
        rfl
      | nx ρ2 h2 =>
        simp only [turn_nx]
        by_cases p : ∃ n, iterW t body n ρ2 h2 ≠ .stuck
        · obtain ⟨n, q⟩ := p
          have e := a n
          rw [hb] at e
          simp only [turn_nx] at e
          rw [sWhile_of q, sWhile_of (n := n + 1) (by rw [e]; exact q), e]
        · have e2 : sWhile t body ρ2 h2 = .stuck := by unfold sWhile; rw [dif_neg p]
          have z : ∀ n, iterW t body n ρ h = .stuck := fun n => by cases n with
            | zero => rfl
            | succ n =>
              rw [a, hb]
              simp only [turn_nx]
              exact Classical.byContradiction fun q => p ⟨n, q⟩
          rw [e2]
          unfold sWhile
          rw [dif_neg (fun ⟨n, q⟩ => q (z n))]
      | ct ρ2 h2 =>
        simp only [turn_ct]
        by_cases p : ∃ n, iterW t body n ρ2 h2 ≠ .stuck
        · obtain ⟨n, q⟩ := p
          have e := a n
          rw [hb] at e
          simp only [turn_ct] at e
          rw [sWhile_of q, sWhile_of (n := n + 1) (by rw [e]; exact q), e]
        · have e2 : sWhile t body ρ2 h2 = .stuck := by unfold sWhile; rw [dif_neg p]
          have z : ∀ n, iterW t body n ρ h = .stuck := fun n => by cases n with
            | zero => rfl
            | succ n =>
              rw [a, hb]
              simp only [turn_ct]
              exact Classical.byContradiction fun q => p ⟨n, q⟩
          rw [e2]
          unfold sWhile
          rw [dif_neg (fun ⟨n, q⟩ => q (z n))]
end Mir
namespace Mir
/-! ### what a call leaves behind -/
mutual
def D.bel (n : Nat) : D → Bool
  | .tup ds => D.bels n ds
  | .rl ds => D.bels n ds
  | .loc k => decide (k < n)
  | .non | .bl _ | .int _ | .str _ => true
def D.bels (n : Nat) : List D → Bool
  | [] => true
  | d :: ds => D.bel n d && D.bels n ds
end
def MO.bel (n : Nat) : MO → Bool
  | .lst xs => D.bels n xs
  | .dic kvs => kvs.all fun p => D.bel n p.1 && D.bel n p.2
  | .ins _ fs => fs.all fun p => D.bel n p.2
/-- the first n objects lean on themselves alone -/
def wf (n : Nat) (h : MH) : Bool := (h.take n).all (MO.bel n)
/-- behind a call at a heap of n objects: what nobody can reach any more is dropped -/
def gc (n : Nat) (r : R D) : R D := match r with
  | .ok d h => if wf n h && D.bel n d then .ok d (h.take n) else match d with
    | .loc k => match h[k]? with
      | some o => if decide (n ≤ k) && wf n h && MO.bel n o then .ok (.loc n) (h.take n ++ [o]) else .ok d h
      | none => .ok d h
    | _ => .ok d h
  | .exc c fs h => if wf n h && fs.all (fun p => D.bel n p.2) then .exc c fs (h.take n) else .exc c fs h
  | .stuck => .stuck
/-- a body run at arguments; N: the number of its names -/
def runB (b : MS) (N : Nat) (ds : List D) (h : MH) : R D := match b (ds.map some ++ List.replicate (N - ds.length) none) h with
  | .nx _ h' => .ok .non h'
  | .rt d h' => .ok d h'
  | .exc c fs _ h' => .exc c fs h'
  | _ => .stuck
/-- a def of P parameters -/
def fnM (P N : Nat) (b : MS) : MF := fun ds h => if ds.length = P then gc h.length (runB b N ds h) else .stuck
/-- o.m(..), by the method's mirror -/
def methK (m : String) (c : String) (f : MF) (as : MA) (ρ : En) (x : D) (h1 : MH) : R D := match x with
  | .loc n => match h1[n]? with
    | some (.ins c' fs) => if c' = c ∧ fs.lookup m = none then (as ρ h1).bind fun ds h2 => f (.loc n :: ds) h2 else .stuck
    | _ => .stuck
  | _ => .stuck
def eMeth (m : String) (c : String) (f : MF) (o : ME) (as : MA) : ME := fun ρ h => (o ρ h).bind fun x h1 => methK m c f as ρ x h1
/-- C(..) -/
def eMake (c : String) (f : MF) (as : MA) : ME := fun ρ h => (as ρ h).bind fun ds h1 => (f (.loc h1.length :: ds) (h1 ++ [.ins c []])).bind fun x h2 => match x with
  | .non => .ok (.loc h1.length) h2
  | _ => .stuck
end Mir
set_option Elab.async false
set_option linter.all false
set_option maxRecDepth 100000
set_option autoImplicit false
/-! Mirror: what a mirror value stands for in the abstract heap; soundness of the combinators over HandS. -/
namespace Mir
open PySem PySem.Spec PyProof.Rows L2

/-- a text by its codes -/
abbrev tx (l : List Nat) : Str := ⟨l.toArray⟩
/-- a name of the program by its letters -/
abbrev nm (s : String) : Str := Str.ofString s

/-- a list that nobody writes -/
def RoL (K : PySem.W.Frag) (H : Hp) (a : Addr) (vs : List V) : Prop := (∃ o, H a = some (.frz o (.lst vs))) ∨
  ∃ (o : Obj) (its : Array Value) (n : Nat), K.lookup a = some o ∧ o.cls = .type "list" ∧ o.dict = none ∧ o.data = .seq its n ∧ its.size ≤ sizeLine ∧ Vals vs its.toList
theorem RoL.sq {K : PySem.W.Frag} {H : Hp} {a : Addr} {vs : List V} (h : RoL K H a vs) : SqL K H a vs := h.elim (fun h => .inl (.inr h)) .inr
section
variable (K : PySem.W.Frag) (μ : List Addr) (H : Hp)
mutual
/-- a mirror value stands for a value -/
inductive RV : D → V → Prop
  | non : RV .non .non
  | bl (b : Bool) : RV (.bl b) (.bl b)
  | int (i : Int) : RV (.int i) (.int i)
  | str (s : List Nat) : RV (.str s) (.str (tx s))
  | tup {a : Addr} {vs : List V} {ds : List D} (h : SqT K H a vs) (r : RVs ds vs) : RV (.tup ds) (.ref a)
  | rl {a : Addr} {vs : List V} {ds : List D} (h : RoL K H a vs) (r : RVs ds vs) : RV (.rl ds) (.ref a)
  | loc {n : Nat} {a : Addr} (h : μ[n]? = some a) : RV (.loc n) (.ref a)
inductive RVs : List D → List V → Prop
  | nil : RVs [] []
  | cons {d : D} {v : V} {ds : List D} {vs : List V} (h : RV d v) (r : RVs ds vs) : RVs (d :: ds) (v :: vs)
end
end

section
variable (K : PySem.W.Frag) (mg : Str → Option Value) (μ : List Addr) (H : Hp)
/-- fields of an instance -/
def RF : List (String × D) → List (Str × V) → Prop
  | [], [] => True
  | (f, d) :: fs, (g, v) :: gs => g = nm f ∧ RV K μ H d v ∧ RF fs gs
  | _, _ => False
/-- pairs of a dict -/
def RK : List (D × D) → List (Key × V) → Prop
  | [], [] => True
  | (k, d) :: r, (k', v) :: r' => RV K μ H k (kV k') ∧ RV K μ H d v ∧ RK r r'
  | _, _ => False
/-- a mirror object stands at a -/
def RO (a : Addr) : MO → Prop
  | .lst xs => ∃ vs, H a = some (.lst vs) ∧ RVs K μ H xs vs
  | .dic kvs => ∃ ws, H a = some (.dK ws) ∧ RK K μ H kvs ws
  | .ins c fs => ∃ C dx gs, mg (nm c) = some (.ref C) ∧ H a = some (.ins C dx gs) ∧ RF K μ H fs gs
structure Rl (mh : MH) : Prop where
  len : μ.length = mh.length
  nd : μ.Nodup
  obj : ∀ (i : Nat) (a : Addr) (o : MO), μ[i]? = some a → mh[i]? = some o → RO K mg μ H a o
end
/-- what may have happened: the mirror's addresses have grown, all else that was tracked stands as it stood -/
structure Ext (μ : List Addr) (H : Hp) (μ' : List Addr) (H' : Hp) : Prop where
  pre : μ <+: μ'
  keep : ∀ a o, H a = some o → a ∉ μ → H' a = some o
  new : ∀ a, a ∈ μ' → a ∉ μ → H a = none
theorem Ext.refl (μ : List Addr) (H : Hp) : Ext μ H μ H := ⟨List.prefix_refl μ, fun _ _ h _ => h, fun _ h n => absurd h n⟩
theorem Ext.trans {μ μ1 μ2 : List Addr} {H H1 H2 : Hp} (e : Ext μ H μ1 H1) (f : Ext μ1 H1 μ2 H2) : Ext μ H μ2 H2 where
  pre := e.pre.trans f.pre
  keep := fun a o h n => f.keep a o (e.keep a o h n) fun m => by
    have z := e.new a m n
    rw [h] at z
    cases z
  new := fun a m n => by
    by_cases q : a ∈ μ1
    · exact e.new a q n
    · cases z : H a with
      | none => rfl
      | some o =>
        have y := f.new a m q
        rw [e.keep a o z n] at y
        cases y
section
variable {K : PySem.W.Frag} {mg : Str → Option Value} {μ μ' : List Addr} {H H' : Hp}
/-- a new object that the mirror does not know -/
theorem Ext.upd {p : Addr} {o : HO} (hp : H p = none) : Ext μ H μ (upd H p o) :=
  ⟨List.prefix_refl μ, fun a u h _ => by rw [upd_ne (ne_of_none h hp)]; exact h, fun _ h n => absurd h n⟩
theorem Ext.get {e : Ext μ H μ' H'} {n : Nat} {a : Addr} (h : μ[n]? = some a) : μ'[n]? = some a := by
  obtain ⟨t, rfl⟩ := e.pre
  rw [List.getElem?_append_left (List.getElem?_eq_some_iff.mp h).1]
  exact h
/-- what stands at the mirror's addresses -/
theorem Rl.kind {mh : MH} (r : Rl K mg μ H mh) {a : Addr} (hm : a ∈ μ) : (∃ vs, H a = some (.lst vs)) ∨ (∃ ws, H a = some (.dK ws)) ∨ ∃ C dx gs, H a = some (.ins C dx gs) := by
  obtain ⟨i, hi, e⟩ := List.mem_iff_getElem.mp hm
  have hi2 : i < mh.length := by rw [← r.len]; exact hi
  have q := r.obj i a mh[i] (List.getElem?_eq_some_iff.mpr ⟨hi, e⟩) (List.getElem?_eq_getElem hi2)
  cases hq : mh[i] with
  | lst xs => rw [hq] at q; obtain ⟨w, z, _⟩ := q; exact .inl ⟨w, z⟩
  | dic kvs => rw [hq] at q; obtain ⟨w, z, _⟩ := q; exact .inr (.inl ⟨w, z⟩)
  | ins c fs => rw [hq] at q; obtain ⟨C, dx, w, _, z, _⟩ := q; exact .inr (.inr ⟨C, dx, w, z⟩)
theorem Rl.fresh {mh : MH} (r : Rl K mg μ H mh) {p : Addr} (hp : H p = none) : p ∉ μ := fun hm => by
  rcases r.kind hm with ⟨_, z⟩ | ⟨_, z⟩ | ⟨_, _, _, z⟩ <;> rw [hp] at z <;> cases z
theorem Rl.notFrz {mh : MH} (r : Rl K mg μ H mh) {a : Addr} {o : Obj} {u : HO} (h : H a = some (.frz o u)) : a ∉ μ := fun hm => by
  rcases r.kind hm with ⟨_, z⟩ | ⟨_, z⟩ | ⟨_, _, _, z⟩ <;> rw [h] at z <;> cases z
theorem Rl.notTup {mh : MH} (r : Rl K mg μ H mh) {a : Addr} {vs : List V} (h : H a = some (.tup vs)) : a ∉ μ := fun hm => by
  rcases r.kind hm with ⟨_, z⟩ | ⟨_, z⟩ | ⟨_, _, _, z⟩ <;> rw [h] at z <;> cases z
theorem SqT.ext {mh : MH} (r : Rl K mg μ H mh) (e : Ext μ H μ' H') {a : Addr} {vs : List V} (h : SqT K H a vs) : SqT K H' a vs := by
  rcases h with (h | ⟨o, h⟩) | h
  · exact .inl (.inl (e.keep _ _ h (r.notTup h)))
  · exact .inl (.inr ⟨o, e.keep _ _ h (r.notFrz h)⟩)
  · exact .inr h
theorem RoL.ext {mh : MH} (r : Rl K mg μ H mh) (e : Ext μ H μ' H') {a : Addr} {vs : List V} (h : RoL K H a vs) : RoL K H' a vs := by
  rcases h with ⟨o, h⟩ | h
  · exact .inl ⟨o, e.keep _ _ h (r.notFrz h)⟩
  · exact .inr h
mutual
theorem RV.mono (hT : ∀ a vs, SqT K H a vs → SqT K H' a vs) (hR : ∀ a vs, RoL K H a vs → RoL K H' a vs) (hm : ∀ (n : Nat) a, μ[n]? = some a → μ'[n]? = some a) : ∀ {d : D} {v : V}, RV K μ H d v → RV K μ' H' d v
  | _, _, .non => .non
  | _, _, .bl b => .bl b
  | _, _, .int i => .int i
  | _, _, .str s => .str s
  | _, _, .tup h q => .tup (hT _ _ h) (RVs.mono hT hR hm q)
  | _, _, .rl h q => .rl (hR _ _ h) (RVs.mono hT hR hm q)
  | _, _, .loc h => .loc (hm _ _ h)
theorem RVs.mono (hT : ∀ a vs, SqT K H a vs → SqT K H' a vs) (hR : ∀ a vs, RoL K H a vs → RoL K H' a vs) (hm : ∀ (n : Nat) a, μ[n]? = some a → μ'[n]? = some a) : ∀ {ds : List D} {vs : List V}, RVs K μ H ds vs → RVs K μ' H' ds vs
  | _, _, .nil => .nil
  | _, _, .cons h q => .cons (RV.mono hT hR hm h) (RVs.mono hT hR hm q)
end
theorem RV.ext {mh : MH} (r : Rl K mg μ H mh) (e : Ext μ H μ' H') {d : D} {v : V} (h : RV K μ H d v) : RV K μ' H' d v := h.mono (fun _ _ => SqT.ext r e) (fun _ _ => RoL.ext r e) fun _ _ => Ext.get (e := e)
theorem RVs.ext {mh : MH} (r : Rl K mg μ H mh) (e : Ext μ H μ' H') {ds : List D} {vs : List V} (h : RVs K μ H ds vs) : RVs K μ' H' ds vs := h.mono (fun _ _ => SqT.ext r e) (fun _ _ => RoL.ext r e) fun _ _ => Ext.get (e := e)
theorem RVs.length {K : PySem.W.Frag} {μ : List Addr} {H : Hp} : ∀ {ds : List D} {vs : List V}, RVs K μ H ds vs → ds.length = vs.length
  | _, _, .nil => rfl
  | _, _, .cons _ r => by rw [List.length_cons, List.length_cons, r.length]
theorem RVs.get {K : PySem.W.Frag} {μ : List Addr} {H : Hp} : ∀ {ds : List D} {vs : List V} {i : Nat} {d : D}, RVs K μ H ds vs → ds[i]? = some d → ∃ v, vs[i]? = some v ∧ RV K μ H d v
  | _, _, _, _, .nil, e => by simp at e
  | _, _, 0, _, .cons h _, e => by simp at e; subst e; exact ⟨_, rfl, h⟩
  | _, _, i + 1, _, .cons _ r, e => by simpa using RVs.get (i := i) r (by simpa using e)
theorem RVs.get' {K : PySem.W.Frag} {μ : List Addr} {H : Hp} : ∀ {ds : List D} {vs : List V} {i : Nat} {v : V}, RVs K μ H ds vs → vs[i]? = some v → ∃ d, ds[i]? = some d ∧ RV K μ H d v
  | _, _, _, _, .nil, e => by simp at e
  | _, _, 0, _, .cons h _, e => by simp at e; subst e; exact ⟨_, rfl, h⟩
  | _, _, i + 1, _, .cons _ r, e => by simpa using RVs.get' (i := i) r (by simpa using e)
theorem RVs.append {K : PySem.W.Frag} {μ : List Addr} {H : Hp} : ∀ {ds es : List D} {vs ws : List V}, RVs K μ H ds vs → RVs K μ H es ws → RVs K μ H (ds ++ es) (vs ++ ws)
  | _, _, _, _, .nil, s => s
  | _, _, _, _, .cons h r, s => .cons h (r.append s)
theorem RVs.take {K : PySem.W.Frag} {μ : List Addr} {H : Hp} : ∀ {ds : List D} {vs : List V} (n : Nat), RVs K μ H ds vs → RVs K μ H (ds.take n) (vs.take n)
  | _, _, 0, _ => .nil
  | _, _, _ + 1, .nil => .nil
  | _, _, n + 1, .cons h r => .cons h (r.take n)
theorem RVs.drop {K : PySem.W.Frag} {μ : List Addr} {H : Hp} : ∀ {ds : List D} {vs : List V} (n : Nat), RVs K μ H ds vs → RVs K μ H (ds.drop n) (vs.drop n)
  | _, _, 0, r => r
  | _, _, _ + 1, .nil => .nil
  | _, _, n + 1, .cons _ r => r.drop n
theorem RF.mono (hT : ∀ a vs, SqT K H a vs → SqT K H' a vs) (hR : ∀ a vs, RoL K H a vs → RoL K H' a vs) (hm : ∀ (n : Nat) a, μ[n]? = some a → μ'[n]? = some a) : ∀ {fs : List (String × D)} {gs : List (Str × V)}, RF K μ H fs gs → RF K μ' H' fs gs
  | [], [], _ => trivial
  | (_, _) :: _, (_, _) :: _, h => ⟨h.1, h.2.1.mono hT hR hm, RF.mono hT hR hm h.2.2⟩
  | [], _ :: _, h => h.elim
  | _ :: _, [], h => h.elim
theorem RK.mono (hT : ∀ a vs, SqT K H a vs → SqT K H' a vs) (hR : ∀ a vs, RoL K H a vs → RoL K H' a vs) (hm : ∀ (n : Nat) a, μ[n]? = some a → μ'[n]? = some a) : ∀ {fs : List (D × D)} {gs : List (Key × V)}, RK K μ H fs gs → RK K μ' H' fs gs
  | [], [], _ => trivial
  | (_, _) :: _, (_, _) :: _, h => ⟨h.1.mono hT hR hm, h.2.1.mono hT hR hm, RK.mono hT hR hm h.2.2⟩
  | [], _ :: _, h => h.elim
  | _ :: _, [], h => h.elim
theorem RF.ext {mh : MH} (r : Rl K mg μ H mh) (e : Ext μ H μ' H') {fs : List (String × D)} {gs : List (Str × V)} (h : RF K μ H fs gs) : RF K μ' H' fs gs := h.mono (fun _ _ => SqT.ext r e) (fun _ _ => RoL.ext r e) fun _ _ => Ext.get (e := e)
theorem RK.ext {mh : MH} (r : Rl K mg μ H mh) (e : Ext μ H μ' H') {fs : List (D × D)} {gs : List (Key × V)} (h : RK K μ H fs gs) : RK K μ' H' fs gs := h.mono (fun _ _ => SqT.ext r e) (fun _ _ => RoL.ext r e) fun _ _ => Ext.get (e := e)
theorem RO.mono {a : Addr} {o : MO} (hT : ∀ a vs, SqT K H a vs → SqT K H' a vs) (hR : ∀ a vs, RoL K H a vs → RoL K H' a vs) (hm : ∀ (n : Nat) a, μ[n]? = some a → μ'[n]? = some a) (ha : H' a = H a) (h : RO K mg μ H a o) : RO K mg μ' H' a o := by
  cases o with
  | lst xs => obtain ⟨w, z, r⟩ := h; exact ⟨w, by rw [ha]; exact z, r.mono hT hR hm⟩
  | dic kvs => obtain ⟨w, z, r⟩ := h; exact ⟨w, by rw [ha]; exact z, r.mono hT hR hm⟩
  | ins c fs => obtain ⟨C, dx, w, y, z, r⟩ := h; exact ⟨C, dx, w, y, by rw [ha]; exact z, r.mono hT hR hm⟩
/-- an object that the mirror does not hold, and that is no tuple and no locked one, is changed -/
theorem SqT.off {p : Addr} {o u : HO} (hp : H p = none ∨ (H p = some u ∧ (∀ w, u ≠ .tup w) ∧ ∀ b w, u ≠ .frz b w)) {a : Addr} {vs : List V} (h : SqT K H a vs) : SqT K (upd H p o) a vs := by
  rcases h with (h | ⟨b, h⟩) | h
  · refine .inl (.inl ?_)
    rw [upd_ne (fun z => ?_)]
    · exact h
    · subst z
      rcases hp with q | ⟨q, n, _⟩ <;> rw [h] at q
      · cases q
      · exact n _ (Option.some.inj q).symm
  · refine .inl (.inr ⟨b, ?_⟩)
    rw [upd_ne (fun z => ?_)]
    · exact h
    · subst z
      rcases hp with q | ⟨q, _, n⟩ <;> rw [h] at q
      · cases q
      · exact n _ _ (Option.some.inj q).symm
  · exact .inr h
theorem RoL.off {p : Addr} {o u : HO} (hp : H p = none ∨ (H p = some u ∧ (∀ w, u ≠ .tup w) ∧ ∀ b w, u ≠ .frz b w)) {a : Addr} {vs : List V} (h : RoL K H a vs) : RoL K (upd H p o) a vs := by
  rcases h with ⟨b, h⟩ | h
  · refine .inl ⟨b, ?_⟩
    rw [upd_ne (fun z => ?_)]
    · exact h
    · subst z
      rcases hp with q | ⟨q, _, n⟩ <;> rw [h] at q
      · cases q
      · exact n _ _ (Option.some.inj q).symm
  · exact .inr h
theorem Rl.off {mh : MH} (r : Rl K mg μ H mh) {p : Addr} {o u : HO} (hp : H p = none ∨ (H p = some u ∧ (∀ w, u ≠ .tup w) ∧ ∀ b w, u ≠ .frz b w)) (hn : p ∉ μ) : Rl K mg μ (upd H p o) mh :=
  ⟨r.len, r.nd, fun i a m h1 h2 => RO.mono (fun _ _ => SqT.off hp) (fun _ _ => RoL.off hp) (fun _ _ z => z) (upd_ne (fun z => hn (z ▸ List.mem_of_getElem? h1))) (r.obj i a m h1 h2)⟩
theorem RV.off {p : Addr} {o u : HO} (hp : H p = none ∨ (H p = some u ∧ (∀ w, u ≠ .tup w) ∧ ∀ b w, u ≠ .frz b w)) {d : D} {v : V} (h : RV K μ H d v) : RV K μ (upd H p o) d v := h.mono (fun _ _ => SqT.off hp) (fun _ _ => RoL.off hp) fun _ _ z => z
theorem RVs.off {p : Addr} {o u : HO} (hp : H p = none ∨ (H p = some u ∧ (∀ w, u ≠ .tup w) ∧ ∀ b w, u ≠ .frz b w)) {d : List D} {v : List V} (h : RVs K μ H d v) : RVs K μ (upd H p o) d v := h.mono (fun _ _ => SqT.off hp) (fun _ _ => RoL.off hp) fun _ _ z => z
/-- an object more -/
theorem Rl.push {mh : MH} (r : Rl K mg μ H mh) {p : Addr} (hp : H p = none) {o : HO} {m : MO} (new : RO K mg (μ ++ [p]) (upd H p o) p m) : Rl K mg (μ ++ [p]) (upd H p o) (mh ++ [m]) ∧ Ext μ H (μ ++ [p]) (upd H p o) := by
  have hn := r.fresh hp
  have e : Ext μ H (μ ++ [p]) (upd H p o) := ⟨List.prefix_append _ _, fun a u h _ => by rw [upd_ne (ne_of_none h hp)]; exact h, fun a m n => by
    rcases List.mem_append.mp m with m | m
    · exact absurd m n
    · rw [List.mem_singleton.mp m]; exact hp⟩
  refine ⟨⟨by rw [List.length_append, List.length_append, r.len]; rfl, List.nodup_append.mpr ⟨r.nd, by simp, fun a m b m' => by
    rw [List.mem_singleton.mp m']; exact fun z => hn (z ▸ m)⟩, fun i a u h1 h2 => ?_⟩, e⟩
  by_cases hi : i < μ.length
  · rw [List.getElem?_append_left hi] at h1
    rw [List.getElem?_append_left (by rw [← r.len]; exact hi)] at h2
    have q := r.obj i a u h1 h2
    have na : a ≠ p := fun z => hn (z ▸ List.mem_of_getElem? h1)
    cases u with
    | lst xs => obtain ⟨w, z, rv⟩ := q; exact ⟨w, by rw [upd_ne na]; exact z, RVs.ext r e rv⟩
    | dic kvs => obtain ⟨w, z, rv⟩ := q; exact ⟨w, by rw [upd_ne na]; exact z, RK.ext r e rv⟩
    | ins c fs => obtain ⟨C, dx, w, y, z, rv⟩ := q; exact ⟨C, dx, w, y, by rw [upd_ne na]; exact z, RF.ext r e rv⟩
  · have hl : i < μ.length + 1 := by
      have := (List.getElem?_eq_some_iff.mp h1).1
      simpa using this
    have hie : i = μ.length := by omega
    subst hie
    rw [List.getElem?_append_right (Nat.le_refl _), Nat.sub_self] at h1
    rw [r.len, List.getElem?_append_right (Nat.le_refl _), Nat.sub_self] at h2
    cases h1
    cases h2
    exact new
/-- an object changed -/
theorem Rl.put {mh : MH} (r : Rl K mg μ H mh) {i : Nat} {a : Addr} (ha : μ[i]? = some a) {o : HO} {m : MO} (new : RO K mg μ (upd H a o) a m) : Rl K mg μ (upd H a o) (mh.set i m) ∧ Ext μ H μ (upd H a o) := by
  have hm := List.mem_of_getElem? ha
  have e : Ext μ H μ (upd H a o) := ⟨List.prefix_refl _, fun b u h n => by rw [upd_ne (show b ≠ a from fun z => n (by rw [z]; exact hm))]; exact h, fun _ h n => absurd h n⟩
  refine ⟨⟨by rw [List.length_set]; exact r.len, r.nd, fun j b u h1 h2 => ?_⟩, e⟩
  by_cases hj : i = j
  · subst hj
    rw [ha] at h1
    cases h1
    rw [List.getElem?_set_self (by rw [← r.len]; exact (List.getElem?_eq_some_iff.mp ha).1)] at h2
    cases h2
    exact new
  · rw [List.getElem?_set_ne hj] at h2
    have q := r.obj j b u h1 h2
    have nb : b ≠ a := fun z => by
      subst z
      obtain ⟨p1, e1⟩ := List.getElem?_eq_some_iff.mp ha
      obtain ⟨p2, e2⟩ := List.getElem?_eq_some_iff.mp h1
      exact hj ((List.getElem_inj r.nd).mp (e1.trans e2.symm))
    cases u with
    | lst xs => obtain ⟨w, z, rv⟩ := q; exact ⟨w, by rw [upd_ne nb]; exact z, RVs.ext r e rv⟩
    | dic kvs => obtain ⟨w, z, rv⟩ := q; exact ⟨w, by rw [upd_ne nb]; exact z, RK.ext r e rv⟩
    | ins c fs => obtain ⟨C, dx, w, y, z, rv⟩ := q; exact ⟨C, dx, w, y, by rw [upd_ne nb]; exact z, RF.ext r e rv⟩

/-- an object that stood outside is taken in -/
theorem Rl.take {mh : MH} (r : Rl K mg μ H mh) {p : Addr} (hn : p ∉ μ) {m : MO} (new : RO K mg (μ ++ [p]) H p m) : Rl K mg (μ ++ [p]) H (mh ++ [m]) := by
  refine ⟨by rw [List.length_append, List.length_append, r.len]; rfl, List.nodup_append.mpr ⟨r.nd, by simp, fun a m b m' => by
    rw [List.mem_singleton.mp m']; exact fun z => hn (z ▸ m)⟩, fun i a u h1 h2 => ?_⟩
  by_cases hi : i < μ.length
  · rw [List.getElem?_append_left hi] at h1
    rw [List.getElem?_append_left (by rw [← r.len]; exact hi)] at h2
    exact RO.mono (fun _ _ z => z) (fun _ _ z => z) (fun n b z => by rw [List.getElem?_append_left (List.getElem?_eq_some_iff.mp z).1]; exact z) rfl (r.obj i a u h1 h2)
  · have hie : i = μ.length := by
      have := (List.getElem?_eq_some_iff.mp h1).1
      rw [List.length_append] at this
      simp at this
      omega
    subst hie
    rw [List.getElem?_append_right (Nat.le_refl _), Nat.sub_self] at h1
    rw [r.len, List.getElem?_append_right (Nat.le_refl _), Nat.sub_self] at h2
    cases h1
    cases h2
    exact new
/-- the locals -/
structure RE (K : PySem.W.Frag) (μ : List Addr) (H : Hp) (ρ : En) (σ : L2.St) : Prop where
  len : ρ.length = σ.length
  at_ : ∀ (i : Nat) (d : D), ρ[i]? = some (some d) → ∃ v, σ[i]? = some (some v) ∧ RV K μ H d v
theorem RE.ext {mh : MH} (r : Rl K mg μ H mh) (e : Ext μ H μ' H') {ρ : En} {σ : L2.St} (h : RE K μ H ρ σ) : RE K μ' H' ρ σ :=
  ⟨h.len, fun i d q => let ⟨v, a, b⟩ := h.at_ i d q; ⟨v, a, RV.ext r e b⟩⟩
theorem RE.set {ρ : En} {σ : L2.St} (h : RE K μ H ρ σ) (i : Nat) {d : D} {v : V} (r : RV K μ H d v) : RE K μ H (ρ.set i (some d)) (σ.set i (some v)) := by
  refine ⟨by rw [List.length_set, List.length_set]; exact h.len, fun j e q => ?_⟩
  rw [List.getElem?_set] at q ⊢
  by_cases hij : i = j
  · subst hij
    rw [if_pos rfl] at q ⊢
    by_cases hl : i < ρ.length
    · rw [if_pos hl] at q
      rw [if_pos (by rw [← h.len]; exact hl)]
      cases q
      exact ⟨v, rfl, r⟩
    · rw [if_neg hl] at q
      cases q
  · rw [if_neg hij] at q ⊢
    exact h.at_ j e q
theorem RE.unset {ρ : En} {σ : L2.St} (h : RE K μ H ρ σ) (i : Nat) : RE K μ H (ρ.set i none) (σ.set i none) := by
  refine ⟨by rw [List.length_set, List.length_set]; exact h.len, fun j e q => ?_⟩
  rw [List.getElem?_set] at q ⊢
  by_cases hij : i = j
  · subst hij
    rw [if_pos rfl] at q
    by_cases hl : i < ρ.length
    · rw [if_pos hl] at q; cases q
    · rw [if_neg hl] at q; cases q
  · rw [if_neg hij] at q ⊢
    exact h.at_ j e q
theorem RE.wipe {ρ : En} {σ : L2.St} (h : RE K μ H ρ σ) : ∀ vs : List Nat, RE K μ H (wipeM ρ vs) (wipe σ vs)
  | [] => h
  | v :: vs => (RE.wipe h vs).unset v
end

/-! ### what is owed behind a result -/
section
variable (K : PySem.W.Frag) (mg : Str → Option Value)
/-- an exception of an own class, its fields in its own dict -/
structure RX (μ : List Addr) (H : Hp) (c : String) (fs : List (String × D)) (cls : Value) (d : Option Addr) : Prop where
  ex : ∃ C dd gs, mg (nm c) = some (.ref C) ∧ cls = .ref C ∧ d = some dd ∧ H dd = some (.xd gs) ∧ RF K μ H fs gs
def PostR {α β : Type} (rel : List Addr → Hp → α → β → Prop) (W : XK) (μ : List Addr) (H : Hp) (r : R α) (Q : β → Hp → Prop) : Prop := match r with
  | .ok a mh => ∀ μ' b H', Ext μ H μ' H' → Rl K mg μ' H' mh → rel μ' H' a b → Q b H'
  | .exc c fs mh => ∀ μ' H' cls d, Ext μ H μ' H' → Rl K mg μ' H' mh → RX K mg μ' H' c fs cls d → W cls d H'
  | .stuck => False
def PostS (W : WX) (μ : List Addr) (H : Hp) (r : SR) (E : Ends) : Prop := match r with
  | .nx ρ mh => ∀ μ' σ' H', Ext μ H μ' H' → Rl K mg μ' H' mh → RE K μ' H' ρ σ' → E.nx σ' H'
  | .bk ρ mh => ∀ μ' σ' H', Ext μ H μ' H' → Rl K mg μ' H' mh → RE K μ' H' ρ σ' → E.bk σ' H'
  | .ct ρ mh => ∀ μ' σ' H', Ext μ H μ' H' → Rl K mg μ' H' mh → RE K μ' H' ρ σ' → E.ct σ' H'
  | .rt a mh => ∀ μ' v H', Ext μ H μ' H' → Rl K mg μ' H' mh → RV K μ' H' a v → E.rt v H'
  | .exc c fs ρ mh => ∀ μ' σ' H' cls d, Ext μ H μ' H' → Rl K mg μ' H' mh → RE K μ' H' ρ σ' → RX K mg μ' H' c fs cls d → W cls d σ' H'
  | .stuck => False
end
abbrev relV (K : PySem.W.Frag) : List Addr → Hp → D → V → Prop := fun μ H d v => RV K μ H d v
abbrev relVs (K : PySem.W.Frag) : List Addr → Hp → List D → List V → Prop := fun μ H d v => RVs K μ H d v
abbrev relB : List Addr → Hp → Bool → Bool → Prop := fun _ _ a b => a = b
section
variable {K : PySem.W.Frag} {mg : Str → Option Value} {α β γ δ : Type} {rel : List Addr → Hp → α → β → Prop} {rel' : List Addr → Hp → γ → δ → Prop} {W : XK} {μ μ' : List Addr} {H H' : Hp}
theorem PostR.mono {r : R α} {Q Q' : β → Hp → Prop} (h : PostR K mg rel W μ H r Q) (f : ∀ b H', Q b H' → Q' b H') : PostR K mg rel W μ H r Q' := by
  cases r with
  | ok a mh => exact fun μ' b H' e r q => f b H' (h μ' b H' e r q)
  | exc c fs mh => exact h
  | stuck => exact h
theorem PostR.later {r : R α} {Q : β → Hp → Prop} (h : PostR K mg rel W μ H r Q) (e : Ext μ H μ' H') : PostR K mg rel W μ' H' r Q := by
  cases r with
  | ok a mh => exact fun μ2 b H2 e2 r q => h μ2 b H2 (e.trans e2) r q
  | exc c fs mh => exact fun μ2 H2 cls d e2 r q => h μ2 H2 cls d (e.trans e2) r q
  | stuck => exact h
theorem PostR.bind {r : R α} {f : α → MH → R γ} {Q : δ → Hp → Prop} (h : PostR K mg rel' W μ H (r.bind f) Q) :
    PostR K mg rel W μ H r fun b H1 => ∃ μ1 a mh1, Ext μ H μ1 H1 ∧ Rl K mg μ1 H1 mh1 ∧ rel μ1 H1 a b ∧ PostR K mg rel' W μ1 H1 (f a mh1) Q := by
  cases r with
  | ok a mh => exact fun μ1 b H1 e r q => ⟨μ1, a, mh, e, r, q, PostR.later h e⟩
  | exc c fs mh => exact h
  | stuck => exact h
/-- the same, the anchor kept -/
theorem PostR.bindA {r : R α} {f : α → MH → R γ} {Q : δ → Hp → Prop} (h : PostR K mg rel' W μ H (r.bind f) Q) :
    PostR K mg rel W μ H r fun b H1 => ∃ μ1 a mh1, Ext μ H μ1 H1 ∧ Rl K mg μ1 H1 mh1 ∧ rel μ1 H1 a b ∧ PostR K mg rel' W μ H (f a mh1) Q := by
  cases r with
  | ok a mh => exact fun μ1 b H1 e r q => ⟨μ1, a, mh, e, r, q, h⟩
  | exc c fs mh => exact h
  | stuck => exact h
theorem PostS.later {W : WX} {r : SR} {E : Ends} (h : PostS K mg W μ H r E) (e : Ext μ H μ' H') : PostS K mg W μ' H' r E := by
  cases r with
  | nx ρ mh => exact fun μ2 b H2 e2 r q => h μ2 b H2 (e.trans e2) r q
  | bk ρ mh => exact fun μ2 b H2 e2 r q => h μ2 b H2 (e.trans e2) r q
  | ct ρ mh => exact fun μ2 b H2 e2 r q => h μ2 b H2 (e.trans e2) r q
  | rt a mh => exact fun μ2 b H2 e2 r q => h μ2 b H2 (e.trans e2) r q
  | exc c fs ρ mh => exact fun μ2 σ H2 cls d e2 r q => h μ2 σ H2 cls d (e.trans e2) r q
  | stuck => exact h
theorem PostR.toS {W : WX} {σ : L2.St} {ρ : En} {r : R α} {k : α → MH → SR} {E : Ends} (rl : ∀ mh μ' H', Ext μ H μ' H' → Rl K mg μ' H' mh → RE K μ' H' ρ σ) (h : PostS K mg W μ H (r.toS ρ k) E) :
    PostR K mg rel (fun cls d H => W cls d σ H) μ H r fun b H1 => ∃ μ1 a mh1, Ext μ H μ1 H1 ∧ Rl K mg μ1 H1 mh1 ∧ rel μ1 H1 a b ∧ PostS K mg W μ1 H1 (k a mh1) E := by
  cases r with
  | ok a mh => exact fun μ1 b H1 e r q => ⟨μ1, a, mh, e, r, q, PostS.later h e⟩
  | exc c fs mh => exact fun μ1 H1 cls d e r q => h μ1 σ H1 cls d e r (rl mh μ1 H1 e r) q
  | stuck => exact h
theorem PostS.andThen {W : WX} {r : SR} {k : En → MH → SR} {E : Ends} (h : PostS K mg W μ H (r.andThen k) E) :
    PostS K mg W μ H r { E with nx := fun σ1 H1 => ∃ μ1 ρ1 mh1, Ext μ H μ1 H1 ∧ Rl K mg μ1 H1 mh1 ∧ RE K μ1 H1 ρ1 σ1 ∧ PostS K mg W μ1 H1 (k ρ1 mh1) E } := by
  cases r with
  | nx ρ mh => exact fun μ1 σ1 H1 e r q => ⟨μ1, ρ, mh, e, r, q, PostS.later h e⟩
  | bk ρ mh => exact h
  | ct ρ mh => exact h
  | rt a mh => exact h
  | exc c fs ρ mh => exact h
  | stuck => exact h
end
end Mir
set_option Elab.async false
set_option linter.all false
set_option maxRecDepth 100000
set_option autoImplicit false
/-! Mirror: judgements, and the rules for expressions, tests, statements. -/
namespace Mir
open PySem PySem.Spec PyProof.Rows L2

section
variable {X : Cx} {e : Expr} {st : Stmt} {sts : List Stmt}
theorem _root_.L2.PE.weak {t t' : TE} (h : PE X e t) (f : ∀ σ H Q, t' σ H Q → t σ H Q) : PE X e t' := ⟨fun pins s σ H Q I q => h.run pins s σ H Q I (f _ _ _ q)⟩
theorem _root_.L2.PT.weak {t t' : TT} (h : PT X e t) (f : ∀ σ H Q, t' σ H Q → t σ H Q) : PT X e t' := ⟨fun pins s σ H Q I q => h.run pins s σ H Q I (f _ _ _ q)⟩
theorem _root_.L2.PW.weak {t t' : TT} (h : PW X e t) (f : ∀ σ H Q, t' σ H Q → t σ H Q) : PW X e t' := ⟨fun whole pins s σ H Q I q => h.run whole pins s σ H Q I (f _ _ _ q)⟩
theorem _root_.L2.PA.weak {es : List Expr} {t t' : TA} (h : PA X es t) (f : ∀ σ H Q, t' σ H Q → t σ H Q) : PA X es t' := ⟨fun pos pins s σ H Q I q => h.run pos pins s σ H Q I (f _ _ _ q)⟩
theorem _root_.L2.PS.weak {t t' : TS} (h : PS X st t) (f : ∀ D σ H, t' D σ H → t D σ H) : PS X st t' := ⟨fun pins s σ H D I q => h.run pins s σ H D I (f _ _ _ q)⟩
theorem _root_.L2.PSs.weak {t t' : TS} (h : PSs X sts t) (f : ∀ D σ H, t' D σ H → t D σ H) : PSs X sts t' := ⟨fun pins s σ H D I q => h.run pins s σ H D I (f _ _ _ q)⟩
theorem _root_.L2.PI.weak {tg : Expr} {t t' : TI} (h : PI X tg e t) (f : ∀ σ H R, t' σ H R → t σ H R) : PI X tg e t' := ⟨fun pins s σ H R I q => h.run pins s σ H R I (f _ _ _ q)⟩
end

/-- the reading of a mirror expression -/
def rdE (K : PySem.W.Frag) (mg : Str → Option Value) (W : WX) (m : ME) : TE := fun σ H Q => ∃ μ ρ mh, RE K μ H ρ σ ∧ Rl K mg μ H mh ∧ PostR K mg (relV K) (fun cls d H => W cls d σ H) μ H (m ρ mh) Q
def rdA (K : PySem.W.Frag) (mg : Str → Option Value) (W : WX) (m : MA) : TA := fun σ H Q => ∃ μ ρ mh, RE K μ H ρ σ ∧ Rl K mg μ H mh ∧ PostR K mg (relVs K) (fun cls d H => W cls d σ H) μ H (m ρ mh) Q
def rdT (K : PySem.W.Frag) (mg : Str → Option Value) (W : WX) (m : MT) : TT := fun σ H Q => ∃ μ ρ mh, RE K μ H ρ σ ∧ Rl K mg μ H mh ∧ PostR K mg relB (fun cls d H => W cls d σ H) μ H (m ρ mh) Q
def rdS (K : PySem.W.Frag) (mg : Str → Option Value) (W : WX) (m : MS) : TS := fun D σ H => ∃ μ ρ mh, RE K μ H ρ σ ∧ Rl K mg μ H mh ∧ PostS K mg W μ H (m ρ mh) D

abbrev SE (W : WX) (X : Cx) (e : Expr) (m : ME) : Prop := PE X e (rdE X.K X.mg W m)
abbrev SA (W : WX) (X : Cx) (es : List Expr) (m : MA) : Prop := PA X es (rdA X.K X.mg W m)
abbrev ST (W : WX) (X : Cx) (e : Expr) (m : MT) : Prop := PT X e (rdT X.K X.mg W m)
abbrev SW (W : WX) (X : Cx) (e : Expr) (m : MT) : Prop := PW X e (rdT X.K X.mg W m)
abbrev SS (W : WX) (X : Cx) (st : Stmt) (m : MS) : Prop := PS X st (rdS X.K X.mg W m)
abbrev SSs (W : WX) (X : Cx) (sts : List Stmt) (m : MS) : Prop := PSs X sts (rdS X.K X.mg W m)

/-- what is known of the place where a body stands -/
structure Ok (W : WX) (n : Nat) (X : Cx) : Prop where
  calm : X.calm = true
  own : PassesOwn (model X.prog X.w) X.A X.env X.xe
  pass : ∀ σ, PassesAt (L2.CX X.prog X.w) X σ (WE W σ)
  takes : Takes X W
  nd : X.N.Nodup
  room : Room n X.A
  guards : X.A.guards = some []

section
variable {W : WX} {X : Cx} {n : Nat} {e a b c : Expr} {es : List Expr} {pos : Pos} {ma mb mc : ME} {mas : MA} {mt mu : MT}

/-! ### names, constants -/
theorem se_var (i : Nat) {x : Str} (hN : X.N[i]? = some x := by rfl) (hv : Vis X.env.scope x := by first | exact Or.inl rfl | exact Or.inr (Or.inl rfl) | exact Or.inr (Or.inr rfl)) (hd : (x == ("__debug__" : Str)) = false := by decide)
    (hcd : (x == ("__classdict__" : Str)) = false := by decide) : SE W X (.Name x pos) (eVar i) := by
  refine (pe_var hN hv hd hcd).weak fun σ H Q ⟨μ, ρ, mh, re, rl, p⟩ => ?_
  unfold eVar at p
  cases q : ρ[i]? with
  | none => rw [q] at p; exact p.elim
  | some o =>
    cases o with
    | none => rw [q] at p; exact p.elim
    | some d =>
      rw [q] at p
      obtain ⟨v, hs, r⟩ := re.at_ i d q
      exact ⟨v, hs, p μ v H (.refl μ H) rl r⟩
theorem se_lit {v : V} {d : D} (h : PE X e (tC v)) (r : ∀ μ H, RV X.K μ H d v) : SE W X e (eLit d) :=
  h.weak fun σ H Q ⟨μ, ρ, mh, re, rl, p⟩ => p μ v H (.refl μ H) rl (r μ H)
theorem se_int {i : Int} {j : Nat} : SE W X (.Constant (.int i) j pos) (eLit (.int i)) := se_lit pe_int fun _ _ => .int i
theorem se_bl {b : Bool} {j : Nat} : SE W X (.Constant (.bool b) j pos) (eLit (.bl b)) := se_lit pe_bl fun _ _ => .bl b
theorem se_non {j : Nat} : SE W X (.Constant .none j pos) (eLit .non) := se_lit pe_non fun _ _ => .non
theorem se_str (l : List Nat) {x : Str} {j : Nat} (h : x = tx l := by decide +kernel) : SE W X (.Constant (.str x) j pos) (eLit (.str l)) := by
  subst h
  exact se_lit pe_str fun _ _ => .str l
/-- a module's constant -/
theorem se_gc {x : Str} {v : V} {d : D} (hg : Gl X x) (h : ∃ u, X.mg x = some u ∧ RelV v u) (r : ∀ μ H, RV X.K μ H d v) (hd : (x == ("__debug__" : Str)) = false := by decide) : SE W X (.Name x pos) (eLit d) :=
  let ⟨_, hm, q⟩ := h
  se_lit (pe_glob hg hm q hd) r

/-! ### operators -/
/-- an operation by values, mirrored -/
def Op2 (K : PySem.W.Frag) (mg : Str → Option Value) (r : R2) (f : D → D → MH → R D) : Prop :=
  ∀ (W : XK) (μ : List Addr) (H : Hp) (mh : MH) (x y : D) (v u : V) (Q : VK), Rl K mg μ H mh → RV K μ H x v → RV K μ H y u → PostR K mg (relV K) W μ H (f x y mh) Q → r v u H Q
def Op1 (K : PySem.W.Frag) (mg : Str → Option Value) (r : V → Hp → VK → Prop) (f : D → MH → R D) : Prop :=
  ∀ (W : XK) (μ : List Addr) (H : Hp) (mh : MH) (x : D) (v : V) (Q : VK), Rl K mg μ H mh → RV K μ H x v → PostR K mg (relV K) W μ H (f x mh) Q → r v H Q
def OpN (K : PySem.W.Frag) (mg : Str → Option Value) (r : List V → Hp → VK → Prop) (f : MF) : Prop :=
  ∀ (W : XK) (μ : List Addr) (H : Hp) (mh : MH) (xs : List D) (vs : List V) (Q : VK), Rl K mg μ H mh → RVs K μ H xs vs → PostR K mg (relV K) W μ H (f xs mh) Q → r vs H Q
theorem rd2 {r : R2} {f : D → D → MH → R D} (hf : Op2 X.K X.mg r f) (σ : L2.St) (H : Hp) (Q : VK) (h : rdE X.K X.mg W (eBin f ma mb) σ H Q) :
    rdE X.K X.mg W ma σ H fun x H1 => rdE X.K X.mg W mb σ H1 fun y H2 => r x y H2 Q := by
  obtain ⟨μ, ρ, mh, re, rl, p⟩ := h
  refine ⟨μ, ρ, mh, re, rl, (PostR.bind (rel := relV X.K) p).mono fun v H1 h1 => ?_⟩
  obtain ⟨μ1, x, mh1, e1, rl1, rx, p1⟩ := h1
  refine ⟨μ1, ρ, mh1, re.ext rl e1, rl1, (PostR.bind (rel := relV X.K) p1).mono fun u H2 h2 => ?_⟩
  obtain ⟨μ2, y, mh2, e2, rl2, ry, p2⟩ := h2
  exact hf _ μ2 H2 mh2 x y v u Q rl2 (RV.ext rl1 e2 rx) ry p2
theorem rd1 {r : V → Hp → VK → Prop} {f : D → MH → R D} (hf : Op1 X.K X.mg r f) (σ : L2.St) (H : Hp) (Q : VK) (h : rdE X.K X.mg W (eUn f ma) σ H Q) : rdE X.K X.mg W ma σ H fun x H1 => r x H1 Q := by
  obtain ⟨μ, ρ, mh, re, rl, p⟩ := h
  refine ⟨μ, ρ, mh, re, rl, (PostR.bind (rel := relV X.K) p).mono fun v H1 h1 => ?_⟩
  obtain ⟨μ1, x, mh1, e1, rl1, rx, p1⟩ := h1
  exact hf _ μ1 H1 mh1 x v Q rl1 rx p1
theorem rdN {r : List V → Hp → VK → Prop} {f : MF} (hf : OpN X.K X.mg r f) (σ : L2.St) (H : Hp) (Q : VK) (h : rdE X.K X.mg W (eApp f mas) σ H Q) : rdA X.K X.mg W mas σ H fun xs H1 => r xs H1 Q := by
  obtain ⟨μ, ρ, mh, re, rl, p⟩ := h
  refine ⟨μ, ρ, mh, re, rl, (PostR.bind (rel := relVs X.K) p).mono fun v H1 h1 => ?_⟩
  obtain ⟨μ1, x, mh1, e1, rl1, rx, p1⟩ := h1
  exact hf _ μ1 H1 mh1 x v Q rl1 rx p1
theorem se_bin {op : Operator} {r : R2} {f : D → D → MH → R D} (ho : OpR X (binaryOp op) r) (hf : Op2 X.K X.mg r f) (ha : SE W X a ma) (hb : SE W X b mb) : SE W X (.BinOp a op b pos) (eBin f ma mb) :=
  (pe_op ho ha hb).weak (rd2 hf)
theorem se_un {op : UnaryOp} {r : V → Hp → VK → Prop} {f : D → MH → R D} (ho : UnR X (unaryOp op) r) (hf : Op1 X.K X.mg r f) (ha : SE W X a ma) : SE W X (.UnaryOp op a pos) (eUn f ma) :=
  (pe_un ho ha).weak (rd1 hf)
theorem se_cmp {op : CmpOp} {r : R2} {f : D → D → MH → R D} (ho : OpR X (compareOp op) r) (hf : Op2 X.K X.mg r f) (ha : SE W X a ma) (hb : SE W X b mb) (hm : behindInMarks op b = false) : SE W X (.Compare a [op] [b] pos) (eBin f ma mb) :=
  (pe_cmpR ho ha hb hm).weak (rd2 hf)
theorem se_ix {r : R2} {f : D → D → MH → R D} (ho : IxR X r) (hf : Op2 X.K X.mg r f) (ha : SE W X a ma) (hb : SE W X b mb) (hs : PlainIx b) : SE W X (.Subscript a b pos) (eBin f ma mb) :=
  (pe_ix ho ha hb hs).weak (rd2 hf)

/-! ### arguments, displays -/
theorem sa_nil : SA W X [] aNil := pa_nil.weak fun σ H Q ⟨μ, ρ, mh, re, rl, p⟩ => p μ [] H (.refl μ H) rl .nil
theorem sa_cons (ha : SE W X e ma) (hr : SA W X es mas) (hs : starEach (e :: es) X.env = (false, eval e X.env) :: starEach es X.env := by rfl) : SA W X (e :: es) (aCons ma mas) := by
  refine (pa_cons ha hr hs).weak fun σ H Q ⟨μ, ρ, mh, re, rl, p⟩ => ?_
  refine ⟨μ, ρ, mh, re, rl, (PostR.bind (rel := relV X.K) p).mono fun v H1 ⟨μ1, x, mh1, e1, rl1, rx, p1⟩ => ?_⟩
  refine ⟨μ1, ρ, mh1, re.ext rl e1, rl1, (PostR.bind (rel := relVs X.K) p1).mono fun vs H2 ⟨μ2, xs, mh2, e2, rl2, rxs, p2⟩ => ?_⟩
  exact p2 μ2 (v :: vs) H2 (.refl μ2 H2) rl2 (.cons (RV.ext rl1 e2 rx) rxs)
end
end Mir
set_option Elab.async false
set_option linter.all false
set_option maxRecDepth 100000
set_option autoImplicit false
/-! Mirror: calls of defs, methods, classes. -/
namespace Mir
open PySem PySem.Spec PyProof.Rows L2

/-! ### dropping what nobody reaches -/
section
variable {K : PySem.W.Frag} {mg : Str → Option Value} {μ μ' : List Addr} {H : Hp} {n : Nat}
theorem take_get {α : Type} {l : List α} {n i : Nat} {a : α} (h : l[i]? = some a) (hi : i < n) : (l.take n)[i]? = some a := by rw [List.getElem?_take, if_pos hi]; exact h
mutual
theorem RV.cut (hn : ∀ i a, i < n → μ[i]? = some a → μ'[i]? = some a) : ∀ {d : D} {v : V}, RV K μ H d v → d.bel n = true → RV K μ' H d v
  | _, _, .non, _ => .non
  | _, _, .bl b, _ => .bl b
  | _, _, .int i, _ => .int i
  | _, _, .str s, _ => .str s
  | _, _, .tup h q, b => .tup h (RVs.cut hn q (by simpa [D.bel] using b))
  | _, _, .rl h q, b => .rl h (RVs.cut hn q (by simpa [D.bel] using b))
  | _, _, .loc h, b => .loc (hn _ _ (by simpa [D.bel] using b) h)
theorem RVs.cut (hn : ∀ i a, i < n → μ[i]? = some a → μ'[i]? = some a) : ∀ {ds : List D} {vs : List V}, RVs K μ H ds vs → D.bels n ds = true → RVs K μ' H ds vs
  | _, _, .nil, _ => .nil
  | _, _, .cons h q, b => by
    simp only [D.bels, Bool.and_eq_true] at b
    exact .cons (RV.cut hn h b.1) (RVs.cut hn q b.2)
end
theorem RF.cut (hn : ∀ i a, i < n → μ[i]? = some a → μ'[i]? = some a) : ∀ {fs : List (String × D)} {gs : List (Str × V)}, RF K μ H fs gs → (fs.all fun p => D.bel n p.2) = true → RF K μ' H fs gs
  | [], [], _, _ => trivial
  | (_, _) :: _, (_, _) :: _, h, b => by
    simp only [List.all_cons, Bool.and_eq_true] at b
    exact ⟨h.1, RV.cut hn h.2.1 b.1, RF.cut hn h.2.2 b.2⟩
  | [], _ :: _, h, _ => h.elim
  | _ :: _, [], h, _ => h.elim
theorem RK.cut (hn : ∀ i a, i < n → μ[i]? = some a → μ'[i]? = some a) : ∀ {fs : List (D × D)} {gs : List (Key × V)}, RK K μ H fs gs → (fs.all fun p => D.bel n p.1 && D.bel n p.2) = true → RK K μ' H fs gs
  | [], [], _, _ => trivial
  | (_, _) :: _, (_, _) :: _, h, b => by
    simp only [List.all_cons, Bool.and_eq_true] at b
    exact ⟨RV.cut hn h.1 b.1.1, RV.cut hn h.2.1 b.1.2, RK.cut hn h.2.2 b.2⟩
  | [], _ :: _, h, _ => h.elim
  | _ :: _, [], h, _ => h.elim
theorem RO.cut {a : Addr} {o : MO} (hn : ∀ i a, i < n → μ[i]? = some a → μ'[i]? = some a) (h : RO K mg μ H a o) (b : o.bel n = true) : RO K mg μ' H a o := by
  cases o with
  | lst xs => obtain ⟨w, z, r⟩ := h; exact ⟨w, z, RVs.cut hn r b⟩
  | dic xs => obtain ⟨w, z, r⟩ := h; exact ⟨w, z, RK.cut hn r b⟩
  | ins c xs => obtain ⟨C, dx, w, y, z, r⟩ := h; exact ⟨C, dx, w, y, z, RF.cut hn r b⟩
theorem wf_at {mh : MH} (b : wf n mh = true) {i : Nat} {o : MO} (hi : i < n) (h : mh[i]? = some o) : o.bel n = true :=
  List.all_eq_true.mp b o (List.mem_of_getElem? (take_get h hi))
theorem Rl.cut {mh : MH} (r : Rl K mg μ H mh) (b : wf n mh = true) : Rl K mg (μ.take n) H (mh.take n) := by
  refine ⟨by rw [List.length_take, List.length_take, r.len], r.nd.sublist (List.take_sublist _ _), fun i a o h1 h2 => ?_⟩
  rw [List.getElem?_take] at h1 h2
  split at h1
  · rename_i hi
    rw [if_pos hi] at h2
    exact RO.cut (μ := μ) (μ' := μ.take n) (fun j c hj q => take_get q hj) (r.obj i a o h1 h2) (wf_at b hi h2)
  · cases h1
theorem pre_take {μ μ' : List Addr} (h : μ <+: μ') : μ'.take μ.length = μ := by
  obtain ⟨t, rfl⟩ := h
  exact List.take_left
theorem gc_sound {W : XK} {mh : MH} {r : R D} {Q : VK} (rl : Rl K mg μ H mh) (h : PostR K mg (relV K) W μ H (gc mh.length r) Q) : PostR K mg (relV K) W μ H r Q := by
  cases r with
  | stuck => exact h
  | exc c fs h' =>
    unfold gc at h
    dsimp only at h
    split at h
    · rename_i b
      rw [Bool.and_eq_true] at b
      intro μ' H' cls d e r q
      refine h (μ'.take mh.length) H' cls d ?_ (r.cut b.1) ?_
      · rw [← rl.len, pre_take e.pre]
        exact ⟨List.prefix_refl μ, e.keep, fun _ m n => absurd m n⟩
      · obtain ⟨C, dd, gs, h1, h2, h3, h4, h5⟩ := q.ex
        exact ⟨C, dd, gs, h1, h2, h3, h4, RF.cut (μ := μ') (fun j c hj q => take_get q hj) h5 b.2⟩
    · exact h
  | ok d h' =>
    unfold gc at h
    dsimp only at h
    split at h
    · rename_i b
      rw [Bool.and_eq_true] at b
      intro μ' v H' e r q
      refine h (μ'.take mh.length) v H' ?_ (r.cut b.1) (RV.cut (fun j c hj q => take_get q hj) q b.2)
      rw [← rl.len, pre_take e.pre]
      exact ⟨List.prefix_refl μ, e.keep, fun _ m n => absurd m n⟩
    · cases d with
      | loc k =>
        dsimp only at h
        cases ho : h'[k]? with
        | none => rw [ho] at h; exact h
        | some o =>
          rw [ho] at h
          dsimp only at h
          split at h
          · rename_i b
            simp only [Bool.and_eq_true, decide_eq_true_eq] at b
            obtain ⟨⟨b1, b2⟩, b3⟩ := b
            intro μ' v H' e r q
            cases q with
            | loc hk =>
              rename_i a
              have hl : μ'.take mh.length = μ := by rw [← rl.len, pre_take e.pre]
              have hle : mh.length ≤ μ'.length := by
                have := (List.getElem?_eq_some_iff.mp hk).1
                omega
              have na : a ∉ μ := fun hm => by
                rw [← hl] at hm
                obtain ⟨i, hi, ei⟩ := List.mem_iff_getElem.mp hm
                have hi2 : i < mh.length := by rw [List.length_take] at hi; omega
                have ei2 : μ'[i]? = some a := by
                  rw [← take_get (n := mh.length) (l := μ') (i := i) (a := a) ?_ hi2]
                  · rw [List.getElem?_take, if_pos hi2]
                  · rw [List.getElem_take] at ei
                    rw [List.getElem?_eq_getElem (by omega), ei]
                obtain ⟨p1, e1⟩ := List.getElem?_eq_some_iff.mp ei2
                obtain ⟨p2, e2⟩ := List.getElem?_eq_some_iff.mp hk
                have := (List.getElem_inj r.nd).mp (e1.trans e2.symm)
                omega
              have hn : ∀ i c, i < mh.length → μ'[i]? = some c → (μ ++ [a])[i]? = some c := fun i c hi q => by
                rw [List.getElem?_append_left (by rw [rl.len]; exact hi), ← hl]
                exact take_get q hi
              refine h (μ ++ [a]) (.ref a) H' ⟨List.prefix_append _ _, e.keep, fun c m n => ?_⟩ ⟨?_, ?_, fun i c u h1 h2 => ?_⟩ (.loc ?_)
              · rcases List.mem_append.mp m with m | m
                · exact absurd m n
                · rw [List.mem_singleton.mp m]
                  exact e.new a (List.mem_of_getElem? hk) na
              · rw [List.length_append, List.length_append, rl.len, List.length_take]
                have := r.len
                show mh.length + 1 = min mh.length h'.length + 1
                omega
              · exact List.nodup_append.mpr ⟨rl.nd, by simp, fun x hx y hy => by rw [List.mem_singleton.mp hy]; exact fun z => na (z ▸ hx)⟩
              · have hmin : (h'.take mh.length).length = mh.length := by
                  rw [List.length_take]
                  have := r.len
                  omega
                by_cases hi : i < mh.length
                · rw [List.getElem?_append_left (by rw [rl.len]; exact hi)] at h1
                  rw [List.getElem?_append_left (by rw [hmin]; exact hi), List.getElem?_take, if_pos hi] at h2
                  have h1' : μ'[i]? = some c := by
                    rw [← hl, List.getElem?_take, if_pos hi] at h1
                    exact h1
                  exact RO.cut hn (r.obj i c u h1' h2) (wf_at b2 hi h2)
                · have hie : i = mh.length := by
                    have := (List.getElem?_eq_some_iff.mp h1).1
                    rw [List.length_append, rl.len] at this
                    simp at this
                    omega
                  subst hie
                  rw [List.getElem?_append_right (by rw [rl.len]; exact Nat.le_refl _), rl.len, Nat.sub_self] at h1
                  rw [List.getElem?_append_right (by rw [hmin]; exact Nat.le_refl _), hmin, Nat.sub_self] at h2
                  cases h1
                  cases h2
                  exact RO.cut hn (r.obj k a o hk ho) b3
              · rw [List.getElem?_append_right (by rw [rl.len]; exact Nat.le_refl _), rl.len, Nat.sub_self]
                rfl
          · exact h
      | non => exact h
      | bl b => exact h
      | int i => exact h
      | str s => exact h
      | tup ds => exact h
      | rl ds => exact h
end

/-! ### defs -/
/-- the def at f keeps its mirror -/
structure FnG (P : Program) (w : World) (K : PySem.W.Frag) (mg : Str → Option Value) (base : Heap) (k : Nat) (f : Addr) (fd : FuncData) (ps : List Str) (m : MF) : Prop where
  len : ∀ ds h, m ds h ≠ .stuck → ds.length = ps.length
  run : ∀ (A : Around) (outer : List Env) (s : Shared) (H : Hp) (args : Args) (us : List Value) (vs : List V) (Q : VK) (E : XK) (μ : List Addr) (ds : List D) (mh : MH),
    Room k A → A.guards = some [] → Env0 P w K mg base A outer s H → BindsTo s fd args (ps.zip us) → Vals vs us → RVs K μ H ds vs → Rl K mg μ H mh → PostR K mg (relV K) E μ H (m ds mh) Q →
    codeAny (model P w) A (.call (.ref f) args) (CR (L2.CX P w) outer P w H s Q E) s
theorem PostR.ne {K : PySem.W.Frag} {mg : Str → Option Value} {α β : Type} {rel : List Addr → Hp → α → β → Prop} {W : XK} {μ : List Addr} {H : Hp} {r : R α} {Q : β → Hp → Prop} (h : PostR K mg rel W μ H r Q) : r ≠ .stuck := fun e => by
  rw [e] at h
  exact h

section
variable {X : Cx} {W : WX} {k n : Nat} {f C : Addr} {fd : FuncData} {ps : List Str} {ds₀ : List Value} {m : MF}
theorem runG {pins : List (Addr × Obj)} {σ : L2.St} {H : Hp} {s : Shared} {Q : VK} {us : List Value} {vs : List V} {μ : List Addr} {ds : List D} {mh : MH} (ok : Ok W n X) (F : FnG X.prog X.w X.K X.mg X.base k f fd ps m) (hk : k ≤ n) (hb : Binds X.K fd ps [])
    (I : Inv X pins σ H s) (r : Vals vs us) (rv : RVs X.K μ H ds vs) (rl : Rl X.K X.mg μ H mh) (h : PostR X.K X.mg (relV X.K) (fun cls d H => W cls d σ H) μ H (m ds mh) Q) :
    wpAny (model X.prog X.w) X.A (call (.ref f) us) (EP X pins σ Q) X.xe s := by
  have hl : us.length = ps.length := by rw [← r.length, ← rv.length]; exact F.len _ _ h.ne
  have b := hb s us I.kIn (by rw [List.append_nil]; exact hl)
  rw [List.append_nil] at b
  refine wpAny_call (codeAny_mono (F.run X.A X.stack s H ⟨us, []⟩ us vs Q (WE W σ) μ ds mh (ok.room.mono hk) ok.guards I.env0 b r rv rl h) fun q s' hq => ?_)
  cases q with
  | error e => exact ok.pass σ pins H s e s' I hq
  | ok fl => cases fl with
    | ret u => exact I.after hq
    | next => exact hq.elim
    | brk => exact hq.elim
    | cont => exact hq.elim

/-- a def of the module, by its name -/
structure Glo (P : Program) (w : World) (K : PySem.W.Frag) (mg : Str → Option Value) (base : Heap) (k : Nat) (x : Str) (m : MF) : Prop where
  ex : ∃ (f : Addr) (fd : FuncData) (ps : List Str), FnG P w K mg base k f fd ps m ∧ mg x = some (.ref f) ∧ PySem.W.keepIn K (.ref f) = true ∧ Binds K fd ps []
variable {x : Str} {p pos apos : Pos} {e o : Expr} {es : List Expr} {mas : MA} {mo : ME}
theorem se_call (ok : Ok W n X) (g : Glo X.prog X.w X.K X.mg X.base k x m) (hg : Gl X x) (ha : SA W X (e :: es) mas) (hk : k ≤ n := by omega) (hdb : (x == ("__debug__" : Str)) = false := by decide)
    (he : starEach (e :: es) X.env = (false, eval e X.env) :: starEach es X.env := by rfl) (hpl : (backTo pos (starEach es X.env)).any (·.1) = false := by rfl) : SE W X (.Call (.Name x p) (e :: es) [] pos) (eApp m mas) := by
  obtain ⟨f, fd, ps, F, hm, kp, b⟩ := g.ex
  constructor
  intro pins s σ H Q I h
  obtain ⟨μ, ρ, mh, re, rl, q⟩ := h
  refine wpAny_Call_Name_kw (ld_glob I hg hm (PySem.W.callWith_K (h₀ := X.base) I.ok.mod.kin kp (thn (ha.run pos pins s σ H _ I ⟨μ, ρ, mh, re, rl, PostR.bind (rel := relVs X.K) q⟩) fun us s1 h1 => ?_) he hpl) hdb)
  obtain ⟨vs, H1, I1, r, μ1, ds, mh1, e1, rl1, rv, q1⟩ := h1
  exact ⟨I1.kIn, runG ok F hk b I1 r rv rl1 q1⟩
theorem se_call0 (ok : Ok W n X) (g : Glo X.prog X.w X.K X.mg X.base k x m) (hg : Gl X x) (hk : k ≤ n := by omega) (hdb : (x == ("__debug__" : Str)) = false := by decide) : SE W X (.Call (.Name x p) [] [] pos) (eApp m aNil) := by
  obtain ⟨f, fd, ps, F, hm, kp, b⟩ := g.ex
  constructor
  intro pins s σ H Q I h
  obtain ⟨μ, ρ, mh, re, rl, q⟩ := h
  exact wpAny_Call_Name_kw (ld_glob I hg hm (PySem.W.callWith_K0 I.kIn kp (runG (us := []) ok F hk b I .nil .nil rl q)) hdb)

/-- a method of a class of the module -/
structure GMet (P : Program) (w : World) (K : PySem.W.Frag) (mg : Str → Option Value) (base : Heap) (k : Nat) (c : String) (x : String) (m : MF) : Prop where
  ex : ∃ (C f : Addr) (fd : FuncData) (ps : List Str), mg (nm c) = some (.ref C) ∧ Cls K C ∧ Meth K C (nm x) f ∧ FnG P w K mg base k f fd ps m ∧ Binds K fd ps []
theorem nm_inj {a b : String} (h : nm a = nm b) : a = b := by
  have e : (nm a).cps = (nm b).cps := congrArg Str.cps h
  rw [show nm a = _ from Str.ofString_eq_toList a, show nm b = _ from Str.ofString_eq_toList b] at e
  have e2 : a.toList.map Char.toNat = b.toList.map Char.toNat := by simpa using e
  have e3 : a.toList = b.toList := List.map_inj_right (f := Char.toNat) (fun x y q => Char.toNat_inj.mp q) |>.mp e2
  exact String.toList_inj.mp e3
theorem RF.lookup {K : PySem.W.Frag} {μ : List Addr} {H : Hp} : ∀ {fs : List (String × D)} {gs : List (Str × V)} (f : String), RF K μ H fs gs → (∀ d, fs.lookup f = some d → ∃ v, gs.lookup (nm f) = some v ∧ RV K μ H d v) ∧ (fs.lookup f = none → gs.lookup (nm f) = none)
  | [], [], _, _ => ⟨fun _ h => by simp at h, fun _ => rfl⟩
  | (a, d) :: fs, (b, v) :: gs, f, h => by
    obtain ⟨h1, h2, h3⟩ := h
    subst h1
    have ih := RF.lookup f h3
    rw [List.lookup_cons, List.lookup_cons]
    by_cases e : f = a
    · subst e
      rw [show (f == f) = true from beq_self_eq_true f, show (nm f == nm f) = true from beq_self_eq_true _]
      exact ⟨fun d' q => by cases q; exact ⟨v, rfl, h2⟩, fun q => by cases q⟩
    · rw [show (f == a) = false from beq_eq_false_iff_ne.mpr e, show (nm f == nm a) = false from beq_eq_false_iff_ne.mpr fun z => e (nm_inj z)]
      exact ih
  | [], _ :: _, _, h => h.elim
  | _ :: _, [], _, h => h.elim
/-- what eMeth asks of the object -/
theorem meth_at {E : XK} {Q : VK} {mm c : String} {H1 : Hp} {μ1 : List Addr} {d : D} {v : V} {mh1 : MH} {ρ : En} {as : MA} {C : Addr} (hC : X.mg (nm c) = some (.ref C)) (rl : Rl X.K X.mg μ1 H1 mh1) (r : RV X.K μ1 H1 d v)
    (q : PostR X.K X.mg (relV X.K) E μ1 H1 (methK mm c m as ρ d mh1) Q) : ∃ nn a dx gs, d = .loc nn ∧ μ1[nn]? = some a ∧ v = .ref a ∧ H1 a = some (.ins C dx gs) ∧ gs.lookup (nm mm) = none ∧ PostR X.K X.mg (relV X.K) E μ1 H1 ((as ρ mh1).bind fun ds h2 => m (.loc nn :: ds) h2) Q := by
  unfold methK at q
  cases r with
  | loc hn =>
    rename_i nn a
    dsimp only at q
    have hl : nn < mh1.length := by rw [← rl.len]; exact (List.getElem?_eq_some_iff.mp hn).1
    have ob := rl.obj nn a _ hn (List.getElem?_eq_getElem hl)
    rw [List.getElem?_eq_getElem hl] at q
    cases ho : mh1[nn] with
    | ins c' fs =>
      rw [ho] at q ob
      dsimp only at q
      split at q
      · rename_i hc
        obtain ⟨rfl, hf⟩ := hc
        obtain ⟨C', dx, gs, h1, h2, h3⟩ := ob
        rw [hC] at h1
        cases h1
        exact ⟨nn, a, dx, gs, rfl, hn, rfl, h2, (RF.lookup mm h3).2 hf, q⟩
      · exact q.elim
    | lst xs => rw [ho] at q; exact q.elim
    | dic xs => rw [ho] at q; exact q.elim
  | non => exact q.elim
  | bl b => exact q.elim
  | int i => exact q.elim
  | str s => exact q.elim
  | tup h r => exact q.elim
  | rl h r => exact q.elim
theorem se_meth {c mm : String} {pl : Sem Bool} (ok : Ok W n X) (g : GMet X.prog X.w X.K X.mg X.base k c mm m) (ho : SE W X o mo) (ha : SA W X (e :: es) mas) (hk : k ≤ n := by omega)
    (hst : starEach (e :: es) X.env = (false, eval e X.env) :: starEach es X.env := by rfl) (hpl : (backTo pos (starEach es X.env)).any (·.1) = false := by rfl)
    (ht : eval (.Call (.Attribute o (nm mm) apos) (e :: es) [] pos) X.env = (do
      let ov ← eval o X.env
      standAt apos.atName
      let (f, first) ← holding [ov] (getMethod ov (nm mm) pl)
      callWith pos f first (backTo pos (starEach (e :: es) X.env)) (backToKw pos (keywordEach [] X.env))) := by rfl) : SE W X (.Call (.Attribute o (nm mm) apos) (e :: es) [] pos) (eMeth mm c m mo mas) := by
  obtain ⟨C, f, fd, ps, hC, cl, me, F, b⟩ := g.ex
  constructor
  intro pins s σ H Q I h
  obtain ⟨μ, ρ, mh, re, rl, q⟩ := h
  refine PySem.W.methodCall_KW (pl := pl) (thn (ho.run pins s σ H _ I ⟨μ, ρ, mh, re, rl, PostR.bind (rel := relV X.K) q⟩) fun u s1 h1 => ?_) ht
  obtain ⟨v, H1, I1, rv, μ1, d, mh1, e1, rl1, r1, q1⟩ := h1
  obtain ⟨nn, a, dx, gs, rfl, hn, rfl, hH, hf, q2⟩ := meth_at hC rl1 r1 q1
  cases rv
  refine getmeth_ok I1 hH cl me hf ?_
  refine PySem.W.callWith_K (first := [.ref a]) (h₀ := X.base) I.ok.mod.kin me.kp (thn (ha.run pos pins s1 σ H1 _ I1 ⟨μ1, ρ, mh1, re.ext rl e1, rl1, PostR.bind (rel := relVs X.K) q2⟩) fun us s2 h2 => ?_) hst hpl
  obtain ⟨vs, H2, I2, r, μ2, ds, mh2, e2, rl2, rvs, q3⟩ := h2
  exact ⟨I2.kIn, runG (us := .ref a :: us) (vs := .ref a :: vs) ok F hk b I2 (.cons rfl r) (.cons (.loc (Ext.get (e := e2) hn)) rvs) rl2 q3⟩
theorem se_meth0 {c mm : String} {pl : Sem Bool} (ok : Ok W n X) (g : GMet X.prog X.w X.K X.mg X.base k c mm m) (ho : SE W X o mo) (hk : k ≤ n := by omega)
    (ht : eval (.Call (.Attribute o (nm mm) apos) [] [] pos) X.env = (do
      let ov ← eval o X.env
      standAt apos.atName
      let (f, first) ← holding [ov] (getMethod ov (nm mm) pl)
      callWith pos f first (backTo pos (starEach [] X.env)) (backToKw pos (keywordEach [] X.env))) := by rfl) : SE W X (.Call (.Attribute o (nm mm) apos) [] [] pos) (eMeth mm c m mo aNil) := by
  obtain ⟨C, f, fd, ps, hC, cl, me, F, b⟩ := g.ex
  constructor
  intro pins s σ H Q I h
  obtain ⟨μ, ρ, mh, re, rl, q⟩ := h
  refine PySem.W.methodCall_KW (pl := pl) (thn (ho.run pins s σ H _ I ⟨μ, ρ, mh, re, rl, PostR.bind (rel := relV X.K) q⟩) fun u s1 h1 => ?_) ht
  obtain ⟨v, H1, I1, rv, μ1, d, mh1, e1, rl1, r1, q1⟩ := h1
  obtain ⟨nn, a, dx, gs, rfl, hn, rfl, hH, hf, q2⟩ := meth_at hC rl1 r1 q1
  cases rv
  refine getmeth_ok I1 hH cl me hf ?_
  exact PySem.W.callWith_K0 (first := [.ref a]) I1.kIn me.kp (runG (us := [.ref a]) (vs := [.ref a]) ok F hk b I1 (.cons rfl .nil) (.cons (.loc hn) .nil) rl1 q2)

/-- a class of the module that is made by its __init__ -/
structure GMak (P : Program) (w : World) (K : PySem.W.Frag) (mg : Str → Option Value) (base : Heap) (k : Nat) (c : String) (m : MF) : Prop where
  ex : ∃ (C f : Addr) (fd : FuncData) (ps : List Str), mg (nm c) = some (.ref C) ∧ Mk K C f ∧ FnG P w K mg base k f fd ps m ∧ Binds K fd ps []
theorem runMake {c : String} {pins : List (Addr × Obj)} {σ : L2.St} {H : Hp} {s : Shared} {Q : VK} {us : List Value} {vs : List V} {μ : List Addr} {ds : List D} {mh : MH} (ok : Ok W n X) (hC : X.mg (nm c) = some (.ref C)) (M : Mk X.K C f) (F : FnG X.prog X.w X.K X.mg X.base k f fd ps m) (hk : k + 1 ≤ n) (hb : Binds X.K fd ps [])
    (I : Inv X pins σ H s) (r : Vals vs us) (rv : RVs X.K μ H ds vs) (rl : Rl X.K X.mg μ H mh)
    (h : PostR X.K X.mg (relV X.K) (fun cls d H => W cls d σ H) μ H ((m (.loc mh.length :: ds) (mh ++ [.ins c []])).bind fun x h2 => match x with | .non => .ok (.loc mh.length) h2 | _ => .stuck) Q) :
    wpAny (model X.prog X.w) X.A (call (.ref C) us) (EP X pins σ Q) X.xe s := by
  have hx : H (s.heap.objs.size + 1) = none := I.hok.fresh (Nat.le_succ _)
  have hd : H s.heap.objs.size = none := I.hok.fresh (Nat.le_refl _)
  have I2 := Inv.made (C := C) I
  have hx2 : (upd H s.heap.objs.size (.own (s.heap.objs.size + 1))) (s.heap.objs.size + 1) = none := by rw [upd_ne (Nat.ne_of_gt (Nat.lt_succ_self _))]; exact hx
  have ea : Ext μ H μ (upd H s.heap.objs.size (.own (s.heap.objs.size + 1))) := Ext.upd hd
  have rla : Rl X.K X.mg μ (upd H s.heap.objs.size (.own (s.heap.objs.size + 1))) mh := ⟨rl.len, rl.nd, fun i a u h1 h2 => by
    have q := rl.obj i a u h1 h2
    have na : a ≠ s.heap.objs.size := fun z => rl.fresh hd (z ▸ List.mem_of_getElem? h1)
    cases u with
    | lst xs => obtain ⟨w, z, rv⟩ := q; exact ⟨w, by rw [upd_ne na]; exact z, RVs.ext rl ea rv⟩
    | dic kvs => obtain ⟨w, z, rv⟩ := q; exact ⟨w, by rw [upd_ne na]; exact z, RK.ext rl ea rv⟩
    | ins c fs => obtain ⟨C, dx, w, y, z, rv⟩ := q; exact ⟨C, dx, w, y, by rw [upd_ne na]; exact z, RF.ext rl ea rv⟩⟩
  obtain ⟨rlb, eb⟩ := rla.push (o := .ins C s.heap.objs.size []) (m := .ins c []) hx2 ⟨C, _, [], hC, upd_same, trivial⟩
  have e2 := ea.trans eb
  have hmu : (μ ++ [s.heap.objs.size + 1])[mh.length]? = some (s.heap.objs.size + 1) := by rw [← rl.len, List.getElem?_append_right (Nat.le_refl _), Nat.sub_self]; rfl
  have h3 : PostR X.K X.mg (relV X.K) (fun cls d H => W cls d σ H) (μ ++ [s.heap.objs.size + 1]) (upd (upd H s.heap.objs.size (.own (s.heap.objs.size + 1))) (s.heap.objs.size + 1) (.ins C s.heap.objs.size [])) (m (.loc mh.length :: ds) (mh ++ [.ins c []])) fun v H2 => v = .non ∧ Q (.ref (s.heap.objs.size + 1)) H2 := by
    refine (PostR.bind (rel := relV X.K) (h.later e2)).mono fun v H2 ⟨μ3, y, mh3, e3, rl3, r3, q3⟩ => ?_
    cases r3 with
    | non => exact ⟨rfl, q3 μ3 _ H2 (.refl _ _) rl3 (.loc (Ext.get (e := e3) hmu))⟩
    | bl b => exact q3.elim
    | int i => exact q3.elim
    | str s => exact q3.elim
    | tup h r => exact q3.elim
    | rl h r => exact q3.elim
    | loc h => exact q3.elim
  have rv2 : RVs X.K (μ ++ [s.heap.objs.size + 1]) (upd (upd H s.heap.objs.size (.own (s.heap.objs.size + 1))) (s.heap.objs.size + 1) (.ins C s.heap.objs.size [])) (.loc mh.length :: ds) (.ref (s.heap.objs.size + 1) :: vs) := .cons (.loc hmu) (RVs.ext rl e2 rv)
  have r2 : Vals (V.ref (s.heap.objs.size + 1) :: vs) (Value.ref (s.heap.objs.size + 1) :: us) := .cons rfl r
  have hl : (Value.ref (s.heap.objs.size + 1) :: us).length = ps.length := by rw [← r2.length, ← rv2.length]; exact F.len _ _ h3.ne
  have b := hb { s with heap := (s.heap.push PySem.W.emptyDict).push (PySem.W.instObj C s.heap.objs.size) } (Value.ref (s.heap.objs.size + 1) :: us) I2.kIn (by rw [List.append_nil]; exact hl)
  rw [List.append_nil] at b
  have rm : Room k (X.A.under (.builtin "type.__call__" ⟨.ref C :: us, []⟩)) := (ok.room.mono hk).make C us []
  have gd : (X.A.under (.builtin "type.__call__" ⟨.ref C :: us, []⟩)).guards = some [] := by
    have z := ok.guards
    first
      | exact z
      | (simp [Around.under, Code.guards, Code.isGuard, pushGuards, guardIds, z])
  refine wpAny_call (make_map (f := f) I.kIn M.makes M.init (beq_iff_eq.mp M.fn) (codeAny_mono (F.run _ X.stack _ _ ⟨Value.ref (s.heap.objs.size + 1) :: us, []⟩ _ _ _ (WE W σ) _ _ _ rm gd (I2.env0.make C us []) b r2 rv2 rlb h3) fun q s' hq => ?_))
  cases q with
  | error e => exact ok.pass σ pins _ _ e s' I2 hq
  | ok fl => cases fl with
    | ret u =>
      obtain ⟨v, H', I3, rv3, ev, q3⟩ := I2.after hq
      subst ev
      exact ⟨rv3, .ref (s.heap.objs.size + 1), H', I3, rfl, q3⟩
    | next => exact hq.elim
    | brk => exact hq.elim
    | cont => exact hq.elim
theorem se_make {c : String} (ok : Ok W n X) (g : GMak X.prog X.w X.K X.mg X.base k c m) (hg : Gl X (nm c)) (ha : SA W X (e :: es) mas) (hk : k + 1 ≤ n := by omega) (hdb : (nm c == ("__debug__" : Str)) = false := by decide)
    (he : starEach (e :: es) X.env = (false, eval e X.env) :: starEach es X.env := by rfl) (hpl : (backTo pos (starEach es X.env)).any (·.1) = false := by rfl) : SE W X (.Call (.Name (nm c) p) (e :: es) [] pos) (eMake c m mas) := by
  obtain ⟨C, f, fd, ps, hC, M, F, b⟩ := g.ex
  constructor
  intro pins s σ H Q I h
  obtain ⟨μ, ρ, mh, re, rl, q⟩ := h
  refine wpAny_Call_Name_kw (ld_glob I hg hC (PySem.W.callWith_K (h₀ := X.base) I.ok.mod.kin M.kp (thn (ha.run pos pins s σ H _ I ⟨μ, ρ, mh, re, rl, PostR.bind (rel := relVs X.K) q⟩) fun us s1 h1 => ?_) he hpl) hdb)
  obtain ⟨vs, H1, I1, r, μ1, ds, mh1, e1, rl1, rv, q1⟩ := h1
  exact ⟨I1.kIn, runMake ok hC M F hk b I1 r rv rl1 q1⟩
theorem se_make0 {c : String} (ok : Ok W n X) (g : GMak X.prog X.w X.K X.mg X.base k c m) (hg : Gl X (nm c)) (hk : k + 1 ≤ n := by omega) (hdb : (nm c == ("__debug__" : Str)) = false := by decide) : SE W X (.Call (.Name (nm c) p) [] [] pos) (eMake c m aNil) := by
  obtain ⟨C, f, fd, ps, hC, M, F, b⟩ := g.ex
  constructor
  intro pins s σ H Q I h
  obtain ⟨μ, ρ, mh, re, rl, q⟩ := h
  exact wpAny_Call_Name_kw (ld_glob I hg hC (PySem.W.callWith_K0 I.kIn M.kp (runMake (us := []) ok hC M F hk b I .nil .nil rl q)) hdb)
end

/-! ### a def by its body -/
/-- the context of a def's body -/
abbrev cxD (P : Program) (w : World) (K : PySem.W.Frag) (mg : Str → Option Value) (base : Heap) (N : List Str) (qual : Str) (scope : Scope) (f : Addr) (cd : Value) (A : Around) (outer : List Env) (s : Shared) (H : Hp) (E : XK) : Cx := cxOf (L2.CX P w) P w K mg base N qual scope f cd A outer s H E
abbrev wOf (E : XK) : WX := fun cls d _ H => E cls d H
theorem ok_of {P : Program} {w : World} {K : PySem.W.Frag} {mg : Str → Option Value} {base : Heap} {N ps : List Str} {qual : Str} {scope : Scope} {f : Addr} {cd : Value} {A : Around} {outer : List Env} {s : Shared} {H : Hp} {E : XK} {k : Nat}
    (S : FnScope N ps scope) (hr : Room k (A.deeper (envOfC qual scope s.heap.objs.size f cd))) (hg : A.guards = some []) : Ok (fun cls d _ H => E cls d H) k (cxD P w K mg base N qual scope f cd A outer s H E) := by
  have tk : Takes (cxD P w K mg base N qual scope f cd A outer s H E) (fun cls d _ H => E cls d H) := takes_of rfl rfl rfl rfl
  exact ⟨rfl, passes_of rfl, passAt tk, tk, S.nd, hr, hg⟩
theorem start_re {K : PySem.W.Frag} {μ : List Addr} {H : Hp} {ds : List D} {vs : List V} (r : RVs K μ H ds vs) (N : List Str) : RE K μ H (ds.map some ++ List.replicate (N.length - ds.length) none) (L2.start N vs) := by
  refine ⟨by simp [L2.start, r.length], fun i d q => ?_⟩
  unfold L2.start
  by_cases hi : i < ds.length
  · rw [List.getElem?_append_left (by simpa using hi), List.getElem?_map] at q
    cases e : ds[i]? with
    | none => rw [e] at q; cases q
    | some d' =>
      rw [e] at q
      cases q
      obtain ⟨v, hv, rv⟩ := r.get e
      refine ⟨v, ?_, rv⟩
      rw [List.getElem?_append_left (by rw [List.length_map, ← r.length]; exact hi), List.getElem?_map, hv]
      rfl
  · rw [List.getElem?_append_right (by simpa using hi), List.getElem?_replicate] at q
    split at q <;> cases q
theorem PostR.runB {K : PySem.W.Frag} {mg : Str → Option Value} {E : XK} {μ : List Addr} {H : Hp} {b : MS} {N : Nat} {ds : List D} {h : MH} {Q : VK} (q : PostR K mg (relV K) E μ H (runB b N ds h) Q) :
    PostS K mg (fun cls d _ H => E cls d H) μ H (b (ds.map some ++ List.replicate (N - ds.length) none) h) { nx := fun _ H' => Q .non H', rt := Q } := by
  unfold Mir.runB at q
  cases hb : b (ds.map some ++ List.replicate (N - ds.length) none) h with
  | nx ρ h' => rw [hb] at q; exact fun μ' σ' H' e r _ => q μ' .non H' e r .non
  | rt d h' => rw [hb] at q; exact q
  | exc c fs ρ h' => rw [hb] at q; exact fun μ' σ' H' cls d e r _ x => q μ' H' cls d e r x
  | bk ρ h' => rw [hb] at q; exact q.elim
  | ct ρ h' => rw [hb] at q; exact q.elim
  | stuck => rw [hb] at q; exact q.elim
theorem fnG_of {P : Program} {w : World} {K : PySem.W.Frag} {mg : Str → Option Value} {base : Heap} {k : Nat} {f : Addr} {x qual : Str} {st : Stmt} {fd : FuncData} {N ps : List Str} {b : MS} (F : L2.Fun K x qual st f fd) (S : FnScope N ps (defScope st))
    (hbody : ∀ (cdv : Value) (A : Around) (outer : List Env) (s : Shared) (H : Hp) (E : XK), Ok (wOf E) k (cxD P w K mg base N qual (defScope st) f cdv A outer s H E) → SSs (wOf E) (cxD P w K mg base N qual (defScope st) f cdv A outer s H E) (defBody st) b) :
    FnG P w K mg base (k + 1) f fd ps (fnM ps.length N.length b) := by
  obtain ⟨oc, od, kV, doc, pm, an, cdv, ct, osl, rfl, lk, hcd⟩ := F.ex
  refine ⟨fun ds h q => ?_, fun A outer s H args us vs Q E μ ds mh hr hg e0 hb r rv rl q => ?_⟩
  · unfold fnM at q
    split at q
    · assumption
    · exact absurd rfl q
  unfold fnM at q
  split at q
  case isFalse => exact q.elim
  rename_i hlen
  have hvl : vs.length = ps.length := by rw [← rv.length]; exact hlen
  have kin : K.In s.heap := e0.mod.kin.keeps fun c o z => (e0.bs c o z).1
  have lim : s.heap.NoLimit := e0.mod.nolimit.keeps fun c o z => (e0.bs c o z).1
  have kinds : ∀ y ∈ ps.zip us, (defScope st).names.lookup y.1 = some .local ∨ ((defScope st).names.lookup y.1 = some .cell ∧ ((cellsFrom (s.heap.objs.size + 1) (defScope st).names []).lookup y.1).isSome = true) := by
    rintro ⟨y, v⟩ hy
    exact (S.par y (List.of_mem_zip hy).1).elim .inl fun z => .inr ⟨z, PySem.W.cellsFrom_some _ _ _ (.inl z)⟩
  refine codeAny_call_function hr.depth (kin _ _ lk) rfl S.co S.gen rfl (PySem.W.codeRec_of kin hcd) (hb _ _ _ _ (wpAny_newFunctionEnv_cells S.kind kinds fun env he s1 hx => ?_))
  subst he
  refine ⟨lim.keeps hx.toInCall.keep, codeAny_func ?_⟩
  have okx : Ok (wOf E) k (cxD P w K mg base N qual (defScope st) f cdv A outer s H E) := ok_of S (hr.deeper _) hg
  have body := hbody cdv A outer s H E okx
  have I : Inv (cxD P w K mg base N qual (defScope st) f cdv A outer s H E) [] (L2.start N vs) H s1 := inv_start S hr.hd e0 hvl r hx
  refine wpAny_mono (body.run [] s1 (L2.start N vs) H { nx := fun _ H' => Q .non H', rt := Q } I ⟨μ, _, mh, start_re rv N, rl, PostR.runB (gc_sound rl q)⟩) (fun fl s' hs => ?_) fun e s' hs => hs
  cases fl with
  | ret u =>
    obtain ⟨v, σ', H', J, rv', q'⟩ := hs
    exact ⟨v, H', J.os, J.bare, J.base, J.hok, rv', q'⟩
  | next =>
    obtain ⟨σ', H', J, q'⟩ := hs
    exact ⟨.non, H', J.os, J.bare, J.base, J.hok, rfl, q'⟩
  | brk =>
    obtain ⟨_, _, _, z⟩ := hs
    exact z.elim
  | cont =>
    obtain ⟨_, _, _, z⟩ := hs
    exact z.elim
end Mir
set_option Elab.async false
set_option linter.all false
set_option maxRecDepth 100000
set_option autoImplicit false
/-! Mirror: displays, tests, statements, loops, comprehensions. -/
namespace Mir
open PySem PySem.Spec PyProof.Rows L2

section
variable {W : WX} {X : Cx} {n : Nat} {e a b c : Expr} {es : List Expr} {st : Stmt} {sts sts' : List Stmt} {pos : Pos} {ma mb mc : ME} {mas : MA} {mt mu : MT} {ms ms' : MS}
theorem big_line {k : Nat} (h : k ≤ 100000) : k ≤ sizeLine := Nat.le_trans h (by decide)
theorem lt_line {k : Nat} (h : k ≤ 100000) : k < sizeLine := Nat.lt_of_le_of_lt h (by decide)
theorem Rl.upd_new {K : PySem.W.Frag} {mg : Str → Option Value} {μ : List Addr} {H : Hp} {mh : MH} (rl : Rl K mg μ H mh) {p : Addr} {o : HO} (hp : H p = none) : Rl K mg μ (upd H p o) mh := rl.off (u := o) (.inl hp) (rl.fresh hp)
theorem se_tup {j : Nat} (ha : SA W X es mas) : SE W X (.Tuple es j pos) (eTup mas) := by
  refine (pe_tup ha).weak fun σ H Q ⟨μ, ρ, mh, re, rl, p⟩ => ⟨μ, ρ, mh, re, rl, (PostR.bind (rel := relVs X.K) p).mono fun vs H1 ⟨μ1, xs, mh1, e1, rl1, r, p1⟩ => ?_⟩
  split at p1
  case isFalse => exact p1.elim
  rename_i hl
  refine ⟨by rw [← r.length]; exact big_line hl, fun q hq => ?_⟩
  exact p1 μ1 (.ref q) _ (Ext.upd hq) (rl1.upd_new hq) (.tup (.of upd_same) (RVs.ext rl1 (Ext.upd hq) r))
theorem se_lst (ha : SA W X es mas) : SE W X (.List es pos) (eLst mas) := by
  refine (pe_lst ha).weak fun σ H Q ⟨μ, ρ, mh, re, rl, p⟩ => ⟨μ, ρ, mh, re, rl, (PostR.bind (rel := relVs X.K) p).mono fun vs H1 ⟨μ1, xs, mh1, e1, rl1, r, p1⟩ => ?_⟩
  split at p1
  case isFalse => exact p1.elim
  rename_i hl
  refine ⟨by rw [← r.length]; exact big_line hl, fun q hq => ?_⟩
  have ee : Ext μ1 H1 (μ1 ++ [q]) (upd H1 q (.lst vs)) := ⟨List.prefix_append _ _, fun a u h _ => by rw [upd_ne (ne_of_none h hq)]; exact h, fun a m n => by
    rcases List.mem_append.mp m with m | m
    · exact absurd m n
    · rw [List.mem_singleton.mp m]; exact hq⟩
  obtain ⟨rl2, e2⟩ := rl1.push (o := .lst vs) (m := .lst xs) hq ⟨vs, upd_same, RVs.ext rl1 ee r⟩
  refine p1 _ (.ref q) _ e2 rl2 (.loc ?_)
  rw [← rl1.len, List.getElem?_append_right (Nat.le_refl _), Nat.sub_self]
  rfl
theorem se_if (ht : ST W X c mt) (ha : SE W X a ma) (hb : SE W X b mb) : SE W X (.IfExp c a b pos) (eIf mt ma mb) := by
  refine (pe_ifExp ht ha hb).weak fun σ H Q ⟨μ, ρ, mh, re, rl, p⟩ => ⟨μ, ρ, mh, re, rl, (PostR.bind (rel := relB) p).mono fun k H1 ⟨μ1, k', mh1, e1, rl1, r, p1⟩ => ?_⟩
  cases r
  cases k with
  | true => exact ⟨μ1, ρ, mh1, re.ext rl e1, rl1, p1⟩
  | false => exact ⟨μ1, ρ, mh1, re.ext rl e1, rl1, p1⟩
theorem rv_bl {K : PySem.W.Frag} {μ : List Addr} {H : Hp} {v : V} {k : Bool} (r : RV K μ H (.bl k) v) : v = .bl k := by cases r; rfl
theorem se_one {op : BoolOp} (h : SE W X a ma) : SE W X (.BoolOp op [a] pos) ma := pe_one h
theorem se_and {rest : List Expr} (ha : SE W X a ma) (hb : SE W X (.BoolOp .And (b :: rest) pos) mb) : SE W X (.BoolOp .And (a :: b :: rest) pos) (eAnd ma mb) := by
  refine (pe_and ha hb).weak fun σ H Q ⟨μ, ρ, mh, re, rl, p⟩ => ⟨μ, ρ, mh, re, rl, (PostR.bind (rel := relV X.K) p).mono fun v H1 ⟨μ1, d, mh1, e1, rl1, r, p1⟩ => ?_⟩
  cases d with
  | bl k =>
    refine ⟨k, rv_bl r, ?_⟩
    cases k with
    | true => exact ⟨μ1, ρ, mh1, re.ext rl e1, rl1, p1⟩
    | false => exact p1 μ1 _ H1 (.refl _ _) rl1 (.bl false)
  | non => exact p1.elim
  | int i => exact p1.elim
  | str s => exact p1.elim
  | tup s => exact p1.elim
  | rl s => exact p1.elim
  | loc s => exact p1.elim
theorem se_or {rest : List Expr} (ha : SE W X a ma) (hb : SE W X (.BoolOp .Or (b :: rest) pos) mb) : SE W X (.BoolOp .Or (a :: b :: rest) pos) (eOr ma mb) := by
  refine (pe_or ha hb).weak fun σ H Q ⟨μ, ρ, mh, re, rl, p⟩ => ⟨μ, ρ, mh, re, rl, (PostR.bind (rel := relV X.K) p).mono fun v H1 ⟨μ1, d, mh1, e1, rl1, r, p1⟩ => ?_⟩
  cases d with
  | bl k =>
    refine ⟨k, rv_bl r, ?_⟩
    cases k with
    | false => exact ⟨μ1, ρ, mh1, re.ext rl e1, rl1, p1⟩
    | true => exact p1 μ1 _ H1 (.refl _ _) rl1 (.bl true)
  | non => exact p1.elim
  | int i => exact p1.elim
  | str s => exact p1.elim
  | tup s => exact p1.elim
  | rl s => exact p1.elim
  | loc s => exact p1.elim
theorem se_not (ha : SE W X a ma) : SE W X (.UnaryOp .Not a pos) (eNot ma) := by
  refine (pe_not ha).weak fun σ H Q ⟨μ, ρ, mh, re, rl, p⟩ => ⟨μ, ρ, mh, re, rl, (PostR.bind (rel := relV X.K) p).mono fun v H1 ⟨μ1, d, mh1, e1, rl1, r, p1⟩ => ?_⟩
  cases d with
  | bl k => exact ⟨k, rv_bl r, p1 μ1 _ H1 (.refl _ _) rl1 (.bl _)⟩
  | non => exact p1.elim
  | int i => exact p1.elim
  | str s => exact p1.elim
  | tup s => exact p1.elim
  | rl s => exact p1.elim
  | loc s => exact p1.elim
theorem se_chain {op op' : CmpOp} {r r' : R2} {f g : D → D → MH → R D} (ho : OpR X (compareOp op) r) (ho' : OpR X (compareOp op') r') (hf : Op2 X.K X.mg r f) (hg : Op2 X.K X.mg r' g) (ha : SE W X a ma) (hb : SE W X b mb) (hc : SE W X c mc)
    (pf : PE X (.Compare a [op, op'] [b, c] pos) (tChain r r' (rdE X.K X.mg W ma) (rdE X.K X.mg W mb) (rdE X.K X.mg W mc))) : SE W X (.Compare a [op, op'] [b, c] pos) (eChain f g ma mb mc) := by
  refine pf.weak fun σ H Q ⟨μ, ρ, mh, re, rl, p⟩ => ⟨μ, ρ, mh, re, rl, (PostR.bind (rel := relV X.K) p).mono fun v H1 ⟨μ1, x, mh1, e1, rl1, rx, p1⟩ => ?_⟩
  refine ⟨μ1, ρ, mh1, re.ext rl e1, rl1, (PostR.bind (rel := relV X.K) p1).mono fun u H2 ⟨μ2, y, mh2, e2, rl2, ry, p2⟩ => ?_⟩
  refine hf _ μ2 H2 mh2 x y v u _ rl2 (RV.ext rl1 e2 rx) ry ((PostR.bind (rel := relV X.K) p2).mono fun w' H3 ⟨μ3, z, mh3, e3, rl3, rz, p3⟩ => ?_)
  cases z with
  | bl k =>
    refine ⟨k, rv_bl rz, ?_⟩
    cases k with
    | true =>
      refine ⟨μ3, ρ, mh3, ((re.ext rl e1).ext rl1 e2).ext rl2 e3, rl3, (PostR.bind (rel := relV X.K) p3).mono fun q H4 ⟨μ4, w2, mh4, e4, rl4, rw4, p4⟩ => ?_⟩
      exact hg _ μ4 H4 mh4 y w2 u q Q rl4 (RV.ext rl3 e4 (RV.ext rl2 e3 ry)) rw4 p4
    | false => exact p3 μ3 _ H3 (.refl _ _) rl3 (.bl false)
  | non => exact p3.elim
  | int i => exact p3.elim
  | str s => exact p3.elim
  | tup s => exact p3.elim
  | rl s => exact p3.elim
  | loc s => exact p3.elim

/-! ### tests -/
theorem st_val (h : SE W X e ma) (he : ∀ whole, isTrue e X.env whole = (do let v ← whole; standAt e.pos; holding [v] (truthy v)) := by intro _; rfl) : ST W X e (tVal ma) := by
  refine (pt_val h he).weak fun σ H Q ⟨μ, ρ, mh, re, rl, p⟩ => ⟨μ, ρ, mh, re, rl, (PostR.bind (rel := relV X.K) p).mono fun v H1 ⟨μ1, d, mh1, e1, rl1, r, p1⟩ => ?_⟩
  cases d with
  | bl k => exact ⟨k, rv_bl r, p1 μ1 _ H1 (.refl _ _) rl1 rfl⟩
  | non => exact p1.elim
  | int i => exact p1.elim
  | str s => exact p1.elim
  | tup s => exact p1.elim
  | rl s => exact p1.elim
  | loc s => exact p1.elim
theorem st_cmp {op : CmpOp} {r : R2} {f : D → D → MH → R D} (ho : OpR X (compareOp op) r) (hf : Op2 X.K X.mg r f) (ha : SE W X a ma) (hb : SE W X b mb) (hm : behindInMarks op b = false) : ST W X (.Compare a [op] [b] pos) (tVal (eBin f ma mb)) := by
  refine (pt_cmpR ho ha hb hm).weak fun σ H Q h => ?_
  obtain ⟨μ, ρ, mh, re, rl, p⟩ := h
  have p' := (PostR.bind (rel := relV X.K) p).mono fun v H1 (h1 : ∃ μ1 d mh1, Ext μ H μ1 H1 ∧ Rl X.K X.mg μ1 H1 mh1 ∧ RV X.K μ1 H1 d v ∧ PostR X.K X.mg relB (fun cls d H => W cls d σ H) μ1 H1 (match d with | .bl c => R.ok c mh1 | _ => .stuck) Q) => show ∃ k, v = .bl k ∧ Q k H1 from by
    obtain ⟨μ1, d, mh1, e1, rl1, r, p1⟩ := h1
    cases d with
    | bl k => exact ⟨k, rv_bl r, p1 μ1 _ H1 (.refl _ _) rl1 rfl⟩
    | non => exact p1.elim
    | int i => exact p1.elim
    | str s => exact p1.elim
    | tup s => exact p1.elim
    | rl s => exact p1.elim
    | loc s => exact p1.elim
  exact rd2 hf σ H _ ⟨μ, ρ, mh, re, rl, p'⟩
theorem st_pw (h : SW W X e mt) : ST W X e mt := h.pt
theorem sw_and1 (h : ST W X a mt) : SW W X (.BoolOp .And [a] pos) mt := pw_and1 h
theorem sw_or1 (h : ST W X a mt) : SW W X (.BoolOp .Or [a] pos) mt := pw_or1 h
theorem sw_and {rest : List Expr} (ha : ST W X a mt) (hb : SW W X (.BoolOp .And (b :: rest) pos) mu) : SW W X (.BoolOp .And (a :: b :: rest) pos) (tAnd mt mu) := by
  refine (pw_and ha hb).weak fun σ H Q ⟨μ, ρ, mh, re, rl, p⟩ => ⟨μ, ρ, mh, re, rl, (PostR.bind (rel := relB) p).mono fun k H1 ⟨μ1, k', mh1, e1, rl1, r, p1⟩ => ?_⟩
  cases r
  cases k with
  | true => exact ⟨μ1, ρ, mh1, re.ext rl e1, rl1, p1⟩
  | false => exact p1 μ1 _ H1 (.refl _ _) rl1 rfl
theorem sw_or {rest : List Expr} (ha : ST W X a mt) (hb : SW W X (.BoolOp .Or (b :: rest) pos) mu) : SW W X (.BoolOp .Or (a :: b :: rest) pos) (tOr mt mu) := by
  refine (pw_or ha hb).weak fun σ H Q ⟨μ, ρ, mh, re, rl, p⟩ => ⟨μ, ρ, mh, re, rl, (PostR.bind (rel := relB) p).mono fun k H1 ⟨μ1, k', mh1, e1, rl1, r, p1⟩ => ?_⟩
  cases r
  cases k with
  | false => exact ⟨μ1, ρ, mh1, re.ext rl e1, rl1, p1⟩
  | true => exact p1 μ1 _ H1 (.refl _ _) rl1 rfl
theorem st_not (ha : ST W X a mt) : ST W X (.UnaryOp .Not a pos) (tNot mt) := by
  refine (pt_not ha).weak fun σ H Q ⟨μ, ρ, mh, re, rl, p⟩ => ⟨μ, ρ, mh, re, rl, (PostR.bind (rel := relB) p).mono fun k H1 ⟨μ1, k', mh1, e1, rl1, r, p1⟩ => ?_⟩
  cases r
  exact p1 μ1 _ H1 (.refl _ _) rl1 rfl

/-! ### statements -/
theorem sss_nil : SSs W X [] sNil := pss_nil.weak fun D σ H ⟨μ, ρ, mh, re, rl, p⟩ => p μ σ H (.refl _ _) rl re
theorem sss_cons (h1 : SS W X st ms) (h2 : SSs W X sts ms') : SSs W X (st :: sts) (sCons ms ms') := by
  refine (pss_cons h1 h2).weak fun D σ H ⟨μ, ρ, mh, re, rl, p⟩ => ⟨μ, ρ, mh, re, rl, ?_⟩
  have q := PostS.andThen p
  cases hm : ms ρ mh with
  | nx ρ1 mh1 =>
    rw [hm] at q
    exact fun μ1 σ1 H1 e1 rl1 re1 => let ⟨μ2, ρ2, mh2, e2, rl2, re2, p2⟩ := q μ1 σ1 H1 e1 rl1 re1; ⟨μ2, ρ2, mh2, re2, rl2, p2⟩
  | bk ρ1 mh1 => rw [hm] at q; exact q
  | ct ρ1 mh1 => rw [hm] at q; exact q
  | rt d mh1 => rw [hm] at q; exact q
  | exc c fs ρ1 mh1 => rw [hm] at q; exact q
  | stuck => rw [hm] at q; exact q
theorem sss_one (h1 : SS W X st ms) : SSs W X [st] ms := pss_one h1
/-- what a result is owed, by way of the expression's reading -/
theorem rdS_of {K : PySem.W.Frag} {mg : Str → Option Value} {σ : L2.St} {H : Hp} {Z : Ends} {m : ME} (k : En → D → MH → SR) {P : V → Hp → Prop}
    (h : ∃ μ ρ mh, RE K μ H ρ σ ∧ Rl K mg μ H mh ∧ PostS K mg W μ H ((m ρ mh).toS ρ (k ρ)) Z)
    (f : ∀ μ ρ v H1 d mh1, RE K μ H1 ρ σ → Rl K mg μ H1 mh1 → RV K μ H1 d v → PostS K mg W μ H1 (k ρ d mh1) Z → P v H1) : rdE K mg W m σ H P := by
  obtain ⟨μ, ρ, mh, re, rl, p⟩ := h
  refine ⟨μ, ρ, mh, re, rl, (PostR.toS (rel := relV K) (fun mh' μ' H' e _ => re.ext rl e) p).mono fun v H1 ⟨μ1, d, mh1, e1, rl1, r, p1⟩ => f μ1 ρ v H1 d mh1 (re.ext rl e1) rl1 r p1⟩
theorem ss_set (i : Nat) {x : Str} {pos' : Pos} (ok : Ok W n X) (he : SE W X e ma) (hi : X.N[i]? = some x := by rfl) (hx : Loc X.env.scope x := by first | exact Or.inl rfl | exact Or.inr rfl) (hs : swapsWith e (some (.Name x pos')) pos.line X.env = pure false := by rfl)
    (hf : X.fn x = true ∨ X.env.scope.names.lookup x = some .local := by first | exact .inl rfl | exact .inr rfl | assumption) : SS W X (.Assign [.Name x pos'] e pos) (sSet i ma) :=
  (ps_set ok.nd hi hx he hs hf).weak fun Z σ H h => rdS_of (fun ρ d h1 => .nx (ρ.set i (some d)) h1) h fun μ ρ v H1 d mh1 re rl r p => p μ _ H1 (.refl _ _) rl (re.set i r)
theorem ss_expr (he : SE W X e ma) (hs : swapsWith e none pos.line X.env = pure false := by rfl) : SS W X (.Expr e pos) (sExpr ma) :=
  (ps_expr he hs).weak fun Z σ H h => rdS_of (fun ρ _ h1 => .nx ρ h1) h fun μ ρ v H1 d mh1 re rl r p => p μ _ H1 (.refl _ _) rl re
theorem ss_ret (he : SE W X e ma) : SS W X (.Return (some e) pos) (sRet ma) :=
  (ps_ret he).weak fun Z σ H h => rdS_of (fun _ d h1 => .rt d h1) h fun μ ρ v H1 d mh1 re rl r p => p μ v H1 (.refl _ _) rl r
theorem ss_retN : SS W X (.Return none pos) sRetN := ps_retN.weak fun D σ H ⟨μ, ρ, mh, re, rl, p⟩ => p μ .non H (.refl _ _) rl .non
theorem ss_pass : SS W X (.Pass pos) sPass := ps_pass.weak fun D σ H ⟨μ, ρ, mh, re, rl, p⟩ => p μ σ H (.refl _ _) rl re
theorem ss_break : SS W X (.Break pos) sBreak := ps_break.weak fun D σ H ⟨μ, ρ, mh, re, rl, p⟩ => p μ σ H (.refl _ _) rl re
theorem ss_cont : SS W X (.Continue pos) sCont := ps_continue.weak fun D σ H ⟨μ, ρ, mh, re, rl, p⟩ => p μ σ H (.refl _ _) rl re
theorem ss_never : SS W X st sNever := ps_never.weak fun D σ H ⟨μ, ρ, mh, re, rl, p⟩ => p.elim
theorem ss_if (ht : ST W X c mt) (ha : SSs W X sts ms) (hb : SSs W X sts' ms') : SS W X (.If c sts sts' pos) (sIf mt ms ms') := by
  refine (ps_if ht ha hb).weak fun D σ H ⟨μ, ρ, mh, re, rl, p⟩ => ⟨μ, ρ, mh, re, rl, (PostR.toS (rel := relB) (fun mh' μ' H' e _ => re.ext rl e) p).mono fun k H1 ⟨μ1, k', mh1, e1, rl1, r, p1⟩ => ?_⟩
  cases r
  cases k with
  | true => exact ⟨μ1, ρ, mh1, re.ext rl e1, rl1, p1⟩
  | false => exact ⟨μ1, ρ, mh1, re.ext rl e1, rl1, p1⟩

/-! ### targets that bind names -/
/-- g binds as b does, into the slots is -/
def GB (K : PySem.W.Frag) (g : TG) (b : MB) (is : List Nat) : Prop := ∀ (μ : List Addr) (H : Hp) (d : D) (v : V) (ρ ρ' : En) (σ : L2.St) (Q : L2.St → Hp → Prop), RV K μ H d v → RE K μ H ρ σ → b d ρ = some ρ' →
  (∀ σ', RE K μ H ρ' σ' → (∀ vs : List Nat, (∀ i ∈ is, i ∈ vs) → wipe σ' vs = wipe σ vs) → Q σ' H) → g v σ H Q
structure GBs (K : PySem.W.Frag) (g : TGs) (b : List D → En → Option En) (is : List Nat) (n : Nat) : Prop where
  len : ∀ d ρ ρ', b d ρ = some ρ' → d.length = n
  run : ∀ (μ : List Addr) (H : Hp) (d : List D) (v : List V) (ρ ρ' : En) (σ : L2.St) (Q : L2.St → Hp → Prop), RVs K μ H d v → RE K μ H ρ σ → b d ρ = some ρ' →
    (∀ σ', RE K μ H ρ' σ' → (∀ vs : List Nat, (∀ i ∈ is, i ∈ vs) → wipe σ' vs = wipe σ vs) → Q σ' H) → g v σ H Q
theorem wipe_set {σ : L2.St} {i : Nat} {x : Option V} : ∀ {vs : List Nat}, i ∈ vs → wipe (σ.set i x) vs = wipe σ vs
  | [], h => by simp at h
  | v :: vs, h => by
    unfold wipe
    by_cases hv : i ∈ vs
    · rw [wipe_set hv]
    · have e : i = v := by
        rcases List.mem_cons.mp h with e | e
        · exact e
        · exact absurd e hv
      subst e
      have c : ∀ ws : List Nat, i ∉ ws → wipe (σ.set i x) ws = (wipe σ ws).set i x := by
        intro ws
        induction ws with
        | nil => intro _; rfl
        | cons w ws ih =>
          intro hw
          unfold wipe
          rw [ih (fun z => hw (List.mem_cons_of_mem _ z)), List.set_comm]
          exact fun z => hw (by rw [z]; exact List.mem_cons_self)
      rw [c vs hv, List.set_set]
theorem gb_name {K : PySem.W.Frag} (i : Nat) : GB K (gName i) (bName i) [i] := fun μ H d v ρ ρ' σ Q r re hb h => by
  cases hb
  exact h _ (re.set i r) fun vs hi => wipe_set (hi i (by simp))
theorem gbs_nil {K : PySem.W.Frag} : GBs K gNil bsNil [] 0 := by
  refine ⟨fun d ρ ρ' h => ?_, fun μ H d v ρ ρ' σ Q r re hb h => ?_⟩
  · cases d with
    | nil => rfl
    | cons _ _ => cases h
  · cases r with
    | nil =>
      cases hb
      exact ⟨rfl, h σ re fun _ _ => rfl⟩
    | cons _ _ => cases hb
theorem gbs_cons {K : PySem.W.Frag} {g : TG} {gs : TGs} {b : MB} {bs : List D → En → Option En} {is js : List Nat} {n : Nat} (h1 : GB K g b is) (h2 : GBs K gs bs js n) : GBs K (gCons g gs) (bsCons b bs) (is ++ js) (n + 1) := by
  have split : ∀ {d0 ds ρ ρ'}, bsCons b bs (d0 :: ds) ρ = some ρ' → ∃ ρ1, b d0 ρ = some ρ1 ∧ bs ds ρ1 = some ρ' := fun {d0 ds ρ ρ'} hb => by
    unfold bsCons at hb
    dsimp only at hb
    cases hq : b d0 ρ with
    | none => rw [hq] at hb; cases hb
    | some ρ1 => rw [hq] at hb; exact ⟨ρ1, rfl, hb⟩
  refine ⟨fun d ρ ρ' h => ?_, fun μ H d v ρ ρ' σ Q r re hb h => ?_⟩
  · cases d with
    | nil => cases h
    | cons d0 ds =>
      obtain ⟨ρ1, _, q⟩ := split h
      rw [List.length_cons, h2.len _ _ _ q]
  · cases r with
    | nil => cases hb
    | cons rd rr =>
      rename_i d0 v0 ds vs
      obtain ⟨ρ1, hq, hb⟩ := split hb
      refine ⟨v0, vs, rfl, h1 μ H d0 v0 ρ ρ1 σ _ rd re hq fun σ1 re1 w1 => ?_⟩
      exact h2.run μ H ds vs ρ1 ρ' σ1 Q rr re1 hb fun σ2 re2 w2 => h σ2 re2 fun vs hi => by
        rw [w2 vs fun i hm => hi i (List.mem_append_right _ hm), w1 vs fun i hm => hi i (List.mem_append_left _ hm)]
theorem gb_tup {K : PySem.W.Frag} {gs : TGs} {bs : List D → En → Option En} {is : List Nat} {n : Nat} (h : GBs K gs bs is n) : GB K (gTup K n gs) (bTup bs) is := fun μ H d v ρ ρ' σ Q r re hb q => by
  cases r with
  | tup hT rr =>
    have hb : bs _ ρ = some ρ' := hb
    exact ⟨_, _, rfl, hT, by rw [← rr.length]; exact h.len _ _ _ hb, h.run μ H _ _ ρ ρ' σ Q rr re hb q⟩
  | non => cases hb
  | bl b => cases hb
  | int i => cases hb
  | str s => cases hb
  | rl h r => cases hb
  | loc h => cases hb
/-- names = a value -/
theorem ss_bind {tg : Expr} {g : TG} {b : MB} {is : List Nat} (he : SE W X e ma) (hg : PG X tg g) (gb : GB X.K g b is) (hs : swapsWithSole [tg] e pos.line X.env = pure false := by rfl) (hw : swappedStores [tg] e X.env = pure none := by rfl)
    (h1 : (assignEach [tg] X.env).map (·.2) = [assign tg X.env] := by rfl) : SS W X (.Assign [tg] e pos) (sBind b ma) :=
  (ps_asg he hg hs hw h1).weak fun Z σ H h => rdS_of (fun ρ d h1 => match b d ρ with | some ρ1 => .nx ρ1 h1 | none => .stuck) h fun μ ρ v H1 d mh1 re rl r p => by
    cases hb : b d ρ with
    | none => rw [hb] at p; exact p.elim
    | some ρ1 =>
      rw [hb] at p
      exact gb μ H1 d v ρ ρ1 σ _ r re hb fun σ' re' _ => p μ σ' H1 (.refl _ _) rl re'
/-- x, y = a, b -/
theorem ss_par2 (i j : Nat) {x y : Str} {px py pt : Pos} {kt k2 : Nat} {pt2 : Pos} (ok : Ok W n X) (ha : SA W X [a, b] mas) (hi : X.N[i]? = some x := by rfl) (hj : X.N[j]? = some y := by rfl) (hij : i ≠ j := by decide)
    (hx : X.env.scope.names.lookup x = some .local := by rfl) (hy : X.env.scope.names.lookup y = some .local := by rfl)
    (hw : swappedStores [.Tuple [.Name x px, .Name y py] kt pt] (.Tuple [a, b] k2 pt2) X.env = pure (some [x, y]) := by rfl)
    (hs : swapsWithSole [.Tuple [.Name x px, .Name y py] kt pt] (.Tuple [a, b] k2 pt2) pos.line X.env = pure false := by rfl) :
    SS W X (.Assign [.Tuple [.Name x px, .Name y py] kt pt] (.Tuple [a, b] k2 pt2) pos) (sPar [i, j] mas) := by
  refine (ps_par ok.calm ok.nd hi hj hij hx hy ha hw hs).weak fun Z σ H ⟨μ, ρ, mh, re, rl, p⟩ => ⟨μ, ρ, mh, re, rl, (PostR.toS (rel := relVs X.K) (fun mh' μ' H' e _ => re.ext rl e) p).mono fun vs H1 ⟨μ1, ds, mh1, e1, rl1, r, p1⟩ => ?_⟩
  split at p1
  case isFalse => exact p1.elim
  rename_i hl
  cases r with
  | nil => cases hl
  | cons r1 rr => cases rr with
    | nil => cases hl
    | cons r2 rs => cases rs with
      | cons _ _ => cases hl
      | nil => exact ⟨_, _, rfl, p1 μ1 _ H1 (.refl _ _) rl1 (((re.ext rl e1).set i r1).set j r2)⟩
theorem ss_aug (i : Nat) {x : Str} {op : Operator} {ti : TIp} {f : D → D → MH → R D} {pos' : Pos} (ok : Ok W n X) (ho : PIp X op ti) (hf : Op2 X.K X.mg ti f) (he : SE W X e ma) (hi : X.N[i]? = some x := by rfl)
    (hx : Loc X.env.scope x := by first | exact Or.inl rfl | exact Or.inr rfl) (hq : X.fn x = true ∨ X.env.scope.names.lookup x = some .local := by first | exact .inl rfl | exact .inr rfl | assumption) : SS W X (.AugAssign (.Name x pos') op e pos) (sAug i f ma) := by
  refine (ps_aug ok.nd hi hx he ho hq).weak fun Z σ H ⟨μ, ρ, mh, re, rl, p⟩ => ?_
  unfold sAug at p
  cases hr : ρ[i]? with
  | none => rw [hr] at p; exact p.elim
  | some o => cases o with
    | none => rw [hr] at p; exact p.elim
    | some d =>
      rw [hr] at p
      obtain ⟨v, hv, rv⟩ := re.at_ i d hr
      refine ⟨v, hv, μ, ρ, mh, re, rl, (PostR.toS (rel := relV X.K) (fun mh' μ' H' e _ => re.ext rl e) p).mono fun u H1 ⟨μ1, y, mh1, e1, rl1, r, p1⟩ => ?_⟩
      refine hf (fun cls d H => W cls d σ H) μ1 H1 mh1 d y v u _ rl1 (RV.ext rl e1 rv) r ((PostR.toS (rel := relV X.K) (fun mh' μ' H' e _ => (re.ext rl e1).ext rl1 e) p1).mono fun z H2 ⟨μ2, z', mh2, e2, rl2, rz, p2⟩ => ?_)
      exact p2 μ2 _ H2 (.refl _ _) rl2 (((re.ext rl e1).ext rl1 e2).set i rz)

/-! ### loops -/
theorem PostS.turn {K : PySem.W.Frag} {mg : Str → Option Value} {μ : List Addr} {H : Hp} {r : SR} {k : En → MH → SR} {Z : Ends} (h : PostS K mg W μ H (r.turn k) Z) :
    PostS K mg W μ H r { Z with nx := fun σ1 H1 => ∃ μ1 ρ1 mh1, Ext μ H μ1 H1 ∧ RE K μ1 H1 ρ1 σ1 ∧ Rl K mg μ1 H1 mh1 ∧ PostS K mg W μ1 H1 (k ρ1 mh1) Z, ct := fun σ1 H1 => ∃ μ1 ρ1 mh1, Ext μ H μ1 H1 ∧ RE K μ1 H1 ρ1 σ1 ∧ Rl K mg μ1 H1 mh1 ∧ PostS K mg W μ1 H1 (k ρ1 mh1) Z, bk := Z.nx } := by
  cases r with
  | nx ρ mh => exact fun μ1 σ1 H1 e r q => ⟨μ1, ρ, mh, e, q, r, PostS.later h e⟩
  | ct ρ mh => exact fun μ1 σ1 H1 e r q => ⟨μ1, ρ, mh, e, q, r, PostS.later h e⟩
  | bk ρ mh => exact h
  | rt a mh => exact h
  | exc c fs ρ mh => exact h
  | stuck => exact h
theorem ss_while (ok : Ok W n X) (ht : ST W X c mt) (hb : SSs W X sts ms) : SS W X (.While c sts [] pos) (sWhile mt ms) := by
  refine (ps_while ok.own ht hb).weak fun Z σ H ⟨μ, ρ, mh, re, rl, p⟩ => ?_
  have ne : sWhile mt ms ρ mh ≠ .stuck := fun e => by rw [e] at p; exact p
  obtain ⟨k, hk⟩ := sWhile_some ne
  rw [← hk] at p
  refine ⟨fun m σ H => ∃ μ ρ mh, RE X.K μ H ρ σ ∧ Rl X.K X.mg μ H mh ∧ PostS X.K X.mg W μ H (iterW mt ms m ρ mh) Z, ⟨k, μ, ρ, mh, re, rl, p⟩, fun m σ H ⟨μ, ρ, mh, re, rl, p⟩ => ?_⟩
  cases m with
  | zero => exact p.elim
  | succ m =>
    unfold iterW at p
    refine ⟨μ, ρ, mh, re, rl, (PostR.toS (rel := relB) (fun mh' μ' H' e _ => re.ext rl e) p).mono fun k H1 ⟨μ1, k', mh1, e1, rl1, r, p1⟩ => ?_⟩
    cases r
    cases k with
    | false => exact p1 μ1 σ H1 (.refl _ _) rl1 (re.ext rl e1)
    | true =>
      refine ⟨fun σ H => ∃ μ ρ mh, RE X.K μ H ρ σ ∧ Rl X.K X.mg μ H mh ∧ PostS X.K X.mg W μ H (iterW mt ms m ρ mh) Z, fun σ' H' q => ⟨m, Nat.lt_succ_self m, q⟩, μ1, ρ, mh1, re.ext rl e1, rl1, ?_⟩
      have q := PostS.turn p1
      cases hm : ms ρ mh1 with
      | nx ρ1 mh2 => rw [hm] at q; exact fun μ2 σ2 H2 e2 rl2 re2 => let ⟨μ3, ρ3, mh3, _, a, b, c⟩ := q μ2 σ2 H2 e2 rl2 re2; ⟨μ3, ρ3, mh3, a, b, c⟩
      | ct ρ1 mh2 => rw [hm] at q; exact fun μ2 σ2 H2 e2 rl2 re2 => let ⟨μ3, ρ3, mh3, _, a, b, c⟩ := q μ2 σ2 H2 e2 rl2 re2; ⟨μ3, ρ3, mh3, a, b, c⟩
      | bk ρ1 mh2 => rw [hm] at q; exact q
      | rt d mh2 => rw [hm] at q; exact q
      | exc c fs ρ1 mh2 => rw [hm] at q; exact q
      | stuck => rw [hm] at q; exact q
/-- J walks what I says -/
def JR (K : PySem.W.Frag) (mg : Str → Option Value) (μ1 : List Addr) (H1 : Hp) (I : Mir.Itb) (J : It) : Prop := ∀ μ H mh, Ext μ1 H1 μ H → Rl K mg μ H mh → I.same mh = true →
  (∀ (i : Nat) (x : D), I.items[i]? = some x → J.go i H ∧ ∀ v H', J.yld i H v H' → Ext μ H μ H' ∧ Rl K mg μ H' mh ∧ RV K μ H' x v) ∧ (∀ i : Nat, I.items.length ≤ i → J.stop i H)
def rdI (K : PySem.W.Frag) (mg : Str → Option Value) (W : WX) (m : MI) : TI := fun σ H R => ∃ μ ρ mh, RE K μ H ρ σ ∧ Rl K mg μ H mh ∧ PostR K mg (JR K mg) (fun cls d H => W cls d σ H) μ H (m ρ mh) R
abbrev SI (W : WX) (X : Cx) (tg e : Expr) (m : MI) : Prop := PI X tg e (rdI X.K X.mg W m)
theorem drop_get {α : Type} {l : List α} {i : Nat} {x : α} {xs : List α} (h : l.drop i = x :: xs) : l[i]? = some x ∧ l.drop (i + 1) = xs ∧ i < l.length := by
  have hi : i < l.length := by
    rcases Nat.lt_or_ge i l.length with q | q
    · exact q
    · rw [List.drop_eq_nil_of_le q] at h; cases h
  rw [List.drop_eq_getElem_cons hi] at h
  injection h with h1 h2
  exact ⟨by rw [List.getElem?_eq_getElem hi, h1], h2, hi⟩
theorem ss_for {tg it : Expr} {mi : MI} {g : TG} {b : MB} {is : List Nat} (ok : Ok W n X) (hi : SI W X tg it mi) (hg : PG X tg g) (gb : GB X.K g b is) (hb : SSs W X sts ms)
    (hs : ∀ x, foldedSetIterable it X.env x = pure x := by intro _; rfl) : SS W X (.For tg it sts [] pos) (sFor mi b ms) := by
  refine (ps_for ok.own ok.calm hi hg hb hs).weak fun Z σ H ⟨μ, ρ, mh, re, rl, p⟩ => ⟨μ, ρ, mh, re, rl, (PostR.toS (rel := JR X.K X.mg) (fun mh' μ' H' e _ => re.ext rl e) p).mono fun J H1 ⟨μ1, I, mh1, e1, rl1, jr, p1⟩ => ?_⟩
  refine ⟨fun i m σ H => m = I.items.length - i ∧ ∃ μ ρ mh, Ext μ1 H1 μ H ∧ RE X.K μ H ρ σ ∧ Rl X.K X.mg μ H mh ∧ PostS X.K X.mg W μ H (forGo I b ms (I.items.drop i) ρ mh) Z, ⟨_, rfl, μ1, ρ, mh1, .refl _ _, re.ext rl e1, rl1, p1⟩, fun i m σ H ⟨hm, μ, ρ, mh, ex, re, rl, p⟩ => ?_⟩
  cases hd : I.items.drop i with
  | nil =>
    rw [hd] at p
    unfold forGo at p
    split at p
    case isFalse => exact p.elim
    rename_i hsame
    have hl : I.items.length ≤ i := by
      have := congrArg List.length hd
      rw [List.length_drop] at this
      simp at this
      omega
    exact .inl ⟨(jr μ H mh ex rl hsame).2 i hl, p μ σ H (.refl _ _) rl re⟩
  | cons x xs =>
    rw [hd] at p
    obtain ⟨hx, hdrop, hil⟩ := drop_get hd
    unfold forGo at p
    split at p
    case isFalse => exact p.elim
    rename_i hsame
    obtain ⟨go, yld⟩ := (jr μ H mh ex rl hsame).1 i x hx
    cases hbx : b x ρ with
    | none => rw [hbx] at p; exact p.elim
    | some ρ1 =>
      rw [hbx] at p
      refine .inr ⟨go, fun σ' H' => ∃ μ' ρ' mh', Ext μ1 H1 μ' H' ∧ RE X.K μ' H' ρ' σ' ∧ Rl X.K X.mg μ' H' mh' ∧ PostS X.K X.mg W μ' H' (forGo I b ms xs ρ' mh') Z, fun σ' H' q => ⟨I.items.length - (i + 1), by omega, rfl, by rw [hdrop]; exact q⟩, fun v H' y => ?_⟩
      obtain ⟨e2, rl2, rv⟩ := yld v H' y
      refine gb μ H' x v ρ ρ1 σ _ rv (re.ext rl e2) hbx fun σ2 re2 _ => ⟨μ, ρ1, mh, re2, rl2, ?_⟩
      have q := PostS.turn (PostS.later p e2)
      have ex2 := ex.trans e2
      cases hm : ms ρ1 mh with
      | nx ρ2 mh2 => rw [hm] at q; exact fun μ3 σ3 H3 e3 rl3 re3 => let ⟨μ4, ρ4, mh4, e4, a, b, c⟩ := q μ3 σ3 H3 e3 rl3 re3; ⟨μ4, ρ4, mh4, ex2.trans e4, a, b, c⟩
      | ct ρ2 mh2 => rw [hm] at q; exact fun μ3 σ3 H3 e3 rl3 re3 => let ⟨μ4, ρ4, mh4, e4, a, b, c⟩ := q μ3 σ3 H3 e3 rl3 re3; ⟨μ4, ρ4, mh4, ex2.trans e4, a, b, c⟩
      | bk ρ2 mh2 => rw [hm] at q; exact q
      | rt d mh2 => rw [hm] at q; exact q
      | exc c fs ρ2 mh2 => rw [hm] at q; exact q
      | stuck => rw [hm] at q; exact q
end
end Mir
set_option Elab.async false
set_option linter.all false
set_option maxRecDepth 100000
set_option autoImplicit false
/-! Mirror: comprehensions, fields, dicts. -/
namespace Mir
open PySem PySem.Spec PyProof.Rows L2

section
variable {W : WX} {X : Cx} {n : Nat} {e o a b c : Expr} {es : List Expr} {pos pos' tpos : Pos} {ma mb mc mo : ME} {mt : MT} {mp : MP}

/-! ### comprehensions -/
abbrev W0 : WX := fun _ _ _ _ => False
theorem Ok.blk (ok : Ok W n X) (s : Shared) (H : Hp) (scope : Scope) (cenv : Env) (fp : List Addr) : Ok W0 n (X.blk s H scope cenv fp) := ⟨ok.calm, .never, passAt takes0, takes0, ok.nd, ok.room, ok.guards⟩
abbrev STs (W : WX) (X : Cx) (ifs : List Expr) (m : MT) : Prop := PTs X ifs (rdT X.K X.mg W m)
theorem sts_nil : STs W X [] Mir.tYes := ⟨fun pins s σ H Q I ⟨μ, ρ, mh, re, rl, p⟩ => pts_nil.run pins s σ H Q I (p μ true H (.refl _ _) rl rfl)⟩
theorem sts_one (h : ST W X c mt) : STs W X [c] mt := pts_one h
theorem compGo_len (I : Mir.Itb) (b : MB) (t : MT) (e : ME) (ρ : En) : ∀ (xs acc : List D) (h : MH) (r : List D) (h' : MH), compGo I b t e ρ xs acc h = .ok r h' → acc.length ≤ r.length
  | [], acc, h, r, h', q => by
    unfold compGo at q
    split at q
    · cases q; exact Nat.le_refl _
    · cases q
  | x :: xs, acc, h, r, h', q => by
    unfold compGo at q
    split at q
    case isFalse => cases q
    split at q
    case h_2 => cases q
    split at q
    case h_2 => cases q
    split at q
    · split at q
      case h_2 => cases q
      have := compGo_len I b t e ρ xs _ _ r h' q
      rw [List.length_append] at this
      omega
    · exact compGo_len I b t e ρ xs _ _ r h' q
/-- the reading of a comprehension -/
theorem rdL {mi : MI} {bb : MB} {is vs : List Nat} {g : TG} (gb : GB X.K g bb is) (hv : ∀ i ∈ is, i ∈ vs) (σ : L2.St) (H : Hp) (Q : VK) (h : rdE X.K X.mg W (eComp mi bb mt ma vs) σ H Q) :
    tLc (rdI X.K X.mg W mi) g (rdT X.K X.mg W0 mt) (rdE X.K X.mg W0 ma) vs σ H Q := by
  obtain ⟨μ, ρ, mh, re, rl, p⟩ := h
  refine ⟨μ, ρ, mh, re, rl, (PostR.bind (rel := JR X.K X.mg) p).mono fun J H1 ⟨μ1, I, mh1, e1, rl1, jr, p1⟩ => fun L hL => ?_⟩
  have rew : RE X.K μ1 H1 (wipeM ρ vs) (wipe σ vs) := (re.ext rl e1).wipe vs
  have nL : L ∉ μ1 := rl1.fresh hL
  -- what is owed at the end, from the state ahead of the new list
  refine ⟨fun i m H => m = I.items.length - i ∧ ∃ μ mh acc ws, Ext μ1 H1 μ H ∧ RE X.K μ H (wipeM ρ vs) (wipe σ vs) ∧ Rl X.K X.mg μ H mh ∧ H L = some (.lst ws) ∧ L ∉ μ ∧ RVs X.K μ H acc ws ∧
    PostR X.K X.mg (relV X.K) (fun cls d H => W cls d σ H) μ1 H1 ((compGo I bb mt ma (wipeM ρ vs) (I.items.drop i) acc mh).bind fun ds h2 => if ds.length ≤ 100000 then .ok (.loc h2.length) (h2 ++ [.lst ds]) else .stuck) Q,
    ⟨_, rfl, μ1, mh1, [], [], Ext.upd hL, ⟨rew.len, fun i d q => let ⟨v, x, y⟩ := rew.at_ i d q; ⟨v, x, RV.off (u := HO.lst []) (.inl hL) y⟩⟩, rl1.upd_new hL, upd_same, nL, .nil, p1⟩, ?_⟩
  rintro i m H2 ⟨hm, μ2, mh2, acc, ws, ex, re2, rl2, hH2, nL2, racc, p2⟩
  have off : ∀ {H' : Hp} {w : List V} {ob : HO}, H' L = some (.lst w) → (H' L = none ∨ (H' L = some (.lst w) ∧ (∀ z, HO.lst w ≠ .tup z) ∧ ∀ y z, HO.lst w ≠ .frz y z)) := fun h => .inr ⟨h, fun _ => nofun, fun _ _ => nofun⟩
  cases hd : I.items.drop i with
  | nil =>
    rw [hd] at p2
    unfold compGo at p2
    split at p2
    case isFalse => exact p2.elim
    rename_i hsame
    simp only [bind_ok] at p2
    split at p2
    case isFalse => exact p2.elim
    have hl : I.items.length ≤ i := by
      have := congrArg List.length hd
      rw [List.length_drop] at this
      simp at this
      omega
    refine .inl ⟨(jr μ2 H2 mh2 ex rl2 hsame).2 i hl, ?_⟩
    have rv3 : RVs X.K (μ2 ++ [L]) H2 acc ws := racc.mono (fun _ _ z => z) (fun _ _ z => z) fun k a z => by rw [List.getElem?_append_left (List.getElem?_eq_some_iff.mp z).1]; exact z
    refine p2 (μ2 ++ [L]) (.ref L) H2 ⟨ex.pre.trans (List.prefix_append _ _), ex.keep, fun a hm' hn => ?_⟩ (rl2.take nL2 ⟨ws, hH2, rv3⟩) (.loc ?_)
    · rcases List.mem_append.mp hm' with q | q
      · exact ex.new a q hn
      · rw [List.mem_singleton.mp q]; exact hL
    · rw [← rl2.len, List.getElem?_append_right (Nat.le_refl _), Nat.sub_self]
      rfl
  | cons x xs =>
    obtain ⟨hx, hdrop, hil⟩ := drop_get hd
    rw [hd] at p2
    unfold compGo at p2
    split at p2
    case isFalse => exact p2.elim
    rename_i hsame
    obtain ⟨go, yld⟩ := (jr μ2 H2 mh2 ex rl2 hsame).1 i x hx
    cases hbx : bb x (wipeM ρ vs) with
    | none => rw [hbx] at p2; exact p2.elim
    | some ρ1 =>
      rw [hbx] at p2
      simp only at p2
      refine .inr ⟨go, fun H' => ∃ μ' mh' acc' ws', Ext μ1 H1 μ' H' ∧ RE X.K μ' H' (wipeM ρ vs) (wipe σ vs) ∧ Rl X.K X.mg μ' H' mh' ∧ H' L = some (.lst ws') ∧ L ∉ μ' ∧ RVs X.K μ' H' acc' ws' ∧
        PostR X.K X.mg (relV X.K) (fun cls d H => W cls d σ H) μ1 H1 ((compGo I bb mt ma (wipeM ρ vs) xs acc' mh').bind fun ds h2 => if ds.length ≤ 100000 then .ok (.loc h2.length) (h2 ++ [.lst ds]) else .stuck) Q, fun H' q => ⟨I.items.length - (i + 1), by omega, rfl, by rw [hdrop]; exact q⟩, fun v H' y => ?_⟩
      obtain ⟨e3, rl3, rv⟩ := yld v H' y
      refine gb μ2 H' x v _ ρ1 _ _ rv (re2.ext rl2 e3) hbx fun σ3 re3 w3 => ⟨(w3 vs hv).trans ?_, ?_⟩
      · have ww : ∀ (us : List Nat) (τ : L2.St), (∀ j ∈ us, τ[j]? = some none ∨ τ[j]? = none) → wipe τ us = τ := by
          intro us
          induction us with
          | nil => intro τ _; rfl
          | cons u us ih =>
            intro τ h
            unfold wipe
            rw [ih τ fun j hj => h j (List.mem_cons_of_mem _ hj)]
            rcases h u List.mem_cons_self with q | q
            · obtain ⟨l, e⟩ := List.getElem?_eq_some_iff.mp q
              apply List.ext_getElem?
              intro k
              rw [List.getElem?_set]
              split
              · rename_i z
                subst z
                exact q.symm
              · rfl
            · exact List.set_eq_of_length_le (List.getElem?_eq_none_iff.mp q)
        have wn : ∀ (us : List Nat) (τ : L2.St) (j : Nat), j ∈ us → (wipe τ us)[j]? = some none ∨ (wipe τ us)[j]? = none := by
          intro us
          induction us with
          | nil => intro τ j h; simp at h
          | cons u us ih =>
            intro τ j h
            unfold wipe
            rw [List.getElem?_set]
            split
            · split
              · exact .inl rfl
              · exact .inr rfl
            · rename_i ne
              rcases List.mem_cons.mp h with e | h
              · exact absurd e.symm ne
              · exact ih τ j h
        exact ww vs _ fun j hj => wn vs σ j hj
      · have ex3 := ex.trans e3
        have hH3 : H' L = some (.lst ws) := e3.keep _ _ hH2 nL2
        cases ht : mt ρ1 mh2 with
        | exc c fs h => rw [ht] at p2; exact p2.elim
        | stuck => rw [ht] at p2; exact p2.elim
        | ok k mh4 =>
          rw [ht] at p2
          simp only at p2
          refine ⟨μ2, ρ1, mh2, re3, rl3, ?_⟩
          rw [ht]
          intro μ4 k' H4 e4 rl4 rk
          cases rk
          have hH4 : H4 L = some (.lst ws) := e4.keep _ _ hH3 nL2
          have nL4 : L ∉ μ4 := fun hm' => by
            have := e4.new L hm' nL2
            rw [hH3] at this
            cases this
          have re4 := (re2.ext rl2 e3).ext rl3 e4
          have racc4 := RVs.ext rl3 e4 (RVs.ext rl2 e3 racc)
          cases k with
          | false =>
            simp only [Bool.false_eq_true, if_false] at p2 ⊢
            exact ⟨μ4, mh4, acc, ws, ex3.trans e4, re4, rl4, hH4, nL4, racc4, p2⟩
          | true =>
            simp only [if_true] at p2 ⊢
            cases hm4 : ma ρ1 mh4 with
            | exc c fs h => rw [hm4] at p2; exact p2.elim
            | stuck => rw [hm4] at p2; exact p2.elim
            | ok y mh5 =>
              rw [hm4] at p2
              simp only at p2
              refine ⟨μ4, ρ1, mh4, re3.ext rl3 e4, rl4, ?_⟩
              rw [hm4]
              intro μ5 yv H5 e5 rl5 ry
              have hH5 : H5 L = some (.lst ws) := e5.keep _ _ hH4 nL4
              have nL5 : L ∉ μ5 := fun hm' => by
                have := e5.new L hm' nL4
                rw [hH4] at this
                cases this
              have racc5 := RVs.ext rl4 e5 racc4
              have sz : acc.length + 1 ≤ 100000 := by
                cases hq : compGo I bb mt ma (wipeM ρ vs) xs (acc ++ [y]) mh5 with
                | exc c fs h => 
                  exfalso
                  have nex : ∀ (xs acc : List D) (h : MH) c fs h', compGo I bb mt ma (wipeM ρ vs) xs acc h ≠ .exc c fs h' := by
                    intro xs
                    induction xs with
                    | nil => intro acc h c fs h' z; unfold compGo at z; split at z <;> cases z
                    | cons x xs ih =>
                      intro acc h c fs h' z
                      unfold compGo at z
                      split at z
                      case isFalse => cases z
                      split at z
                      case h_2 => cases z
                      split at z
                      case h_2 => cases z
                      split at z
                      · split at z
                        case h_2 => cases z
                        exact ih _ _ _ _ _ z
                      · exact ih _ _ _ _ _ z
                  exact nex _ _ _ _ _ _ hq
                | stuck => rw [hq] at p2; exact p2.elim
                | ok ds h2 =>
                  have l := compGo_len _ _ _ _ _ _ _ _ _ _ hq
                  rw [hq] at p2
                  simp only [bind_ok] at p2
                  split at p2
                  · rw [List.length_append] at l
                    simp at l
                    omega
                  · exact p2.elim
              refine ⟨ws, hH5, lt_line (by rw [← racc5.length]; omega), μ5, mh5, acc ++ [y], ws ++ [yv], ?_, ?_, rl5.off (u := .lst ws) (off (ob := .lst []) hH5) nL5, upd_same, nL5, ?_, p2⟩
              · have q := (ex3.trans e4).trans e5
                exact ⟨q.pre, fun a u h hn => by
                  have na : a ≠ L := ne_of_none h hL
                  rw [upd_ne na]
                  exact q.keep a u h hn, q.new⟩
              · have r5 := re4.ext rl4 e5
                exact ⟨r5.len, fun i d q => let ⟨v, x, y⟩ := r5.at_ i d q; ⟨v, x, RV.off (u := HO.lst ws) (off (ob := .lst []) hH5) y⟩⟩
              · exact (RVs.append racc5 (.cons ry .nil)).off (u := .lst ws) (off (ob := .lst []) hH5)
section
variable {elt tg iter : Expr} {ifs : List Expr} {scope : Scope} {own : List (Str × Nat)} {mi : MI} {g : TG} {bb : MB} {is : List Nat}
theorem se_comp (ok : Ok W n X) (hi : SI W X tg iter mi) (bk : BlkOk X.N X.env.scope scope own) (gb : GB X.K g bb is) (hv : ∀ i ∈ is, i ∈ own.map (·.2))
    (hg : ∀ (s : Shared) (H : Hp) (C : Addr) (cl : List (Str × Addr)) (fp : List Addr), PG (X.blk s H scope (compEnvC scope cl C X.env) fp) tg g)
    (ht : ∀ (s : Shared) (H : Hp) (C : Addr) (cl : List (Str × Addr)) (fp : List Addr), Ok W0 n (X.blk s H scope (compEnvC scope cl C X.env) fp) → STs W0 (X.blk s H scope (compEnvC scope cl C X.env) fp) ifs mt)
    (he : ∀ (s : Shared) (H : Hp) (C : Addr) (cl : List (Str × Addr)) (fp : List Addr), Ok W0 n (X.blk s H scope (compEnvC scope cl C X.env) fp) → SE W0 (X.blk s H scope (compEnvC scope cl C X.env) fp) elt ma)
    (hs : ∀ x, foldedSetIterable iter X.env x = pure x := by intro _; rfl) : SE W X (.ListComp elt [⟨tg, iter, ifs, 0⟩] scope pos) (eComp mi bb mt ma (own.map (·.2))) :=
  (pe_lc (tt := rdT X.K X.mg W0 mt) (te := rdE X.K X.mg W0 ma) ok.calm ok.nd hi bk hg (fun s H C cl fp => ht s H C cl fp (ok.blk ..)) (fun s H C cl fp => he s H C cl fp (ok.blk ..)) hs).weak fun σ H Q h => rdL gb hv σ H Q h
theorem ss_setc (i : Nat) {y : Str} {py spos : Pos} (ok : Ok W n X) (hi : SI W X tg iter mi) (bk : BlkOk X.N X.env.scope scope own) (gb : GB X.K g bb is) (hv : ∀ i ∈ is, i ∈ own.map (·.2))
    (hg : ∀ (s : Shared) (H : Hp) (C : Addr) (cl : List (Str × Addr)) (fp : List Addr), PG (X.blk s H scope (compEnvC scope cl C X.env) fp) tg g)
    (ht : ∀ (s : Shared) (H : Hp) (C : Addr) (cl : List (Str × Addr)) (fp : List Addr), Ok W0 n (X.blk s H scope (compEnvC scope cl C X.env) fp) → STs W0 (X.blk s H scope (compEnvC scope cl C X.env) fp) ifs mt)
    (he : ∀ (s : Shared) (H : Hp) (C : Addr) (cl : List (Str × Addr)) (fp : List Addr), Ok W0 n (X.blk s H scope (compEnvC scope cl C X.env) fp) → SE W0 (X.blk s H scope (compEnvC scope cl C X.env) fp) elt ma)
    (hsw : swapsWith (.ListComp elt [⟨tg, iter, ifs, 0⟩] scope pos) (some (.Name y py)) spos.line X.env = pure true) (hy : X.N[i]? = some y := by rfl) (hyl : X.env.scope.names.lookup y = some .local := by rfl)
    (hs : ∀ x, foldedSetIterable iter X.env x = pure x := by intro _; rfl) : SS W X (.Assign [.Name y py] (.ListComp elt [⟨tg, iter, ifs, 0⟩] scope pos) spos) (sSet i (eComp mi bb mt ma (own.map (·.2)))) := by
  refine (ps_setLc (tt := rdT X.K X.mg W0 mt) (te := rdE X.K X.mg W0 ma) ok.calm ok.nd hy hyl hsw hi bk hg (fun s H C cl fp => ht s H C cl fp (ok.blk ..)) (fun s H C cl fp => he s H C cl fp (ok.blk ..)) hs).weak fun Z σ H h => ?_
  exact rdL gb hv σ H _ (rdS_of (fun ρ d h1 => .nx (ρ.set i (some d)) h1) h fun μ ρ v H1 d mh1 re rl r p => p μ _ H1 (.refl _ _) rl (re.set i r))
end

/-! ### fields -/
/-- what the mirror may ask of a class's field -/
structure GFld (K : PySem.W.Frag) (mg : Str → Option Value) (c f : String) : Prop where
  ex : ∃ C, mg (nm c) = some (.ref C) ∧ Cls K C ∧ NoAttr K C (nm f)
theorem ins_at {K : PySem.W.Frag} {mg : Str → Option Value} {μ : List Addr} {H : Hp} {mh : MH} (rl : Rl K mg μ H mh) {nn : Nat} {v : V} (r : RV K μ H (.loc nn) v) {c : String} {fs : List (String × D)} (h : mh[nn]? = some (.ins c fs)) {C : Addr} (hC : mg (nm c) = some (.ref C)) :
    ∃ a dx gs, v = .ref a ∧ μ[nn]? = some a ∧ H a = some (.ins C dx gs) ∧ RF K μ H fs gs := by
  cases r with
  | loc hn =>
    obtain ⟨C', dx, gs, h1, h2, h3⟩ := rl.obj _ _ _ hn h
    rw [hC] at h1
    cases h1
    exact ⟨_, dx, gs, rfl, hn, h2, h3⟩
theorem se_fld {c f : String} (g : GFld X.K X.mg c f) (ho : SE W X o mo) (hb : attributeBase o (nm f) X.env (eval o X.env) = eval o X.env := by rfl) : SE W X (.Attribute o (nm f) pos) (eUn (mFld c f) mo) := by
  obtain ⟨C, hC, cl, na⟩ := g.ex
  refine (pe_fld ho hb).weak fun σ H Q h => rd1 (r := fun x H1 Q => ∃ a C dx fs v, x = .ref a ∧ H1 a = some (.ins C dx fs) ∧ Cls X.K C ∧ NoAttr X.K C (nm f) ∧ fs.lookup (nm f) = some v ∧ Q v H1) (fun W μ H mh x v Q rl r p => ?_) σ H Q h
  unfold mFld at p
  cases x with
  | loc nn =>
    simp only at p
    split at p
    case h_2 => exact p.elim
    rename_i c' fs ho
    split at p
    case isFalse => exact p.elim
    rename_i hc
    subst hc
    obtain ⟨a, dx, gs, rfl, hn, hH, rf⟩ := ins_at rl r ho hC
    cases hl : fs.lookup f with
    | none => rw [hl] at p; exact p.elim
    | some d =>
      rw [hl] at p
      obtain ⟨w, hw, rw'⟩ := (RF.lookup f rf).1 d hl
      exact ⟨a, C, dx, gs, w, rfl, hH, cl, na, hw, p μ w H (.refl _ _) rl rw'⟩
  | non => exact p.elim
  | bl b => exact p.elim
  | int i => exact p.elim
  | str s => exact p.elim
  | tup h => exact p.elim
  | rl h => exact p.elim
theorem RF.length {K : PySem.W.Frag} {μ : List Addr} {H : Hp} : ∀ {fs : List (String × D)} {gs : List (Str × V)}, RF K μ H fs gs → fs.length = gs.length
  | [], [], _ => rfl
  | (_, _) :: _, (_, _) :: _, h => by rw [List.length_cons, List.length_cons, RF.length h.2.2]
  | [], _ :: _, h => h.elim
  | _ :: _, [], h => h.elim
theorem RF.put {K : PySem.W.Frag} {μ : List Addr} {H : Hp} {d : D} {v : V} (r : RV K μ H d v) (f : String) : ∀ {fs : List (String × D)} {gs : List (Str × V)}, RF K μ H fs gs → RF K μ H (Mir.putF fs f d) (L2.putF (nm f) v gs)
  | [], [], _ => ⟨rfl, r, trivial⟩
  | (g, _) :: fs, (g', _) :: gs, h => by
    obtain ⟨rfl, h2, h3⟩ := h
    unfold Mir.putF L2.putF
    by_cases e : g = f
    · subst e
      rw [if_pos rfl, if_pos rfl]
      exact ⟨rfl, r, h3⟩
    · rw [if_neg e, if_neg fun z => e (nm_inj z)]
      exact ⟨rfl, h2, RF.put r f h3⟩
  | [], _ :: _, h => h.elim
  | _ :: _, [], h => h.elim
/-- an instance written -/
theorem put_ins {K : PySem.W.Frag} {mg : Str → Option Value} {μ : List Addr} {H : Hp} {mh : MH} (rl : Rl K mg μ H mh) {nn : Nat} {a C dx : Addr} (hn : μ[nn]? = some a) {c : String} {fs : List (String × D)} {gs old : List (Str × V)} (hC : mg (nm c) = some (.ref C))
    (hH : H a = some (.ins C dx old)) (rf : RF K μ H fs gs) : Rl K mg μ (upd H a (.ins C dx gs)) (mh.set nn (.ins c fs)) ∧ Ext μ H μ (upd H a (.ins C dx gs)) := by
  have off : H a = none ∨ (H a = some (.ins C dx old) ∧ (∀ z, HO.ins C dx old ≠ .tup z) ∧ ∀ y z, HO.ins C dx old ≠ .frz y z) := .inr ⟨hH, fun _ => nofun, fun _ _ => nofun⟩
  exact rl.put hn ⟨C, dx, gs, hC, upd_same, rf.mono (fun _ _ => SqT.off off) (fun _ _ => RoL.off off) fun _ _ z => z⟩
theorem ss_fld {c f : String} (g : GFld X.K X.mg c f) (ho : SE W X o mo) (he : SE W X e ma) (hs : swapsWith e (some (.Attribute o (nm f) pos')) pos.line X.env = pure false := by rfl) : SS W X (.Assign [.Attribute o (nm f) pos'] e pos) (Mir.sFld c f mo ma) := by
  obtain ⟨C, hC, cl, na⟩ := g.ex
  refine (ps_fld ho he hs).weak fun Z σ H ⟨μ, ρ, mh, re, rl, p⟩ => ⟨μ, ρ, mh, re, rl, (PostR.toS (rel := relV X.K) (fun mh' μ' H' e _ => re.ext rl e) p).mono fun v H1 ⟨μ1, d, mh1, e1, rl1, r, p1⟩ => ?_⟩
  refine ⟨μ1, ρ, mh1, re.ext rl e1, rl1, (PostR.toS (rel := relV X.K) (fun mh' μ' H' e _ => (re.ext rl e1).ext rl1 e) p1).mono fun u H2 ⟨μ2, x, mh2, e2, rl2, rx, p2⟩ => ?_⟩
  cases x with
  | loc nn =>
    simp only at p2
    split at p2
    case h_2 => exact p2.elim
    rename_i c' fs ho
    split at p2
    case isFalse => exact p2.elim
    rename_i hc
    obtain ⟨rfl, hl⟩ := hc
    obtain ⟨aa, dx, gs, rfl, hn, hH, rf⟩ := ins_at rl2 rx ho hC
    obtain ⟨rl3, e3⟩ := put_ins rl2 hn hC hH (rf.put (RV.ext rl1 e2 r) f)
    exact ⟨aa, C, dx, gs, rfl, hH, cl, na, by rw [← rf.length]; omega, p2 μ2 σ _ e3 rl3 (((re.ext rl e1).ext rl1 e2).ext rl2 e3)⟩
  | non => exact p2.elim
  | bl b => exact p2.elim
  | int i => exact p2.elim
  | str s => exact p2.elim
  | tup h => exact p2.elim
  | rl h => exact p2.elim
theorem ss_fldaug {c f : String} {op : Operator} {rd : V → V → Hp → VK → Prop} {mf : D → D → MH → R D} (g : GFld X.K X.mg c f) (hop : InOp X op rd) (hf : Op2 X.K X.mg rd mf) (ho : SE W X o mo) (he : SE W X e ma) : SS W X (.AugAssign (.Attribute o (nm f) tpos) op e pos) (Mir.sFldAug c f mf mo ma) := by
  obtain ⟨C, hC, cl, na⟩ := g.ex
  refine (ps_fldaug ho he hop).weak fun Z σ H ⟨μ, ρ, mh, re, rl, p⟩ => ⟨μ, ρ, mh, re, rl, (PostR.toS (rel := relV X.K) (fun mh' μ' H' e _ => re.ext rl e) p).mono fun u H1 ⟨μ1, x, mh1, e1, rl1, rx, p1⟩ => ?_⟩
  cases x with
  | loc nn =>
    simp only at p1
    split at p1
    case h_2 => exact p1.elim
    rename_i c' fs hob
    split at p1
    case isFalse => exact p1.elim
    rename_i hc
    subst hc
    obtain ⟨aa, dx, gs, rfl, hn, hH, rf⟩ := ins_at rl1 rx hob hC
    cases hl : fs.lookup f with
    | none => rw [hl] at p1; exact p1.elim
    | some d =>
      rw [hl] at p1
      obtain ⟨v, hv, rv⟩ := (RF.lookup f rf).1 d hl
      have re1 := re.ext rl e1
      refine ⟨aa, C, dx, gs, v, rfl, hH, cl, na, hv, μ1, ρ, mh1, re1, rl1, (PostR.toS (rel := relV X.K) (fun mh' μ' H' e _ => re1.ext rl1 e) p1).mono fun w H2 ⟨μ2, y, mh2, e2, rl2, ry, p2⟩ => ?_⟩
      have re2 := re1.ext rl1 e2
      refine hf (fun cls d H => W cls d σ H) μ2 H2 mh2 d y v w _ rl2 (RV.ext rl1 e2 rv) ry ((PostR.toS (rel := relV X.K) (fun mh' μ' H' e _ => re2.ext rl2 e) p2).mono fun z H3 ⟨μ3, dz, mh3, e3, rl3, rz, p3⟩ => ?_)
      split at p3
      case h_2 => exact p3.elim
      rename_i c2 fs2 hob2
      split at p3
      case isFalse => exact p3.elim
      rename_i hc2
      obtain ⟨rfl, hl2⟩ := hc2
      have hn3 : μ3[nn]? = some aa := Ext.get (e := e3) (Ext.get (e := e2) hn)
      obtain ⟨a3, dx3, gs3, q, hn3', hH3, rf3⟩ := ins_at rl3 (.loc hn3) hob2 hC
      cases q
      obtain ⟨rl4, e4⟩ := put_ins rl3 hn3 hC hH3 (rf3.put rz f)
      exact ⟨dx3, gs3, hH3, by rw [← rf3.length]; omega, p3 μ3 σ _ e4 rl4 ((re2.ext rl2 e3).ext rl3 e4)⟩
  | non => exact p1.elim
  | bl b => exact p1.elim
  | int i => exact p1.elim
  | str s => exact p1.elim
  | tup h => exact p1.elim
  | rl h => exact p1.elim
end
end Mir
set_option Elab.async false
set_option linter.all false
set_option maxRecDepth 100000
set_option autoImplicit false
/-! Mirror: operations by values, and that they are what the program's operators do. -/
namespace Mir
open PySem PySem.Spec PyProof.Rows L2

/-! ### numbers -/
def mulOk (i j : Int) : Bool := decide (i.natAbs.log2 + j.natAbs.log2 < 100000000)
def mAdd (x y : D) (h : MH) : R D := match x, y with
  | .int i, .int j => .ok (.int (i + j)) h
  | .str a, .str b => if a.length + b.length ≤ 100000 then .ok (.str (a ++ b)) h else .stuck
  | .tup a, .tup b => if a.length + b.length ≤ 100000 then .ok (.tup (a ++ b)) h else .stuck
  | .loc a, .loc b => match h[a]?, h[b]? with
    | some (.lst xs), some (.lst ys) => if xs.length + ys.length ≤ 100000 then .ok (.loc h.length) (h ++ [.lst (xs ++ ys)]) else .stuck
    | _, _ => .stuck
  | _, _ => .stuck
def mSub (x y : D) (h : MH) : R D := match x, y with
  | .int i, .int j => .ok (.int (i - j)) h
  | _, _ => .stuck
def mMul (x y : D) (h : MH) : R D := match x, y with
  | .int i, .int j => if mulOk i j = true then .ok (.int (i * j)) h else .stuck
  | .str a, .int j => if a.length * j.toNat ≤ 100000 ∧ j < 100000 ∧ -100000 < j then .ok (.str (List.replicate j.toNat a).flatten) h else .stuck
  | _, _ => .stuck
def mDiv (x y : D) (h : MH) : R D := match x, y with
  | .int i, .int j => if 0 < j ∧ j.natAbs.log2 < 9000 then .ok (.int (i / j)) h else .stuck
  | _, _ => .stuck
def mMod (x y : D) (h : MH) : R D := match x, y with
  | .int i, .int j => if 0 < j then .ok (.int (i % j)) h else .stuck
  | _, _ => .stuck
def mPow (x y : D) (h : MH) : R D := match x, y with
  | .int i, .int j => if 0 ≤ j ∧ j ≤ 1000000 ∧ i.natAbs < 2 ^ 64 then .ok (.int (i ^ j.toNat)) h else .stuck
  | _, _ => .stuck
def mNeg (x : D) (h : MH) : R D := match x with
  | .int i => .ok (.int (-i)) h
  | _ => .stuck
def mLt (x y : D) (h : MH) : R D := match x, y with
  | .int i, .int j => .ok (.bl (decide (i < j))) h
  | _, _ => .stuck
def mLe (x y : D) (h : MH) : R D := match x, y with
  | .int i, .int j => .ok (.bl (decide (i ≤ j))) h
  | _, _ => .stuck
def mGt (x y : D) (h : MH) : R D := match x, y with
  | .int i, .int j => .ok (.bl (decide (j < i))) h
  | _, _ => .stuck
def mGe (x y : D) (h : MH) : R D := match x, y with
  | .int i, .int j => .ok (.bl (decide (j ≤ i))) h
  | _, _ => .stuck

/-! ### data for == and repr -/
def toPy : Nat → MH → D → Option PyData
  | _, _, .non => some .none
  | _, _, .bl b => some (.bool b)
  | _, _, .int i => some (.int i)
  | _, _, .str s => some (.str (tx s))
  | 0, _, _ => none
  | n + 1, h, .tup ds => (ds.mapM (toPy n h)).map .tuple
  | n + 1, h, .rl ds => (ds.mapM (toPy n h)).map .list
  | n + 1, h, .loc k => match h[k]? with
    | some (.lst xs) => (xs.mapM (toPy n h)).map .list
    | _ => none
def eqD (x y : D) (h : MH) : Option Bool := match x, y with
  | .int i, .int j => some (decide (i = j))
  | .str a, .str b => some (decide (a = b))
  | .bl a, .bl b => some (decide (a = b))
  | .non, .non => some true
  | .non, .int _ => some false
  | .int _, .non => some false
  | .non, .str _ => some false
  | .str _, .non => some false
  | .int _, .str _ => some false
  | .str _, .int _ => some false
  | x, y => match toPy 66 h x, toPy 66 h y with
    | some p, some q => if SeqAt.shaped p = true ∧ SeqAt.shaped q = true then some (PyData.eqv p q) else none
    | _, _ => none
def mEq (x y : D) (h : MH) : R D := match eqD x y h with
  | some b => .ok (.bl b) h
  | none => .stuck
def mNe (x y : D) (h : MH) : R D := match eqD x y h with
  | some b => .ok (.bl (!b)) h
  | none => .stuck
def mIsN (x : D) (h : MH) : R D := .ok (.bl (decide (x = .non))) h
def mNotN (x : D) (h : MH) : R D := .ok (.bl (!decide (x = .non))) h

/-! ### sequences -/
/-- the codes a stand within b -/
def within (a b : List Nat) : Bool := (List.range (b.length + 1)).any fun i => decide ((b.drop i).take a.length = a)
def flatD : D → Bool
  | .non | .bl _ | .int _ | .str _ => true
  | _ => false
def eqF : D → D → Bool
  | .non, .non => true
  | .bl a, .bl b => a == b
  | .bl a, .int j => (if a then 1 else 0) == j
  | .int i, .bl b => i == (if b then 1 else 0)
  | .int i, .int j => i == j
  | .str x, .str y => x == y
  | _, _ => false
def inP (x : D) (ds : List D) (h : MH) : Option Bool := if flatD x = true ∧ ds.all flatD = true then some (ds.any fun z => eqF z x) else
  match toPy 65 h x, ds.mapM (toPy 65 h) with
  | some p, some ps => if SeqAt.shaped p = true ∧ PyData.canLayAll0 ps = true then some (ps.any fun z => PyData.eqv z p) else none
  | _, _ => none
def inD (x y : D) (h : MH) : Option Bool := match y with
  | .str b => match x with
    | .str a => some (within a b)
    | _ => none
  | .tup ds => inP x ds h
  | .rl ds => inP x ds h
  | .loc n => match h[n]? with
    | some (.lst ds) => inP x ds h
    | some (.dic kvs) => if isKey x = true then some ((kvs.lookup x).isSome) else none
    | _ => none
  | _ => none
def mIn (x y : D) (h : MH) : R D := match inD x y h with
  | some b => .ok (.bl b) h
  | none => .stuck
def mNotIn (x y : D) (h : MH) : R D := match inD x y h with
  | some b => .ok (.bl (!b)) h
  | none => .stuck
def mIx (x y : D) (h : MH) : R D := match x, y with
  | .str s, .int i => if s.length ≤ 100000 then match atI s i with
    | some c => .ok (.str [c]) h
    | none => .stuck
    else .stuck
  | .tup ds, .int i => match atI ds i with
    | some d => .ok d h
    | none => .stuck
  | .rl ds, .int i => match atI ds i with
    | some d => .ok d h
    | none => .stuck
  | .loc n, k => match h[n]? with
    | some (.lst ds) => match k with
      | .int i => match atI ds i with
        | some d => .ok d h
        | none => .stuck
      | _ => .stuck
    | some (.dic kvs) => if isKey k = true then match kvs.lookup k with
      | some d => .ok d h
      | none => .stuck
      else .stuck
    | _ => .stuck
  | _, _ => .stuck
def cutL {α : Type} (xs : List α) (lo hi : Option Int) : List α := (xs.drop (HT.sIx xs.length 0 lo)).take (HT.sIx xs.length xs.length hi - HT.sIx xs.length 0 lo)
abbrev MO3 := En → MH → R (Option Int)
def oNone : MO3 := fun _ h => .ok none h
def oSome (e : ME) : MO3 := fun ρ h => (e ρ h).bind fun x h1 => match x with
  | .int i => .ok (some i) h1
  | _ => .stuck
def mSl (x : D) (lo hi : Option Int) (h : MH) : R D := match x with
  | .str s => if s.length ≤ 100000 then .ok (.str (cutL s lo hi)) h else .stuck
  | .tup ds => .ok (.tup (cutL ds lo hi)) h
  | .rl ds => .ok (.loc h.length) (h ++ [.lst (cutL ds lo hi)])
  | .loc n => match h[n]? with
    | some (.lst ds) => .ok (.loc h.length) (h ++ [.lst (cutL ds lo hi)])
    | _ => .stuck
  | _ => .stuck
def eSlice (e : ME) (lo hi : MO3) : ME := fun ρ h => (e ρ h).bind fun x h1 => (lo ρ h1).bind fun l h2 => (hi ρ h2).bind fun u h3 => mSl x l u h3

section
variable {K : PySem.W.Frag} {mg : Str → Option Value}
theorem fin {W : XK} {μ : List Addr} {H : Hp} {mh : MH} {d : D} {v : V} {Q : VK} (rl : Rl K mg μ H mh) (p : PostR K mg (relV K) W μ H (.ok d mh) Q) (r : RV K μ H d v) : Q v H := p μ v H (.refl _ _) rl r
/-- a new list -/
theorem fin_lst {W : XK} {μ : List Addr} {H : Hp} {mh : MH} {ds : List D} {vs : List V} {Q : VK} (rl : Rl K mg μ H mh) (p : PostR K mg (relV K) W μ H (.ok (.loc mh.length) (mh ++ [.lst ds])) Q) (r : RVs K μ H ds vs) : ∀ q, H q = none → Q (.ref q) (upd H q (.lst vs)) := fun q hq => by
  have ee : Ext μ H (μ ++ [q]) (upd H q (.lst vs)) := ⟨List.prefix_append _ _, fun a u h _ => by rw [upd_ne (ne_of_none h hq)]; exact h, fun a m n => by
    rcases List.mem_append.mp m with m | m
    · exact absurd m n
    · rw [List.mem_singleton.mp m]; exact hq⟩
  obtain ⟨rl2, e2⟩ := rl.push (o := .lst vs) (m := .lst ds) hq ⟨vs, upd_same, RVs.ext rl ee r⟩
  refine p _ (.ref q) _ e2 rl2 (.loc ?_)
  rw [← rl.len, List.getElem?_append_right (Nat.le_refl _), Nat.sub_self]
  rfl
/-- a new tuple -/
theorem fin_tup {W : XK} {μ : List Addr} {H : Hp} {mh : MH} {ds : List D} {vs : List V} {Q : VK} (rl : Rl K mg μ H mh) (p : PostR K mg (relV K) W μ H (.ok (.tup ds) mh) Q) (r : RVs K μ H ds vs) : ∀ q, H q = none → Q (.ref q) (upd H q (.tup vs)) := fun q hq =>
  p μ (.ref q) _ (Ext.upd hq) (rl.upd_new hq) (.tup (.of upd_same) (RVs.ext rl (Ext.upd hq) r))
theorem lst_at {μ : List Addr} {H : Hp} {mh : MH} (rl : Rl K mg μ H mh) {n : Nat} {v : V} {ds : List D} (r : RV K μ H (.loc n) v) (h : mh[n]? = some (.lst ds)) : ∃ a vs, v = .ref a ∧ μ[n]? = some a ∧ H a = some (.lst vs) ∧ RVs K μ H ds vs := by
  cases r with
  | loc hn =>
    obtain ⟨vs, h1, h2⟩ := rl.obj _ _ _ hn h
    exact ⟨_, vs, rfl, hn, h1, h2⟩
theorem dic_at {μ : List Addr} {H : Hp} {mh : MH} (rl : Rl K mg μ H mh) {n : Nat} {v : V} {ds : List (D × D)} (r : RV K μ H (.loc n) v) (h : mh[n]? = some (.dic ds)) : ∃ a vs, v = .ref a ∧ μ[n]? = some a ∧ H a = some (.dK vs) ∧ RK K μ H ds vs := by
  cases r with
  | loc hn =>
    obtain ⟨vs, h1, h2⟩ := rl.obj _ _ _ hn h
    exact ⟨_, vs, rfl, hn, h1, h2⟩
theorem tx_len (l : List Nat) : (tx l).length = l.length := by show (l.toArray).size = _; simp
theorem tx_app (a b : List Nat) : tx a ++ tx b = tx (a ++ b) := by
  show (⟨a.toArray ++ b.toArray⟩ : Str) = ⟨(a ++ b).toArray⟩
  simp
theorem tx_inj {a b : List Nat} (h : tx a = tx b) : a = b := by
  have := congrArg Str.cps h
  simpa using this

theorem o_add : Op2 K mg (fun x y H Q => (fun x y H Q => rI0 (fun i j => .int (i + j)) x y H Q ∨ (∃ i j, x = .str i ∧ y = .str j ∧ i.length + j.length ≤ sizeLine ∧ Q (.str (i ++ j)) H)) x y H Q ∨ (fun x y H Q => rCatA K x y H Q ∨ rCat x y H Q) x y H Q) mAdd := by
  intro W μ H mh x y v u Q rl rx ry p
  unfold mAdd at p
  split at p
  · cases rx; cases ry
    exact .inl (.inl ⟨_, _, rfl, rfl, fin rl p (.int _)⟩)
  · cases rx; cases ry
    split at p
    case isFalse => exact p.elim
    rename_i hl
    exact .inl (.inr ⟨_, _, rfl, rfl, by rw [tx_len, tx_len]; exact big_line hl, by rw [tx_app]; exact fin rl p (.str _)⟩)
  · split at p
    case isFalse => exact p.elim
    rename_i hl
    cases rx with
    | tup h1 r1 => cases ry with
      | tup h2 r2 =>
        refine .inr (.inl ⟨_, _, _, _, rfl, rfl, h1, h2, by rw [← r1.length, ← r2.length]; exact big_line hl, fun e => ?_, fun _ e => ?_, fun _ _ => fin_tup rl p (r1.append r2)⟩)
        · subst e
          cases r1
          exact fin rl p (.tup h2 r2)
        · subst e
          cases r2
          rw [List.append_nil] at p
          exact fin rl p (.tup h1 r1)
  · split at p
    case h_2 => exact p.elim
    rename_i h1 h2
    split at p
    case isFalse => exact p.elim
    rename_i hl
    obtain ⟨a, vs, rfl, _, hH, rv⟩ := lst_at rl rx h1
    obtain ⟨b, ws, rfl, _, hH2, rw'⟩ := lst_at rl ry h2
    exact .inr (.inr ⟨a, b, vs, ws, rfl, rfl, hH, hH2, by rw [← rv.length, ← rw'.length]; exact big_line hl, fin_lst rl p (rv.append rw')⟩)
  · exact p.elim
theorem or_add {X : Cx} : OpR X (binaryOp .Add) (fun x y H Q => (fun x y H Q => rI0 (fun i j => .int (i + j)) x y H Q ∨ (∃ i j, x = .str i ∧ y = .str j ∧ i.length + j.length ≤ sizeLine ∧ Q (.str (i ++ j)) H)) x y H Q ∨ (fun x y H Q => rCatA X.K x y H Q ∨ rCat x y H Q) x y H Q) := (op_add.or op_add_str).or (op_catA.or op_cat)
theorem o_sub : Op2 K mg (rI0 fun i j => .int (i - j)) mSub := by
  intro W μ H mh x y v u Q rl rx ry p
  unfold mSub at p
  split at p
  · cases rx; cases ry
    exact ⟨_, _, rfl, rfl, fin rl p (.int _)⟩
  · exact p.elim
theorem mulOk_x {i j : Int} (h : mulOk i j = true) : CMulX i j := by
  have b : ∀ x : Int, Builtin.Int.intBits x ≤ x.natAbs.log2 + 1 := fun x => by
    unfold Builtin.Int.intBits
    split <;> omega
  have h1 := b i
  have h2 := b j
  have h3 := of_decide_eq_true h
  unfold CMulX
  omega
/-- a text times a small number -/
theorem op_mul_str {X : Cx} : OpR X (binaryOp .Mult) (fun x y H Q => ∃ (a : List Nat) (j : Int), x = .str (tx a) ∧ y = .int j ∧ (a.length * j.toNat ≤ 100000 ∧ j < 100000 ∧ -100000 < j) ∧ Q (.str (tx (List.replicate j.toNat a).flatten)) H) := by
  intro pins s σ H x y v u Q I rx ry h
  obtain ⟨a, j, rfl, rfl, ⟨h1, h2, h3⟩, q⟩ := h
  obtain ⟨t, rfl⟩ := rx
  obtain ⟨t', rfl⟩ := ry
  have flat : ∀ (n : Nat) (acc : Array Nat), (List.replicate n a.toArray).foldl (· ++ ·) acc = acc ++ ((List.replicate n a).flatten).toArray := by
    intro n
    induction n with
    | zero => intro acc; simp
    | succ n ih => intro acc; rw [List.replicate_succ, List.foldl_cons, ih, List.replicate_succ, List.flatten_cons]; simp
  have lenF : ((List.replicate j.toNat a).flatten).length = a.length * j.toNat := by simp [Nat.mul_comm]
  refine P.mul_str ?_ ?_ ?_ ?_
  · rw [Bool.or_eq_false_iff]
    exact ⟨decide_eq_false (by omega), decide_eq_false (by omega)⟩
  · intro h4 h5
    rw [tx_len]
    rw [Bool.or_eq_false_iff] at h5
    have hj : 1 ≤ j := by omega
    have : (a.length : Int) * j ≤ 100000 := by
      obtain ⟨k, rfl⟩ := Int.eq_ofNat_of_zero_le (show 0 ≤ j by omega)
      have e : ((a.length * k : Nat) : Int) ≤ 100000 := by
        rw [Int.toNat_natCast] at h1
        omega
      rwa [Int.natCast_mul] at e
    have hd : (a.length : Int) ≤ (2 ^ 63 - 1) / j := by
      rw [Int.le_ediv_iff_mul_le (by omega)]
      omega
    omega
  · intro _ _
    rw [tx_len]
    exact decide_eq_false (by have : sizeLine = 16777216 := sizeLine_eq; omega)
  · have fz : ∀ (tk : Tok) s', L2.Inv X pins σ H s' → EP X pins σ Q (.str (tx (List.replicate j.toNat a).flatten) tk) s' := fun tk s' I' => ⟨.str _, H, I', ⟨_, rfl⟩, q⟩
    split
    · rename_i h4
      refine ⟨by decide, ?_⟩
      have e : j.toNat = 0 := by omega
      have := fz s.toks { s with toks := s.toks + 1 } (I.tok _)
      rw [e] at this
      exact this
    · split
      · rename_i h4 h5
        have e : tx (List.replicate j.toNat a).flatten = tx a := by
          rw [Bool.or_eq_true] at h5
          rcases h5 with h5 | h5
          · have : j = 1 := by simpa using h5
            subst this
            simp
          · have hz : a = [] := by
              have : (tx a).length = 0 := by simpa using h5
              rw [tx_len] at this
              exact List.eq_nil_of_length_eq_zero this
            subst hz
            simp
        have := fz t s I
        rw [e] at this
        exact this
      · refine ⟨?_, ?_⟩
        · show (((List.replicate j.toNat (tx a).cps).foldl (· ++ ·) #[]).size) ≤ sizeLine
          rw [show (tx a).cps = a.toArray from rfl, flat]
          simp only [Array.size_append, List.size_toArray]
          rw [lenF]
          have : sizeLine = 16777216 := sizeLine_eq
          simp
          omega
        · have := fz s.toks { s with toks := s.toks + 1 } (I.tok _)
          rw [show (tx a).cps = a.toArray from rfl, flat]
          simpa using this
theorem o_mul : Op2 K mg (fun x y H Q => rI CMulX (fun i j => .int (i * j)) x y H Q ∨ (∃ (a : List Nat) (j : Int), x = .str (tx a) ∧ y = .int j ∧ (a.length * j.toNat ≤ 100000 ∧ j < 100000 ∧ -100000 < j) ∧ Q (.str (tx (List.replicate j.toNat a).flatten)) H)) mMul := by
  intro W μ H mh x y v u Q rl rx ry p
  unfold mMul at p
  split at p
  · cases rx; cases ry
    split at p
    case isFalse => exact p.elim
    rename_i h
    exact .inl ⟨_, _, rfl, rfl, mulOk_x h, fin rl p (.int _)⟩
  · cases rx; cases ry
    split at p
    case isFalse => exact p.elim
    rename_i h
    exact .inr ⟨_, _, rfl, rfl, h, fin rl p (.str _)⟩
  · exact p.elim
theorem or_mul {X : Cx} : OpR X (binaryOp .Mult) (fun x y H Q => rI CMulX (fun i j => .int (i * j)) x y H Q ∨ (∃ (a : List Nat) (j : Int), x = .str (tx a) ∧ y = .int j ∧ (a.length * j.toNat ≤ 100000 ∧ j < 100000 ∧ -100000 < j) ∧ Q (.str (tx (List.replicate j.toNat a).flatten)) H)) := op_mulX.or op_mul_str
theorem o_div : Op2 K mg (rI CDivW fun i j => .int (i / j)) mDiv := by
  intro W μ H mh x y v u Q rl rx ry p
  unfold mDiv at p
  split at p
  · cases rx; cases ry
    split at p
    case isFalse => exact p.elim
    rename_i h
    exact ⟨_, _, rfl, rfl, h, fin rl p (.int _)⟩
  · exact p.elim
theorem o_mod : Op2 K mg (rI (fun _ j => 0 < j) fun i j => .int (i % j)) mMod := by
  intro W μ H mh x y v u Q rl rx ry p
  unfold mMod at p
  split at p
  · cases rx; cases ry
    split at p
    case isFalse => exact p.elim
    rename_i h
    exact ⟨_, _, rfl, rfl, h, fin rl p (.int _)⟩
  · exact p.elim
theorem o_pow : Op2 K mg (rI CPow fun i j => .int (i ^ j.toNat)) mPow := by
  intro W μ H mh x y v u Q rl rx ry p
  unfold mPow at p
  split at p
  · cases rx; cases ry
    split at p
    case isFalse => exact p.elim
    rename_i h
    exact ⟨_, _, rfl, rfl, h, fin rl p (.int _)⟩
  · exact p.elim
theorem o_neg : Op1 K mg (rU fun i => .int (-i)) mNeg := by
  intro W μ H mh x v Q rl rx p
  unfold mNeg at p
  split at p
  · cases rx
    exact ⟨_, rfl, fin rl p (.int _)⟩
  · exact p.elim
theorem o_lt : Op2 K mg (rI0 fun i j => .bl (decide (i < j))) mLt := by
  intro W μ H mh x y v u Q rl rx ry p
  unfold mLt at p
  split at p
  · cases rx; cases ry
    exact ⟨_, _, rfl, rfl, fin rl p (.bl _)⟩
  · exact p.elim
theorem o_le : Op2 K mg (rI0 fun i j => .bl (decide (i ≤ j))) mLe := by
  intro W μ H mh x y v u Q rl rx ry p
  unfold mLe at p
  split at p
  · cases rx; cases ry
    exact ⟨_, _, rfl, rfl, fin rl p (.bl _)⟩
  · exact p.elim
theorem o_gt : Op2 K mg (rI0 fun i j => .bl (decide (j < i))) mGt := by
  intro W μ H mh x y v u Q rl rx ry p
  unfold mGt at p
  split at p
  · cases rx; cases ry
    exact ⟨_, _, rfl, rfl, fin rl p (.bl _)⟩
  · exact p.elim
theorem o_ge : Op2 K mg (rI0 fun i j => .bl (decide (j ≤ i))) mGe := by
  intro W μ H mh x y v u Q rl rx ry p
  unfold mGe at p
  split at p
  · cases rx; cases ry
    exact ⟨_, _, rfl, rfl, fin rl p (.bl _)⟩
  · exact p.elim
theorem toPy_dp {μ : List Addr} {H : Hp} {mh : MH} (rl : Rl K mg μ H mh) : ∀ (n : Nat) (d : D) (v : V) (p : PyData), RV K μ H d v → toPy n mh d = some p → Dp K H v p := by
  have all : ∀ (n : Nat), (∀ (d : D) (v : V) (p : PyData), RV K μ H d v → toPy n mh d = some p → Dp K H v p) → ∀ (ds : List D) (vs : List V) (ps : List PyData), RVs K μ H ds vs → ds.mapM (toPy n mh) = some ps → DpAll K H vs ps := by
    intro n ih ds
    induction ds with
    | nil =>
      intro vs ps r q
      cases r
      simp at q
      subst q
      exact .nil
    | cons d ds ihd =>
      intro vs ps r q
      cases r with
      | cons r1 r2 =>
        rw [List.mapM_cons] at q
        cases h1 : toPy n mh d with
        | none => rw [h1] at q; cases q
        | some p1 =>
          rw [h1] at q
          cases h2 : ds.mapM (toPy n mh) with
          | none => rw [h2] at q; cases q
          | some p2 =>
            rw [h2] at q
            cases q
            exact .cons (ih d _ p1 r1 h1) (ihd _ p2 r2 h2)
  intro n
  induction n with
  | zero =>
    intro d v p r q
    cases r with
    | non => simp [toPy] at q; subst q; exact .non
    | bl b => simp [toPy] at q; subst q; exact .bl b
    | int i => simp [toPy] at q; subst q; exact .int i
    | str s => simp [toPy] at q; subst q; exact .str _
    | tup h r => simp [toPy] at q
    | rl h r => simp [toPy] at q
    | loc h => simp [toPy] at q
  | succ n ih =>
    intro d v p r q
    cases r with
    | non => simp [toPy] at q; subst q; exact .non
    | bl b => simp [toPy] at q; subst q; exact .bl b
    | int i => simp [toPy] at q; subst q; exact .int i
    | str s => simp [toPy] at q; subst q; exact .str _
    | tup h r =>
      unfold toPy at q
      rw [Option.map_eq_some_iff] at q
      obtain ⟨ps, h1, rfl⟩ := q
      exact .tup h (all n ih _ _ _ r h1)
    | rl h r =>
      unfold toPy at q
      rw [Option.map_eq_some_iff] at q
      obtain ⟨ps, h1, rfl⟩ := q
      exact .lst h.sq (all n ih _ _ _ r h1)
    | loc h =>
      unfold toPy at q
      split at q
      · rename_i ho
        rw [Option.map_eq_some_iff] at q
        obtain ⟨ps, h1, rfl⟩ := q
        obtain ⟨vs, hH, rv⟩ := rl.obj _ _ _ h ho
        exact .lst (.of hH) (all n ih _ _ _ rv h1)
      · cases q
/-- == by values -/
def rEqA (K : PySem.W.Frag) : R2 := fun x y H Q => rEq x y H Q ∨ rEqD K x y H Q
def rNeA (K : PySem.W.Frag) : R2 := fun x y H Q => rNe x y H Q ∨ rNeD K x y H Q
theorem eqD_to {W : XK} {μ : List Addr} {H : Hp} {mh : MH} {x y : D} {v u : V} {b : Bool} (rl : Rl K mg μ H mh) (rx : RV K μ H x v) (ry : RV K μ H y u) (h : eqD x y mh = some b) :
    (scal v u = true ∧ b = decide (v = u)) ∨ ∃ d e, Dp K H v d ∧ Dp K H u e ∧ SeqAt.shaped d = true ∧ SeqAt.shaped e = true ∧ b = PyData.eqv d e := by
  unfold eqD at h
  split at h
  · cases rx; cases ry; cases h
    refine .inl ⟨rfl, ?_⟩
    simp
  · cases rx; cases ry; cases h
    refine .inl ⟨rfl, ?_⟩
    rename_i a c
    by_cases e : a = c
    · subst e; simp
    · simp [e]
  · cases rx; cases ry; cases h
    refine .inl ⟨rfl, ?_⟩
    simp
  · cases rx; cases ry; cases h; exact .inl ⟨rfl, rfl⟩
  · cases rx; cases ry; cases h; exact .inl ⟨rfl, rfl⟩
  · cases rx; cases ry; cases h; exact .inl ⟨rfl, rfl⟩
  · cases rx; cases ry; cases h; exact .inl ⟨rfl, rfl⟩
  · cases rx; cases ry; cases h; exact .inl ⟨rfl, rfl⟩
  · cases rx; cases ry; cases h; exact .inl ⟨rfl, rfl⟩
  · cases rx; cases ry; cases h; exact .inl ⟨rfl, rfl⟩
  · split at h
    · rename_i p q hp hq
      split at h
      · rename_i hs
        cases h
        exact .inr ⟨p, q, toPy_dp rl _ _ _ _ rx hp, toPy_dp rl _ _ _ _ ry hq, hs.1, hs.2, rfl⟩
      · cases h
    · cases h
theorem o_eq : Op2 K mg (rEqA K) mEq := by
  intro W μ H mh x y v u Q rl rx ry p
  unfold mEq at p
  split at p
  case h_2 => exact p.elim
  rename_i b hb
  rcases eqD_to (W := W) rl rx ry hb with ⟨h1, rfl⟩ | ⟨d, e, h1, h2, h3, h4, rfl⟩
  · exact .inl ⟨h1, fin rl p (.bl _)⟩
  · exact .inr ⟨d, e, h1, h2, h3, h4, fin rl p (.bl _)⟩
theorem o_ne : Op2 K mg (rNeA K) mNe := by
  intro W μ H mh x y v u Q rl rx ry p
  unfold mNe at p
  split at p
  case h_2 => exact p.elim
  rename_i b hb
  rcases eqD_to (W := W) rl rx ry hb with ⟨h1, rfl⟩ | ⟨d, e, h1, h2, h3, h4, rfl⟩
  · exact .inl ⟨h1, fin rl p (.bl _)⟩
  · exact .inr ⟨d, e, h1, h2, h3, h4, fin rl p (.bl _)⟩
theorem or_eq {W : WX} {X : Cx} {n : Nat} (ok : Ok W n X) : OpR X (compareOp .Eq) (rEqA X.K) := op_eq.or (op_eqD ok.room.units)
theorem or_ne {W : WX} {X : Cx} {n : Nat} (ok : Ok W n X) : OpR X (compareOp .NotEq) (rNeA X.K) := op_ne.or (op_neD ok.room.units)
end
end Mir
set_option Elab.async false
set_option linter.all false
set_option maxRecDepth 100000
set_option autoImplicit false
/-! Mirror: in, subscripts, slices, dicts. -/
namespace Mir
open PySem PySem.Spec PyProof.Rows L2

section
variable {K : PySem.W.Frag} {mg : Str → Option Value} {W : WX} {X : Cx} {n : Nat} {e o a b c i : Expr} {es : List Expr} {pos pos' : Pos} {ma mb mc mo mi : ME} {mas : MA}

/-! ### in -/
theorem flatD_v {μ : List Addr} {H : Hp} {d : D} {v : V} (r : RV K μ H d v) (f : flatD d = true) : flatV v = true := by
  cases r <;> first | rfl | cases f
theorem flatD_vs {μ : List Addr} {H : Hp} : ∀ {ds : List D} {vs : List V}, RVs K μ H ds vs → ds.all flatD = true → vs.all flatV = true
  | _, _, .nil, _ => rfl
  | _, _, .cons r rr, f => by
    rw [List.all_cons, Bool.and_eq_true] at f ⊢
    exact ⟨flatD_v r f.1, flatD_vs rr f.2⟩
theorem eqF_v {μ : List Addr} {H : Hp} {d e : D} {v u : V} (r : RV K μ H d v) (q : RV K μ H e u) (f : flatD d = true) (g : flatD e = true) : eqV v u = eqF d e := by
  cases r with
  | non => cases q <;> first | rfl | cases g
  | bl b => cases q <;> first | rfl | cases g
  | int i => cases q <;> first | rfl | cases g
  | str s => cases q with
    | str t =>
      show (tx s == tx t) = (s == t)
      by_cases e : s = t
      · subst e; simp
      · rw [beq_eq_false_iff_ne.mpr e, beq_eq_false_iff_ne.mpr fun z => e (tx_inj z)]
    | non => rfl
    | bl b => rfl
    | int i => rfl
    | tup _ _ => cases g
    | rl _ _ => cases g
    | loc _ => cases g
  | tup _ _ => cases f
  | rl _ _ => cases f
  | loc _ => cases f
theorem inV_d {μ : List Addr} {H : Hp} {x : D} {v : V} (rx : RV K μ H x v) (fx : flatD x = true) : ∀ {ds : List D} {vs : List V}, RVs K μ H ds vs → ds.all flatD = true → inV v vs = ds.any fun z => eqF z x
  | _, _, .nil, _ => rfl
  | _, _, .cons r rr, f => by
    rw [List.all_cons, Bool.and_eq_true] at f
    have ih := inV_d rx fx rr f.2
    unfold inV at ih ⊢
    rw [List.any_cons, List.any_cons, eqF_v r rx f.1 fx, ih]
theorem within_occ (a b : List Nat) : (!(Builtin.Str.occurrences (tx b) (tx a) 0 (tx b).length 1).isEmpty) = within a b := by
  rw [Bool.eq_iff_iff, StrLaws.found_iff]
  unfold within
  rw [List.any_eq_true]
  have sub : ∀ i, Builtin.Str.subAt (tx b) (tx a) i = true ↔ (b.drop i).take a.length = a := by
    intro i
    unfold Builtin.Str.subAt
    rw [beq_iff_eq, ← Array.toList_inj, Array.toList_extract]
    show List.extract b i (i + (tx a).length) = a ↔ _
    rw [tx_len]
    unfold List.extract
    rw [show i + a.length - i = a.length by omega]
  constructor
  · rintro ⟨i, h1, h2⟩
    rw [tx_len, tx_len] at h1
    exact ⟨i, List.mem_range.mpr (by omega), decide_eq_true ((sub i).mp h2)⟩
  · rintro ⟨i, h1, h2⟩
    have h2 := of_decide_eq_true h2
    have h3 := List.mem_range.mp h1
    refine ⟨i, ?_, (sub i).mpr h2⟩
    rw [tx_len, tx_len]
    have := congrArg List.length h2
    rw [List.length_take, List.length_drop] at this
    omega
/-- a deep in -/
def rInA (K : PySem.W.Frag) (neg : Bool) : R2 := fun x y H Q => ∃ d ds, Dp K H x d ∧ (Dp K H y (.list ds) ∨ Dp K H y (.tuple ds)) ∧ SeqAt.shaped d = true ∧ PyData.canLayAll0 ds = true ∧ Q (.bl (if neg then !ds.any fun z => PyData.eqv z d else ds.any fun z => PyData.eqv z d)) H
theorem room_in {A : Around} {d : PyData} {ds : List PyData} (h : SeqAt.shaped d = true) (hu : A.units + 65 < cLine) : A.units + 1 + min (PyData.depthAll ds) d.depth < cLine := by
  have := SeqAt.depth_of_shaped h
  have h2 : min (PyData.depthAll ds) d.depth ≤ d.depth := Nat.min_le_right _ _
  omega
theorem op_inA (hu : X.A.units + 65 < cLine) : OpR X (compareOp .In) (rInA X.K false) := by
  intro pins s σ H x y v u Q I rx ry h
  obtain ⟨d, ds, hd, he, sd, se, q⟩ := h
  obtain ⟨as, r1⟩ := Dp.reads I d x v hd rx
  rcases he with he | he
  · obtain ⟨bs, r2⟩ := Dp.reads I _ y u he ry
    exact SeqAt.in_list_reads r2 r1 se (SeqAt.canLay_of_shaped sd) (room_in sd hu) ⟨.bl _, H, I, rfl, q⟩
  · obtain ⟨bs, r2⟩ := Dp.reads I _ y u he ry
    exact SeqAt.in_tuple_reads r2 r1 se (SeqAt.canLay_of_shaped sd) (room_in sd hu) ⟨.bl _, H, I, rfl, q⟩
theorem op_notInA (hu : X.A.units + 65 < cLine) : OpR X (compareOp .NotIn) (rInA X.K true) := by
  intro pins s σ H x y v u Q I rx ry h
  obtain ⟨d, ds, hd, he, sd, se, q⟩ := h
  obtain ⟨as, r1⟩ := Dp.reads I d x v hd rx
  rcases he with he | he
  · obtain ⟨bs, r2⟩ := Dp.reads I _ y u he ry
    exact SeqAt.notIn_list_reads r2 r1 se (SeqAt.canLay_of_shaped sd) (room_in sd hu) ⟨.bl _, H, I, rfl, q⟩
  · obtain ⟨bs, r2⟩ := Dp.reads I _ y u he ry
    exact SeqAt.notIn_tuple_reads r2 r1 se (SeqAt.canLay_of_shaped sd) (room_in sd hu) ⟨.bl _, H, I, rfl, q⟩
/-- a key in a dict -/
def rInK (neg : Bool) : R2 := fun x y H Q => ∃ a o, y = .ref a ∧ DGet H a x o ∧ Q (.bl (if neg then !o.isSome else o.isSome)) H
theorem op_inK (hu : X.A.units + 1 < cLine) : OpR X (compareOp .In) (rInK false) := by
  intro pins s σ H x y v u Q I rx ry h
  obtain ⟨a, o, rfl, g, q⟩ := h
  cases ry
  exact d_in hu I g rx fun s' I' => ⟨.bl _, H, I', rfl, q⟩
theorem op_notInK (hu : X.A.units + 1 < cLine) : OpR X (compareOp .NotIn) (rInK true) := by
  intro pins s σ H x y v u Q I rx ry h
  obtain ⟨a, o, rfl, g, q⟩ := h
  cases ry
  exact d_notIn hu I g rx fun s' I' => ⟨.bl _, H, I', rfl, q⟩
def rStrIn (neg : Bool) : R2 := fun x y H Q => ∃ i j, x = .str i ∧ y = .str j ∧ Q (.bl (if neg then !(!(Builtin.Str.occurrences j i 0 j.length 1).isEmpty) else !(Builtin.Str.occurrences j i 0 j.length 1).isEmpty)) H
def rInAll (K : PySem.W.Frag) (neg : Bool) : R2 := fun x y H Q => (fun x y H Q => rStrIn neg x y H Q ∨ rIn K neg x y H Q) x y H Q ∨ (fun x y H Q => rInA K neg x y H Q ∨ rInK neg x y H Q) x y H Q
theorem or_in (ok : Ok W n X) : OpR X (compareOp .In) (rInAll X.K false) :=
  OpR.or (OpR.or (r := rStrIn false) op_in_str op_in_seq) (OpR.or (op_inA (by have := ok.room.un; omega)) (op_inK (hu_of ok.room)))
theorem or_notIn (ok : Ok W n X) : OpR X (compareOp .NotIn) (rInAll X.K true) :=
  OpR.or (OpR.or (r := rStrIn true) op_notin_str op_notIn_seq) (OpR.or (op_notInA (by have := ok.room.un; omega)) (op_notInK (hu_of ok.room)))
theorem mapM_dp {μ : List Addr} {H : Hp} {mh : MH} (rl : Rl K mg μ H mh) (k : Nat) : ∀ (ds : List D) (vs : List V) (ps : List PyData), RVs K μ H ds vs → ds.mapM (toPy k mh) = some ps → DpAll K H vs ps := by
  intro ds
  induction ds with
  | nil =>
    intro vs ps r q
    cases r
    simp at q
    subst q
    exact .nil
  | cons d ds ih =>
    intro vs ps r q
    cases r with
    | cons r1 r2 =>
      rw [List.mapM_cons] at q
      cases h1 : toPy k mh d with
      | none => rw [h1] at q; cases q
      | some p1 =>
        rw [h1] at q
        cases h2 : ds.mapM (toPy k mh) with
        | none => rw [h2] at q; cases q
        | some p2 =>
          rw [h2] at q
          cases q
          exact .cons (toPy_dp rl k d _ p1 r1 h1) (ih _ p2 r2 h2)
/-- dicts: a key looked up -/
theorem key_of {μ : List Addr} {H : Hp} {k : D} {v : V} (r : RV K μ H k v) (h : isKey k = true) : ∃ q : Key, v = kV q := by
  cases r with
  | int i => exact ⟨.inl i, rfl⟩
  | str s => exact ⟨.inr (tx s), rfl⟩
  | non => cases h
  | bl b => cases h
  | tup a b => cases h
  | rl a b => cases h
  | loc a => cases h
theorem key_eq {μ : List Addr} {H : Hp} {k k' : D} {q q' : Key} (r : RV K μ H k (kV q)) (r' : RV K μ H k' (kV q')) : k = k' ↔ q = q' := by
  cases q with
  | inl i =>
    cases r
    cases q' with
    | inl j => cases r'; constructor <;> intro h <;> cases h <;> rfl
    | inr y => cases r'; constructor <;> intro h <;> cases h
  | inr x =>
    cases q' with
    | inl j => cases r'; cases r; constructor <;> intro h <;> cases h
    | inr y =>
      have e1 : ∀ {d : D} {z : Str}, RV K μ H d (kV (.inr z)) → ∃ s, d = .str s ∧ z = tx s := fun {d z} r => by
        cases r with
        | str s => exact ⟨s, rfl, rfl⟩
      obtain ⟨s, rfl, rfl⟩ := e1 r
      obtain ⟨t, rfl, rfl⟩ := e1 r'
      constructor
      · intro h; cases h; rfl
      · intro h; rw [tx_inj (Sum.inr.inj h)]
theorem RK.look {μ : List Addr} {H : Hp} {k : D} {q : Key} (rk : RV K μ H k (kV q)) : ∀ {kvs : List (D × D)} {ws : List (Key × V)}, RK K μ H kvs ws → (∀ d, kvs.lookup k = some d → ∃ v, valV ws q = some v ∧ RV K μ H d v) ∧ (kvs.lookup k = none → valV ws q = none)
  | [], [], _ => ⟨fun _ h => by simp at h, fun _ => rfl⟩
  | (k1, d1) :: kvs, (q1, v1) :: ws, h => by
    obtain ⟨h1, h2, h3⟩ := h
    obtain ⟨i1, i2⟩ := RK.look rk h3
    rw [List.lookup_cons]
    unfold valV
    rw [List.find?_cons]
    by_cases e : k = k1
    · have e2 := (key_eq rk h1).mp e
      subst e
      subst e2
      rw [beq_self_eq_true, decide_eq_true rfl]
      exact ⟨fun d z => by cases z; exact ⟨v1, rfl, h2⟩, fun z => by cases z⟩
    · have e2 : q1 ≠ q := fun z => e ((key_eq rk h1).mpr z.symm)
      rw [beq_eq_false_iff_ne.mpr e, decide_eq_false e2]
      exact ⟨i1, i2⟩
  | [], _ :: _, h => h.elim
  | _ :: _, [], h => h.elim
theorem inD_to {neg : Bool} {W : XK} {μ : List Addr} {H : Hp} {mh : MH} {x y : D} {v u : V} {bb : Bool} {Q : VK} (rl : Rl K mg μ H mh) (rx : RV K μ H x v) (ry : RV K μ H y u) (h : inD x y mh = some bb) (q : Q (.bl (if neg then !bb else bb)) H) : rInAll K neg v u H Q := by
  have seq : ∀ (ds : List D) (vs : List V) (p : Addr), u = .ref p → (SqL K H p vs ∨ SqT K H p vs) → RVs K μ H ds vs → inP x ds mh = some bb → rInAll K neg v u H Q := by
    intro ds vs p hp hs rs h
    unfold inP at h
    split at h
    · rename_i f
      cases h
      exact .inl (.inr ⟨p, vs, hp, hs, flatD_v rx f.1, flatD_vs rs f.2, by rw [inV_d rx f.1 rs f.2]; exact q⟩)
    · split at h
      · rename_i pd ps h1 h2
        split at h
        · rename_i hq
          cases h
          have dp := mapM_dp rl 65 ds vs ps rs h2
          refine .inr (.inl ⟨pd, ps, toPy_dp rl 65 x v pd rx h1, ?_, hq.1, hq.2, q⟩)
          subst hp
          rcases hs with hs | hs
          · exact .inl (.lst hs dp)
          · exact .inr (.tup hs dp)
        · cases h
      · cases h
  unfold inD at h
  split at h
  · split at h
    · cases h
      cases rx; cases ry
      exact .inl (.inl ⟨_, _, rfl, rfl, by rw [within_occ]; exact q⟩)
    · cases h
  · cases ry with
    | tup hT rs => exact seq _ _ _ rfl (.inr hT) rs h
  · cases ry with
    | rl hT rs => exact seq _ _ _ rfl (.inl hT.sq) rs h
  · split at h
    · rename_i ho
      obtain ⟨p, vs, rfl, _, hH, rs⟩ := lst_at rl ry ho
      exact seq _ _ _ rfl (.inl (.of hH)) rs h
    · rename_i ho
      split at h
      · rename_i hk
        cases h
        obtain ⟨p, ws, rfl, _, hH, rs⟩ := dic_at rl ry ho
        obtain ⟨k, rfl⟩ := key_of rx hk
        refine .inr (.inr ⟨p, valV ws k, rfl, DGet.k hH, ?_⟩)
        have lk := RK.look rx rs
        rename_i kvs _
        cases hl : kvs.lookup x with
        | none => rw [lk.2 hl]; rw [hl] at q; exact q
        | some d => obtain ⟨w, hw, _⟩ := lk.1 d hl; rw [hw]; rw [hl] at q; exact q
      · cases h
    · cases h
  · cases h
theorem o_in : Op2 K mg (rInAll K false) mIn := by
  intro W μ H mh x y v u Q rl rx ry p
  unfold mIn at p
  split at p
  case h_2 => exact p.elim
  rename_i bb hb
  exact inD_to (W := W) rl rx ry hb (fin rl p (.bl _))
theorem o_notIn : Op2 K mg (rInAll K true) mNotIn := by
  intro W μ H mh x y v u Q rl rx ry p
  unfold mNotIn at p
  split at p
  case h_2 => exact p.elim
  rename_i bb hb
  exact inD_to (W := W) rl rx ry hb (fin rl p (.bl _))

/-! ### is None -/
theorem o_isN {μ : List Addr} {H : Hp} {d : D} {v : V} (r : RV K μ H d v) : decide (v = .non) = decide (d = .non) := by
  cases r <;> simp
theorem se_isN {j : Nat} (ha : SE W X a ma) : SE W X (.Compare a [.Is] [.Constant .none j pos'] pos) (eUn mIsN ma) := by
  refine (pe_cmp (pc_isN ha)).weak fun σ H Q h => rd1 (r := fun x H1 Q => Q (.bl (decide (x = .non))) H1) (fun W μ H mh x v Q rl r p => ?_) σ H Q h
  unfold mIsN at p
  show Q (.bl (decide (v = .non))) H
  rw [o_isN r]
  exact fin rl p (.bl _)
theorem se_notN {j : Nat} (ha : SE W X a ma) : SE W X (.Compare a [.IsNot] [.Constant .none j pos'] pos) (eUn mNotN ma) := by
  refine (pe_cmp (pc_notN ha)).weak fun σ H Q h => rd1 (r := fun x H1 Q => Q (.bl (!decide (x = .non))) H1) (fun W μ H mh x v Q rl r p => ?_) σ H Q h
  unfold mNotN at p
  show Q (.bl (!decide (v = .non))) H
  rw [o_isN r]
  exact fin rl p (.bl _)

/-! ### subscripts -/
def rIxK : R2 := fun x y H Q => ∃ a v, x = .ref a ∧ DGet H a y (some v) ∧ Q v H
theorem ix_dict (hu : X.A.units + 1 < cLine) : IxR X rIxK := by
  intro value slice pins s σ H x y v u Q I rx ry h hs
  obtain ⟨a, z, rfl, g, q⟩ := h
  cases rx
  have hg : wpAny (model X.prog X.w) X.A (getItem (.ref a) u) (EP X pins σ Q) X.xe s := d_getItem hu I g ry fun w' s3 I3 rw' => ⟨z, H, I3, rw', q⟩
  have hT := dict_typeIs I g
  unfold subscriptTail
  refine wpAny_bind ?_
  rw [getitemInPython_of_ne hT.not_modules]
  refine wpAny_bind (wpAny_specialOf hT PySem.F.slot_dict_getitem.lookup ?_)
  have body : wpAny (model X.prog X.w) X.A (subscripted slice false (.ref a) u) (fun r s₃ => wpAny (model X.prog X.w) X.A (letTemporaryGo value (.ref a) r >>= fun _ => pure r) (EP X pins σ Q) X.xe s₃) X.xe s := by
    rw [hs]
    exact wpAny_operating (thn hg fun r s₃ h₃ => wpAny_bind (wpAny_letTemporaryGo (wpAny_pure h₃)))
  first
    | exact wpAny_pure (wpAny_bind body)
    | exact wpAny_bind (wpAny_pure (wpAny_bind body))
    | exact wpAny_bind body
def rIxAll (K : PySem.W.Frag) : R2 := fun x y H Q => rIx K x y H Q ∨ rIxK x y H Q
theorem ir_ix (ok : Ok W n X) : IxR X (rIxAll X.K) := ix_seq.or (ix_dict (hu_of ok.room))
theorem atI_rel {μ : List Addr} {H : Hp} {ds : List D} {vs : List V} (r : RVs K μ H ds vs) {j : Int} {d : D} (h : atI ds j = some d) : ∃ v, atI vs j = some v ∧ RV K μ H d v := by
  unfold atI at h ⊢
  rw [← r.length]
  cases q : ixN ds.length j with
  | none => rw [q] at h; cases h
  | some k => rw [q] at h; exact r.get h
theorem o_ix : Op2 K mg (rIxAll K) mIx := by
  intro W μ H mh x y v u Q rl rx ry p
  unfold mIx at p
  split at p
  · cases rx; cases ry
    split at p
    case isFalse => exact p.elim
    rename_i hl
    split at p
    case h_2 => exact p.elim
    rename_i c hc
    exact .inl (.inr (.inr ⟨_, _, c, rfl, rfl, by rw [tx_len]; exact big_line hl, hc, fin rl p (.str [c])⟩))
  · cases ry
    split at p
    case h_2 => exact p.elim
    rename_i d hd
    cases rx with
    | tup hT r =>
      obtain ⟨w, hw, rw'⟩ := atI_rel r hd
      exact .inl (.inr (.inl ⟨_, _, _, w, rfl, rfl, hT, hw, fin rl p rw'⟩))
  · cases ry
    split at p
    case h_2 => exact p.elim
    rename_i d hd
    cases rx with
    | rl hT r =>
      obtain ⟨w, hw, rw'⟩ := atI_rel r hd
      exact .inl (.inl ⟨_, _, _, w, rfl, rfl, hT.sq, hw, fin rl p rw'⟩)
  · split at p
    · rename_i ho
      obtain ⟨aa, vs, rfl, _, hH, r⟩ := lst_at rl rx ho
      split at p
      case h_2 => exact p.elim
      cases ry
      split at p
      case h_2 => exact p.elim
      rename_i d hd
      obtain ⟨w, hw, rw'⟩ := atI_rel r hd
      exact .inl (.inl ⟨_, _, _, w, rfl, rfl, .of hH, hw, fin rl p rw'⟩)
    · rename_i ho
      obtain ⟨aa, ws, rfl, _, hH, r⟩ := dic_at rl rx ho
      split at p
      case isFalse => exact p.elim
      rename_i hk
      split at p
      case h_2 => exact p.elim
      rename_i d hd
      obtain ⟨k, rfl⟩ := key_of ry hk
      obtain ⟨w, hw, rw'⟩ := (RK.look ry r).1 d hd
      refine .inr ⟨aa, w, rfl, ?_, fin rl p rw'⟩
      rw [← hw]
      exact DGet.k hH
    · exact p.elim
  · exact p.elim

/-! ### slices -/
def rdO (K : PySem.W.Frag) (mg : Str → Option Value) (W : WX) (m : MO3) : TO := fun σ H Q => ∃ μ ρ mh, RE K μ H ρ σ ∧ Rl K mg μ H mh ∧ PostR K mg (fun _ _ (x : Option Int) y => x = y) (fun cls d H => W cls d σ H) μ H (m ρ mh) Q
abbrev SO (W : WX) (X : Cx) (e : Option Expr) (m : MO3) : Prop := PO X e (rdO X.K X.mg W m)
theorem so_none : SO W X none oNone := ⟨fun pins s σ H Q I ⟨μ, ρ, mh, re, rl, p⟩ => po_none.run pins s σ H Q I (p μ none H (.refl _ _) rl rfl)⟩
theorem so_some (h : SE W X e ma) : SO W X (some e) (oSome ma) := by
  refine ⟨fun pins s σ H Q I ⟨μ, ρ, mh, re, rl, p⟩ => (po_some h).run pins s σ H Q I ⟨μ, ρ, mh, re, rl, (PostR.bind (rel := relV X.K) p).mono fun v H1 ⟨μ1, x, mh1, e1, rl1, rx, p1⟩ => ?_⟩⟩
  split at p1
  · cases rx
    exact ⟨_, rfl, p1 μ1 _ H1 (.refl _ _) rl1 rfl⟩
  · exact p1.elim
def rSlAll (K : PySem.W.Frag) : V → Option Int → Option Int → Hp → VK → Prop := fun x lo hi H Q => (fun x lo hi H Q => rSlS x lo hi H Q ∨ rSlA K x lo hi H Q) x lo hi H Q ∨ rSlL K x lo hi H Q
theorem sr_all : SlR X (rSlAll X.K) := (sl_str.or sl_tupA).or sl_list
theorem cut_len {α β : Type} {xs : List α} {ys : List β} (h : xs.length = ys.length) (lo hi : Option Int) : cutL xs lo hi = (xs.drop (HT.sIx ys.length 0 lo)).take (HT.sIx ys.length ys.length hi - HT.sIx ys.length 0 lo) := by unfold cutL; rw [h]
theorem cut_rel {μ : List Addr} {H : Hp} {ds : List D} {vs : List V} (r : RVs K μ H ds vs) (lo hi : Option Int) : RVs K μ H (cutL ds lo hi) (cutV vs lo hi) := by
  rw [cut_len r.length]
  exact (r.drop _).take _
theorem o_sl {W : XK} {μ : List Addr} {H : Hp} {mh : MH} {x : D} {v : V} {lo hi : Option Int} {Q : VK} (rl : Rl K mg μ H mh) (rx : RV K μ H x v) (p : PostR K mg (relV K) W μ H (mSl x lo hi mh) Q) : rSlAll K v lo hi H Q := by
  unfold mSl at p
  split at p
  · cases rx
    split at p
    case isFalse => exact p.elim
    rename_i s hl
    refine .inl (.inl ⟨_, rfl, by rw [tx_len]; exact big_line hl, ?_⟩)
    have e : cutS (tx s) lo hi = tx (cutL s lo hi) := by
      unfold cutS cutL
      rw [tx_len]
    rw [e]
    exact fin rl p (.str _)
  · cases rx with
    | tup hT r =>
      rename_i ds a vs
      refine .inl (.inr ⟨a, vs, rfl, hT, fun hw => ?_, fun _ => fin_tup rl p (cut_rel r lo hi)⟩)
      have e : cutL ds lo hi = ds := by
        rw [cut_len r.length, hw.1, hw.2, List.drop_zero, Nat.sub_zero, ← r.length, List.take_length]
      rw [e] at p
      exact fin rl p (.tup hT r)
  · cases rx with
    | rl hT r => exact .inr ⟨_, _, rfl, hT.sq, fin_lst rl p (cut_rel r lo hi)⟩
  · split at p
    case h_2 => exact p.elim
    rename_i ho
    obtain ⟨a, vs, rfl, _, hH, r⟩ := lst_at rl rx ho
    exact .inr ⟨_, _, rfl, .of hH, fin_lst rl p (cut_rel r lo hi)⟩
  · exact p.elim
theorem se_slice {lo hi : Option Expr} {ml mh' : MO3} {p2 : Pos} (he : SE W X e ma) (hl : SO W X lo ml) (hh : SO W X hi mh') : SE W X (.Subscript e (.Slice lo hi none p2) pos) (eSlice ma ml mh') := by
  refine (pe_slice sr_all he hl hh).weak fun σ H Q ⟨μ, ρ, mh, re, rl, p⟩ => ⟨μ, ρ, mh, re, rl, (PostR.bind (rel := relV X.K) p).mono fun v H1 ⟨μ1, x, mh1, e1, rl1, rx, p1⟩ => ?_⟩
  refine ⟨μ1, ρ, mh1, re.ext rl e1, rl1, (PostR.bind (rel := fun _ _ (x : Option Int) y => x = y) p1).mono fun l H2 ⟨μ2, l', mh2, e2, rl2, rl', p2⟩ => ?_⟩
  cases rl'
  refine ⟨μ2, ρ, mh2, (re.ext rl e1).ext rl1 e2, rl2, (PostR.bind (rel := fun _ _ (x : Option Int) y => x = y) p2).mono fun u H3 ⟨μ3, u', mh3, e3, rl3, ru', p3⟩ => ?_⟩
  cases ru'
  exact o_sl rl3 (RV.ext rl2 e3 (RV.ext rl1 e2 rx)) p3

/-! ### dicts -/
theorem RK.length {μ : List Addr} {H : Hp} : ∀ {fs : List (D × D)} {gs : List (Key × V)}, RK K μ H fs gs → fs.length = gs.length
  | [], [], _ => rfl
  | (_, _) :: _, (_, _) :: _, h => by rw [List.length_cons, List.length_cons, RK.length h.2.2]
  | [], _ :: _, h => h.elim
  | _ :: _, [], h => h.elim
theorem RK.any {μ : List Addr} {H : Hp} {k : D} {q : Key} (rk : RV K μ H k (kV q)) : ∀ {kvs : List (D × D)} {ws : List (Key × V)}, RK K μ H kvs ws → (kvs.any fun p => decide (p.1 = k)) = ws.any fun p => decide (p.1 = q)
  | [], [], _ => rfl
  | (k1, d1) :: kvs, (q1, v1) :: ws, h => by
    rw [List.any_cons, List.any_cons, RK.any rk h.2.2, decide_eq_decide.mpr (key_eq h.1 rk)]
  | [], _ :: _, h => h.elim
  | _ :: _, [], h => h.elim
theorem RK.mapk {μ : List Addr} {H : Hp} {k d : D} {q : Key} {v : V} (rk : RV K μ H k (kV q)) (r : RV K μ H d v) : ∀ {kvs : List (D × D)} {ws : List (Key × V)}, RK K μ H kvs ws → RK K μ H (kvs.map fun p => if p.1 = k then (p.1, d) else p) (ws.map fun p => if p.1 = q then (p.1, v) else p)
  | [], [], _ => trivial
  | (k1, d1) :: kvs, (q1, v1) :: ws, h => by
    rw [List.map_cons, List.map_cons]
    by_cases e : k1 = k
    · rw [if_pos e, if_pos ((key_eq h.1 rk).mp e)]
      exact ⟨h.1, r, RK.mapk rk r h.2.2⟩
    · rw [if_neg e, if_neg fun z => e ((key_eq h.1 rk).mpr z)]
      exact ⟨h.1, h.2.1, RK.mapk rk r h.2.2⟩
  | [], _ :: _, h => h.elim
  | _ :: _, [], h => h.elim
theorem RK.app {μ : List Addr} {H : Hp} : ∀ {kvs kvs' : List (D × D)} {ws ws' : List (Key × V)}, RK K μ H kvs ws → RK K μ H kvs' ws' → RK K μ H (kvs ++ kvs') (ws ++ ws')
  | [], _, [], _, _, h => h
  | (_, _) :: _, _, (_, _) :: _, _, h, h' => ⟨h.1, h.2.1, RK.app h.2.2 h'⟩
  | [], _, _ :: _, _, h, _ => h.elim
  | _ :: _, _, [], _, h, _ => h.elim
theorem RK.put {μ : List Addr} {H : Hp} {k d : D} {q : Key} {v : V} (rk : RV K μ H k (kV q)) (r : RV K μ H d v) {kvs : List (D × D)} {ws : List (Key × V)} (h : RK K μ H kvs ws) : RK K μ H (putD kvs k d) (putK ws q v) := by
  unfold putD putK
  rw [RK.any rk h]
  split
  · exact RK.mapk rk r h
  · exact RK.app h ⟨rk, r, trivial⟩
theorem ss_put (ok : Ok W n X) (ho : SE W X o mo) (hi : SE W X i mi) (he : SE W X e ma) (hs : swapsWith e (some (.Subscript o i pos')) pos.line X.env = pure false := by rfl) : SS W X (.Assign [.Subscript o i pos'] e pos) (sPut mo mi ma) := by
  refine (ps_dput (hu_of ok.room) ho hi he hs).weak fun Z σ H ⟨μ, ρ, mh, re, rl, p⟩ => ⟨μ, ρ, mh, re, rl, (PostR.toS (rel := relV X.K) (fun mh' μ' H' e _ => re.ext rl e) p).mono fun v H1 ⟨μ1, d, mh1, e1, rl1, r, p1⟩ => ?_⟩
  have re1 := re.ext rl e1
  refine ⟨μ1, ρ, mh1, re1, rl1, (PostR.toS (rel := relV X.K) (fun mh' μ' H' e _ => re1.ext rl1 e) p1).mono fun u H2 ⟨μ2, x, mh2, e2, rl2, rx, p2⟩ => ?_⟩
  have re2 := re1.ext rl1 e2
  refine ⟨μ2, ρ, mh2, re2, rl2, (PostR.toS (rel := relV X.K) (fun mh' μ' H' e _ => re2.ext rl2 e) p2).mono fun w H3 ⟨μ3, y, mh3, e3, rl3, ry, p3⟩ => ?_⟩
  have re3 := re2.ext rl2 e3
  split at p3
  case h_2 => exact p3.elim
  split at p3
  case h_2 => exact p3.elim
  rename_i ho
  split at p3
  case isFalse => exact p3.elim
  rename_i hk
  obtain ⟨aa, ws, rfl, hn, hH, rk⟩ := dic_at rl3 (RV.ext rl2 e3 rx) ho
  obtain ⟨k, rfl⟩ := key_of ry hk.1
  have rd := RV.ext rl2 e3 (RV.ext rl1 e2 r)
  have off : H3 aa = none ∨ (H3 aa = some (.dK ws) ∧ (∀ z, HO.dK ws ≠ .tup z) ∧ ∀ y z, HO.dK ws ≠ .frz y z) := .inr ⟨hH, fun _ => nofun, fun _ _ => nofun⟩
  obtain ⟨rl4, e4⟩ := rl3.put (o := .dK (putK ws k v)) hn (m := .dic (putD _ _ _)) ⟨_, upd_same, (RK.put ry rd rk).mono (fun _ _ => SqT.off off) (fun _ _ => RoL.off off) fun _ _ z => z⟩
  exact ⟨aa, _, rfl, DPut.k hH (by rw [← RK.length rk]; exact Nat.lt_trans hk.2 (by decide)), p3 μ3 σ _ e4 rl4 (re3.ext rl3 e4)⟩

/-- a display's pairs -/
def rdP (K : PySem.W.Frag) (mg : Str → Option Value) (W : WX) (m : MP) (ts : List (TE × TE)) : Prop := ∀ (σ : L2.St) (H : Hp) (Q : List (V × V) → Hp → Prop), (∃ μ ρ mh, RE K μ H ρ σ ∧ Rl K mg μ H mh ∧ PostR K mg (fun μ H ds vs => ds.length = vs.length ∧ RVs K μ H (ds.map (·.1)) (vs.map (·.1)) ∧ RVs K μ H (ds.map (·.2)) (vs.map (·.2))) (fun cls d H => W cls d σ H) μ H (m ρ mh) Q) → tPairs ts σ H Q
structure SPs (W : WX) (X : Cx) (pos : Pos) (keys : List (Option Expr)) (values : List Expr) (m : MP) : Prop where
  ex : ∃ ts, PPs X pos keys values ts ∧ rdP X.K X.mg W m ts
theorem sps_nil : SPs W X pos [] [] pNil := ⟨[], pps_nil, fun σ H Q ⟨μ, ρ, mh, re, rl, p⟩ => p μ [] H (.refl _ _) rl ⟨rfl, .nil, .nil⟩⟩
theorem sps_cons {ks : List (Option Expr)} {vs : List Expr} {m : MP} (hk : SE W X a ma) (hv : SE W X b mb) (h : SPs W X pos ks vs m) : SPs W X pos (some a :: ks) (b :: vs) (pCons ma mb m) := by
  obtain ⟨ts, h1, h2⟩ := h.ex
  refine ⟨_, pps_cons hk hv h1, fun σ H Q ⟨μ, ρ, mh, re, rl, p⟩ => ⟨μ, ρ, mh, re, rl, (PostR.bind (rel := relV X.K) p).mono fun v H1 ⟨μ1, x, mh1, e1, rl1, rx, p1⟩ => ?_⟩⟩
  refine ⟨μ1, ρ, mh1, re.ext rl e1, rl1, (PostR.bind (rel := relV X.K) p1).mono fun u H2 ⟨μ2, y, mh2, e2, rl2, ry, p2⟩ => ?_⟩
  refine h2 σ H2 _ ⟨μ2, ρ, mh2, (re.ext rl e1).ext rl1 e2, rl2, (PostR.bind p2).mono fun ps H3 ⟨μ3, ds, mh3, e3, rl3, rs, p3⟩ => ?_⟩
  exact p3 μ3 _ H3 (.refl _ _) rl3 ⟨by rw [List.length_cons, List.length_cons, rs.1], .cons (RV.ext rl2 e3 (RV.ext rl1 e2 rx)) rs.2.1, .cons (RV.ext rl2 e3 ry) rs.2.2⟩
theorem mergeK_nd : ∀ (kvs acc : List (Key × V)), ((acc ++ kvs).map (·.1)).Nodup → mergeK acc kvs = acc ++ kvs
  | [], acc, _ => by rw [List.append_nil]; rfl
  | (k, v) :: kvs, acc, h => by
    show mergeK (putK acc k v) kvs = _
    have nk : (acc.any fun kv => decide (kv.1 = k)) = false := by
      rw [List.any_eq_false]
      intro p hp z
      have e := of_decide_eq_true z
      rw [List.map_append, List.nodup_append] at h
      exact h.2.2 p.1 (List.mem_map.mpr ⟨p, hp, rfl⟩) k (by simp) e
    have e : putK acc k v = acc ++ [(k, v)] := by
      unfold putK
      rw [nk]
      rfl
    rw [e, mergeK_nd kvs (acc ++ [(k, v)]) (by rw [List.append_assoc]; exact h), List.append_assoc]
    rfl
theorem disp_rel {μ : List Addr} {H : Hp} : ∀ {ds : List (D × D)} {ps : List (V × V)}, ds.length = ps.length → RVs K μ H (ds.map (·.1)) (ps.map (·.1)) → RVs K μ H (ds.map (·.2)) (ps.map (·.2)) → (ds.all fun p => isKey p.1) = true →
    ∃ kvs : List (Key × V), ps = kvs.map (fun kv => (kV kv.1, kv.2)) ∧ RK K μ H ds kvs
  | [], [], _, _, _, _ => ⟨[], rfl, trivial⟩
  | (k, d) :: ds, (x, y) :: ps, hl, h1, h2, hk => by
    rw [List.map_cons, List.map_cons] at h1 h2
    cases h1 with
    | cons a1 b1 => cases h2 with
      | cons a2 b2 =>
        rw [List.all_cons, Bool.and_eq_true] at hk
        obtain ⟨kvs, e, rk⟩ := disp_rel (by simpa using hl) b1 b2 hk.2
        obtain ⟨q, e2⟩ := key_of a1 hk.1
        have e2 : x = kV q := e2
        subst e2
        subst e
        exact ⟨(q, y) :: kvs, rfl, a1, a2, rk⟩
  | [], _ :: _, hl, _, _, _ => by simp at hl
  | _ :: _, [], hl, _, _, _ => by simp at hl
theorem rk_nodup {μ : List Addr} {H : Hp} : ∀ {ds : List (D × D)} {ws : List (Key × V)}, RK K μ H ds ws → (ds.map (·.1)).Nodup → (ws.map (·.1)).Nodup
  | [], [], _, _ => List.nodup_nil
  | (k, d) :: ds, (q, v) :: ws, h, nd => by
    rw [List.map_cons, List.nodup_cons] at nd ⊢
    refine ⟨fun hm => nd.1 ?_, rk_nodup h.2.2 nd.2⟩
    have mem : ∀ {ds : List (D × D)} {ws : List (Key × V)}, RK K μ H ds ws → q ∈ ws.map (·.1) → k ∈ ds.map (·.1) := by
      intro ds
      induction ds with
      | nil => intro ws r hm; cases ws with
        | nil => simp at hm
        | cons _ _ => exact r.elim
      | cons dd ds ih =>
        intro ws r hm
        cases ws with
        | nil => exact r.elim
        | cons w ws =>
          obtain ⟨a, b⟩ := dd
          obtain ⟨a', b'⟩ := w
          rw [List.map_cons, List.mem_cons] at hm ⊢
          rcases hm with hm | hm
          · exact .inl ((key_eq h.1 r.1).mpr hm)
          · exact .inr (ih r.2.2 hm)
    exact mem h.2.2 hm
  | [], _ :: _, h, _ => h.elim
  | _ :: _, [], h, _ => h.elim
theorem se_dict {keys : List (Option Expr)} {values : List Expr} {m : MP} (h : SPs W X pos keys values m) (hall : keys.all (·.isSome) = true := by rfl) (hl : keys.length = values.length := by rfl) (h0 : keys ≠ [] := by simp) (h15 : keys.length ≤ 15 := by decide) : SE W X (.Dict keys values pos) (eDict m) := by
  obtain ⟨ts, h1, h2⟩ := h.ex
  refine (pe_disp h1 hall hl h0 h15).weak fun σ H Q ⟨μ, ρ, mh, re, rl, p⟩ => fun q hq => ?_
  have nq : q ∉ μ := rl.fresh hq
  have e0 : Ext μ H μ (upd H q (.dK [])) := Ext.upd hq
  refine h2 σ _ _ ⟨μ, ρ, mh, re.ext rl e0, rl.upd_new hq, ?_⟩
  unfold eDict at p
  cases hm : m ρ mh with
  | stuck => rw [hm] at p; exact p.elim
  | exc c fs mh1 => rw [hm] at p; exact fun μ' H' cls d e r x => p μ' H' cls d (e0.trans e) r x
  | ok ds mh1 =>
    rw [hm] at p
    simp only [bind_ok] at p
    split at p
    case isFalse => exact p.elim
    rename_i hc
    intro μ1 ps H1 e1 rl1 rs
    obtain ⟨kvs, rfl, rk⟩ := disp_rel rs.1 rs.2.1 rs.2.2 hc.2.1
    have hq1 : H1 q = some (.dK []) := e1.keep _ _ upd_same nq
    have nq1 : q ∉ μ1 := fun hm' => by
      have z := e1.new q hm' nq
      rw [upd_same] at z
      cases z
    have hmerge : mergeK [] kvs = kvs := mergeK_nd kvs [] (rk_nodup rk hc.2.2)
    have off : H1 q = none ∨ (H1 q = some (.dK []) ∧ (∀ z, HO.dK [] ≠ .tup z) ∧ ∀ y z, HO.dK [] ≠ .frz y z) := .inr ⟨hq1, fun _ => nofun, fun _ _ => nofun⟩
    refine ⟨hq1, kvs, rfl, by rw [← RK.length rk]; exact hc.1, ?_⟩
    rw [hmerge]
    refine p (μ1 ++ [q]) (.ref q) _ ⟨e1.pre.trans (List.prefix_append _ _), fun a u h hn => ?_, fun a h hn => ?_⟩ ((rl1.off off nq1).take nq1 ⟨kvs, upd_same, rk.mono (fun _ _ => SqT.off off) (fun _ _ => RoL.off off) fun k a z => by rw [List.getElem?_append_left (List.getElem?_eq_some_iff.mp z).1]; exact z⟩) (.loc ?_)
    · have na := ne_of_none h hq
      rw [upd_ne na]
      exact e1.keep a u (by rw [upd_ne na]; exact h) hn
    · rcases List.mem_append.mp h with h | h
      · have z := e1.new a h hn
        rw [upd_ne (show a ≠ q from fun y => nq1 (by rw [← y]; exact h))] at z
        exact z
      · rw [List.mem_singleton.mp h]; exact hq
    · rw [← rl1.len, List.getElem?_append_right (Nat.le_refl _), Nat.sub_self]
      rfl
end
end Mir
set_option Elab.async false
set_option linter.all false
set_option maxRecDepth 100000
set_option autoImplicit false
/-! Mirror: built-in functions, methods, what is walked, f-strings. -/
namespace Mir
open PySem PySem.Spec PyProof.Rows L2

def intTx (i : Int) : List Nat := (Str.ofString (toString i)).cps.toList
def boolsD : List D → Option (List Bool)
  | [] => some []
  | .bl b :: r => (boolsD r).map (b :: ·)
  | _ => none
def intsD : List D → Option (List Int)
  | [] => some []
  | .int b :: r => (intsD r).map (b :: ·)
  | _ => none
def strsD : List D → Option (List (List Nat))
  | [] => some []
  | .str b :: r => (strsD r).map (b :: ·)
  | _ => none
/-- the items of a sequence that is read -/
def itemsD (x : D) (h : MH) : Option (List D) := match x with
  | .tup ds => some ds
  | .rl ds => some ds
  | .loc n => match h[n]? with
    | some (.lst ds) => some ds
    | _ => none
  | _ => none
def fLen : MF := fun xs h => match xs with
  | [.str s] => if s.length ≤ 100000 then .ok (.int s.length) h else .stuck
  | [x] => match itemsD x h with
    | some ds => .ok (.int ds.length) h
    | none => match x with
      | .loc n => match h[n]? with
        | some (.dic kvs) => .ok (.int kvs.length) h
        | _ => .stuck
      | _ => .stuck
  | _ => .stuck
def fAbs : MF := fun xs h => match xs with
  | [.int i] => .ok (.int (if i < 0 then -i else i)) h
  | _ => .stuck
def fMax2 : MF := fun xs h => match xs with
  | [.int i, .int j] => .ok (.int (if j > i then j else i)) h
  | _ => .stuck
def fMin2 : MF := fun xs h => match xs with
  | [.int i, .int j] => .ok (.int (if j < i then j else i)) h
  | _ => .stuck
def fInt : MF := fun xs h => match xs with
  | [.int i] => .ok (.int i) h
  | [.bl k] => .ok (.int (if k then 1 else 0)) h
  | [.str s] => match PySem.intText? (tx s) with
    | some n => if s.length ≤ 640 then .ok (.int n) h else .stuck
    | none => .stuck
  | _ => .stuck
def fStr : MF := fun xs h => match xs with
  | [.int i] => if i.natAbs.log2 < 1920 then .ok (.str (intTx i)) h else .stuck
  | [.str s] => .ok (.str s) h
  | _ => .stuck
def reprOf (d : D) (h : MH) : Option (List Nat) := match toPy 66 h d with
  | some p => if p.showable = true ∧ p.shown.length ≤ sizeLine ∧ p.depth ≤ 66 ∧ p.hasDict = false then some p.shown.cps.toList else none
  | none => none
def fRepr : MF := fun xs h => match xs with
  | [d] => match reprOf d h with
    | some s => .ok (.str s) h
    | none => .stuck
  | _ => .stuck
def fAll : MF := fun xs h => match xs with
  | [.loc n] => match h[n]? with
    | some (.lst ds) => match boolsD ds with
      | some bs => .ok (.bl (bs.all id)) h
      | none => .stuck
    | _ => .stuck
  | _ => .stuck
def fAny : MF := fun xs h => match xs with
  | [.loc n] => match h[n]? with
    | some (.lst ds) => match boolsD ds with
      | some bs => .ok (.bl (bs.any id)) h
      | none => .stuck
    | _ => .stuck
  | _ => .stuck
def fSum : MF := fun xs h => match xs with
  | [.loc n] => match h[n]? with
    | some (.lst ds) => match intsD ds with
      | some bs => .ok (.int bs.sum) h
      | none => .stuck
    | _ => .stuck
  | _ => .stuck
def fTuple : MF := fun xs h => match xs with
  | [.tup ds] => .ok (.tup ds) h
  | [x] => match itemsD x h with
    | some ds => .ok (.tup ds) h
    | none => .stuck
  | _ => .stuck
def fList : MF := fun xs h => match xs with
  | [x] => match itemsD x h with
    | some ds => .ok (.loc h.length) (h ++ [.lst ds])
    | none => .stuck
  | _ => .stuck
def tyN (d : D) (h : MH) : Option String := match d with
  | .non => some "NoneType"
  | .bl _ => some "bool"
  | .int _ => some "int"
  | .str _ => some "str"
  | .tup _ => some "tuple"
  | .rl _ => some "list"
  | .loc n => match h[n]? with
    | some (.lst _) => some "list"
    | some (.dic _) => some "dict"
    | _ => none
def isT (T a : String) : Bool := a == T || (a == "bool" && T == "int")
def mIsi (T : String) (d : D) (h : MH) : R D := match tyN d h with
  | some a => .ok (.bl (isT T a)) h
  | none => .stuck
/-! methods -/
abbrev MM := D → List D → MH → R D
def eMth (chk : D → MH → Bool) (f : MM) (o : ME) (as : MA) : ME := fun ρ h => (o ρ h).bind fun x h1 => if chk x h1 = true then (as ρ h1).bind fun ds h2 => f x ds h2 else .stuck
def isLst (x : D) (h : MH) : Bool := match x with
  | .loc n => match h[n]? with
    | some (.lst _) => true
    | _ => false
  | _ => false
def isStr (x : D) (_ : MH) : Bool := match x with
  | .str _ => true
  | _ => false
def yAppend : MM := fun x ds h => match x, ds with
  | .loc n, [d] => match h[n]? with
    | some (.lst xs) => if xs.length < 100000 then .ok .non (h.set n (.lst (xs ++ [d]))) else .stuck
    | _ => .stuck
  | _, _ => .stuck
def yPop : MM := fun x ds h => match x, ds with
  | .loc n, [] => match h[n]? with
    | some (.lst xs) => match xs[xs.length - 1]? with
      | some d => .ok d (h.set n (.lst xs.dropLast))
      | none => .stuck
    | _ => .stuck
  | _, _ => .stuck
def yExtend : MM := fun x ds h => match x, ds with
  | .loc n, [.loc m] => match h[n]?, h[m]? with
    | some (.lst xs), some (.lst ys) => if xs.length + ys.length ≤ 100000 then .ok .non (h.set n (.lst (xs ++ ys))) else .stuck
    | _, _ => .stuck
  | _, _ => .stuck
def joinT (sep : List Nat) : List (List Nat) → List Nat
  | [] => []
  | [x] => x
  | x :: y :: r => x ++ sep ++ joinT sep (y :: r)
def yJoin : MM := fun x ds h => match x, ds with
  | .str s, [y] => match itemsD y h with
    | some zs => match strsD zs with
      | some ys => if (ys.map (·.length)).sum + ys.length * s.length ≤ 1000000 then .ok (.str (joinT s ys)) h else .stuck
      | none => .stuck
    | none => .stuck
  | _, _ => .stuck
/-! what is walked -/
def mIter (x : D) (h : MH) : R Itb := match x with
  | .tup ds => .ok ⟨ds, []⟩ h
  | .rl ds => .ok ⟨ds, []⟩ h
  | .str s => .ok ⟨s.map fun c => .str [c], []⟩ h
  | .loc n => match h[n]? with
    | some (.lst ds) => .ok ⟨ds, [(n, .lst ds)]⟩ h
    | _ => .stuck
  | _ => .stuck
def iAny (e : ME) : MI := fun ρ h => (e ρ h).bind mIter
def rng (lo : Int) (n : Nat) : List D := (List.range n).map fun k => .int (lo + (k : Nat))
def iRange1 (as : MA) : MI := fun ρ h => (as ρ h).bind fun ds h1 => match ds with
  | [.int j] => if -100000000 < j ∧ j < 100000000 then .ok ⟨rng 0 j.toNat, []⟩ h1 else .stuck
  | _ => .stuck
def iRange2 (as : MA) : MI := fun ρ h => (as ρ h).bind fun ds h1 => match ds with
  | [.int i, .int j] => if (-100000000 < i ∧ i < 100000000) ∧ -100000000 < j ∧ j < 100000000 then .ok ⟨rng i (j - i).toNat, []⟩ h1 else .stuck
  | _ => .stuck
def zipD (xs ys : List D) : List D := (xs.zip ys).map fun p => .tup [p.1, p.2]
def iZip (as : MA) : MI := fun ρ h => (as ρ h).bind fun ds h1 => match ds with
  | [.tup xs, .tup ys] => .ok ⟨zipD xs ys, []⟩ h1
  | [.loc a, .loc b] => match h1[a]?, h1[b]? with
    | some (.lst xs), some (.lst ys) => .ok ⟨zipD xs ys, [(a, .lst xs), (b, .lst ys)]⟩ h1
    | _, _ => .stuck
  | _ => .stuck
/-! f-strings -/
def eFmt (e : ME) : ME := fun ρ h => (e ρ h).bind fun x h1 => match x with
  | .str s => if s.length ≤ 100000 then .ok (.str s) h1 else .stuck
  | .int i => if i.natAbs.log2 < 1920 then .ok (.str (intTx i)) h1 else .stuck
  | _ => .stuck
def jGo : List ME → List Nat → ME
  | [], acc => fun _ h => .ok (.str acc) h
  | e :: es, acc => fun ρ h => (e ρ h).bind fun x h1 => match x with
    | .str s => if (acc ++ s).length ≤ 100000 then jGo es (acc ++ s) ρ h1 else .stuck
    | _ => .stuck
def eJoin (es : List ME) : ME := jGo es []

section
variable {K : PySem.W.Frag} {mg : Str → Option Value} {W : WX} {X : Cx} {n : Nat} {e o a b c i : Expr} {es : List Expr} {pos p apos : Pos} {ma mb mc mo mi : ME} {mas : MA}
theorem tx_int (i : Int) : tx (intTx i) = Str.ofString (toString i) := by
  unfold intTx
  show (⟨(Str.ofString (toString i)).cps.toList.toArray⟩ : Str) = _
  simp
theorem se_blt {id : String} {r : List V → Hp → VK → Prop} {f : MF} {x : Str} (hc : CallR X (.builtin id) r) (hf : OpN X.K X.mg r f) (hg : Gl X x) (hm : X.mg x = none) (hv : bootBuiltins x = some (.builtin id)) (ha : SA W X (e :: es) mas)
    (hn : x ≠ "__name__" := by decide) (hdb : (x == ("__debug__" : Str)) = false := by decide) (he : starEach (e :: es) X.env = (false, eval e X.env) :: starEach es X.env := by rfl) (hpl : (backTo pos (starEach es X.env)).any (·.1) = false := by rfl) :
    SE W X (.Call (.Name x p) (e :: es) [] pos) (eApp f mas) := (pe_callB hc hg hm hv ha hn hdb he hpl).weak fun σ H Q h => rdN hf σ H Q h
theorem se_ty {id : String} {r : List V → Hp → VK → Prop} {f : MF} {x : Str} (hc : CallR X (.type id) r) (hf : OpN X.K X.mg r f) (hg : Gl X x) (hm : X.mg x = none) (hv : bootBuiltins x = some (.type id)) (ha : SA W X (e :: es) mas)
    (hn : x ≠ "__name__" := by decide) (hdb : (x == ("__debug__" : Str)) = false := by decide) (he : starEach (e :: es) X.env = (false, eval e X.env) :: starEach es X.env := by rfl) (hpl : (backTo pos (starEach es X.env)).any (·.1) = false := by rfl) :
    SE W X (.Call (.Name x p) (e :: es) [] pos) (eApp f mas) := (pe_callTy hc hg hm hv ha hn hdb he hpl).weak fun σ H Q h => rdN hf σ H Q h
theorem items_at {μ : List Addr} {H : Hp} {mh : MH} {x : D} {v : V} {ds : List D} (rl : Rl K mg μ H mh) (r : RV K μ H x v) (h : itemsD x mh = some ds) : ∃ a vs, v = .ref a ∧ (SqL K H a vs ∨ SqT K H a vs) ∧ RVs K μ H ds vs := by
  unfold itemsD at h
  split at h
  · cases h
    cases r with
    | tup hT rs => exact ⟨_, _, rfl, .inr hT, rs⟩
  · cases h
    cases r with
    | rl hT rs => exact ⟨_, _, rfl, .inl hT.sq, rs⟩
  · split at h
    · cases h
      rename_i ho
      obtain ⟨a, vs, rfl, _, hH, rs⟩ := lst_at rl r ho
      exact ⟨a, vs, rfl, .inl (.of hH), rs⟩
    · cases h
  · cases h
theorem one_v {μ : List Addr} {H : Hp} {d : D} {vs : List V} (r : RVs K μ H [d] vs) : ∃ v, vs = [v] ∧ RV K μ H d v := by
  cases r with
  | cons r1 r2 => cases r2; exact ⟨_, rfl, r1⟩
theorem two_v {μ : List Addr} {H : Hp} {d e : D} {vs : List V} (r : RVs K μ H [d, e] vs) : ∃ v u, vs = [v, u] ∧ RV K μ H d v ∧ RV K μ H e u := by
  cases r with
  | cons r1 r2 => obtain ⟨u, rfl, q⟩ := one_v r2; exact ⟨_, u, rfl, r1, q⟩
def rLenA (K : PySem.W.Frag) : List V → Hp → VK → Prop := fun xs H Q => (fun xs H Q => (∃ z, xs = [.str z] ∧ z.length ≤ sizeLine ∧ Q (.int z.length) H) ∨ (∃ p ys, xs = [.ref p] ∧ (SqL K H p ys ∨ SqT K H p ys) ∧ Q (.int ys.length) H)) xs H Q ∨ (∃ a kvs, xs = [V.ref a] ∧ H a = some (.dK kvs) ∧ Q (.int kvs.length) H)
theorem c_len : CallR X (.builtin "len") (rLenA X.K) := (call_len_str.or call_len_seq).or call_lenD
theorem o_len : OpN K mg (rLenA K) fLen := by
  intro W μ H mh xs vs Q rl rx p
  unfold fLen at p
  split at p
  · obtain ⟨v, rfl, r⟩ := one_v rx
    cases r
    split at p
    case isFalse => exact p.elim
    rename_i hl
    exact .inl (.inl ⟨_, rfl, by rw [tx_len]; exact big_line hl, by rw [tx_len]; exact fin rl p (.int _)⟩)
  · obtain ⟨v, rfl, r⟩ := one_v rx
    split at p
    · rename_i hi
      obtain ⟨a, ws, rfl, hs, rs⟩ := items_at rl r hi
      refine .inl (.inr ⟨a, ws, rfl, hs, ?_⟩)
      rw [← rs.length]
      exact fin rl p (.int _)
    · split at p
      · split at p
        · rename_i ho
          obtain ⟨a, ws, rfl, _, hH, rk⟩ := dic_at rl r ho
          refine .inr ⟨a, ws, rfl, hH, ?_⟩
          rw [← RK.length rk]
          exact fin rl p (.int _)
        · exact p.elim
      · exact p.elim
  · exact p.elim
theorem o_abs : OpN K mg (fun xs H Q => ∃ i, xs = [.int i] ∧ Q (.int (if i < 0 then -i else i)) H) fAbs := by
  intro W μ H mh xs vs Q rl rx p
  unfold fAbs at p
  split at p
  · obtain ⟨v, rfl, r⟩ := one_v rx
    cases r
    exact ⟨_, rfl, fin rl p (.int _)⟩
  · exact p.elim
theorem o_max2 : OpN K mg (fun xs H Q => ∃ i j, xs = [.int i, .int j] ∧ Q (.int (if j > i then j else i)) H) fMax2 := by
  intro W μ H mh xs vs Q rl rx p
  unfold fMax2 at p
  split at p
  · obtain ⟨v, u, rfl, r, q⟩ := two_v rx
    cases r; cases q
    exact ⟨_, _, rfl, fin rl p (.int _)⟩
  · exact p.elim
theorem o_min2 : OpN K mg (fun xs H Q => ∃ i j, xs = [.int i, .int j] ∧ Q (.int (if j < i then j else i)) H) fMin2 := by
  intro W μ H mh xs vs Q rl rx p
  unfold fMin2 at p
  split at p
  · obtain ⟨v, u, rfl, r, q⟩ := two_v rx
    cases r; cases q
    exact ⟨_, _, rfl, fin rl p (.int _)⟩
  · exact p.elim
def rIntA : List V → Hp → VK → Prop := fun xs H Q => ((∃ i, xs = [.int i] ∧ Q (.int i) H) ∨ ∃ k, xs = [.bl k] ∧ Q (.int (if k then 1 else 0)) H) ∨ (∃ a n, xs = [.str a] ∧ PySem.intText? a = some n ∧ a.length ≤ 640 ∧ Q (.int n) H)
theorem c_int : CallR X (.type "int") rIntA := CallR.or call_int1 call_int_str
theorem o_int : OpN K mg rIntA fInt := by
  intro W μ H mh xs vs Q rl rx p
  unfold fInt at p
  split at p
  · obtain ⟨v, rfl, r⟩ := one_v rx
    cases r
    exact .inl (.inl ⟨_, rfl, fin rl p (.int _)⟩)
  · obtain ⟨v, rfl, r⟩ := one_v rx
    cases r
    exact .inl (.inr ⟨_, rfl, fin rl p (.int _)⟩)
  · obtain ⟨v, rfl, r⟩ := one_v rx
    cases r
    split at p
    case h_2 => exact p.elim
    rename_i hn
    split at p
    case isFalse => exact p.elim
    rename_i hl
    exact .inr ⟨_, _, rfl, hn, by rw [tx_len]; exact hl, fin rl p (.int _)⟩
  · exact p.elim
def rStrA : List V → Hp → VK → Prop := fun xs H Q => (∃ i, xs = [.int i] ∧ i.natAbs.log2 < 1920 ∧ Q (.str (toString i)) H) ∨ (∃ a, xs = [.str a] ∧ Q (.str a) H)
theorem c_str : CallR X (.type "str") rStrA := call_str_int.or SkE.call_str_str
theorem o_str : OpN K mg rStrA fStr := by
  intro W μ H mh xs vs Q rl rx p
  unfold fStr at p
  split at p
  · obtain ⟨v, rfl, r⟩ := one_v rx
    cases r
    split at p
    case isFalse => exact p.elim
    rename_i hl
    refine .inl ⟨_, rfl, hl, ?_⟩
    rw [← tx_int]
    exact fin rl p (.str _)
  · obtain ⟨v, rfl, r⟩ := one_v rx
    cases r
    exact .inr ⟨_, rfl, fin rl p (.str _)⟩
  · exact p.elim
/-- repr -/
def rRepr (K : PySem.W.Frag) : List V → Hp → VK → Prop := fun xs H Q => ∃ x d, xs = [x] ∧ Dp K H x d ∧ d.showable = true ∧ d.shown.length ≤ sizeLine ∧ d.depth ≤ 66 ∧ d.hasDict = false ∧ Q (.str d.shown) H
theorem c_repr (ok : Ok W n X) : CallR X (.builtin "repr") (rRepr X.K) := by
  intro pins s σ H xs us Q I rx h
  obtain ⟨x, d, rfl, hd, hs, hz, hdep, hnd, q⟩ := h
  cases rx with
  | cons r rr =>
    cases rr
    rename_i u
    obtain ⟨as, rd⟩ := Dp.reads I d x u hd r
    have fz : ∀ h' tk (t : Tok), (∀ b o, s.heap.get? b = some o → h'.get? b = some o) → EP X pins σ Q (.str d.shown t) { s with heap := h', toks := tk } := fun h' tk t hk => ⟨.str d.shown, H, I.kept (t' := tk) hk, ⟨_, rfl⟩, q⟩
    cases hd with
    | non => cases r; exact P.repr_of_none (fz s.heap _ _ fun _ _ z => z)
    | bl b => cases r; exact P.repr_of_bool (by cases b <;> exact fz s.heap _ _ fun _ _ z => z)
    | int i =>
      obtain ⟨t, rfl⟩ := r
      exact P.repr_of_int (by simpa [PyData.showable] using hs) (fz s.heap _ _ fun _ _ z => z)
    | str y =>
      obtain ⟨t, rfl⟩ := r
      exact P.repr_of_str (fz s.heap _ _ fun _ _ z => z) (by simpa [PyData.shown] using hz)
    | lst h1 h2 =>
      cases r
      exact repr_of_reads' rd hs (PyData.noDict_hsm hnd) ok.guards (by have := ok.room.un; omega) (fun _ _ z => z) (fun h' u tk hk => fz h' tk u hk) hz
    | tup h1 h2 =>
      cases r
      exact repr_of_reads' rd hs (PyData.noDict_hsm hnd) ok.guards (by have := ok.room.un; omega) (fun _ _ z => z) (fun h' u tk hk => fz h' tk u hk) hz
theorem o_repr : OpN K mg (rRepr K) fRepr := by
  intro W μ H mh xs vs Q rl rx p
  unfold fRepr at p
  split at p
  case h_2 => exact p.elim
  obtain ⟨v, rfl, r⟩ := one_v rx
  unfold reprOf at p
  split at p
  case h_2 => exact p.elim
  rename_i hr
  split at hr
  case h_2 => cases hr
  rename_i pd hp
  split at hr
  case isFalse => cases hr
  rename_i hc
  cases hr
  refine ⟨v, pd, rfl, toPy_dp rl 66 _ v pd r hp, hc.1, hc.2.1, hc.2.2.1, hc.2.2.2, ?_⟩
  have e : pd.shown = tx pd.shown.cps.toList := by show _ = (⟨pd.shown.cps.toList.toArray⟩ : Str); simp
  rw [e]
  exact fin rl p (.str _)
theorem bools_v {μ : List Addr} {H : Hp} : ∀ {ds : List D} {vs : List V} {bs : List Bool}, RVs K μ H ds vs → boolsD ds = some bs → vs = bs.map V.bl
  | [], _, _, .nil, h => by cases h; rfl
  | .bl b :: ds, _, bs, .cons r rr, h => by
    unfold boolsD at h
    rw [Option.map_eq_some_iff] at h
    obtain ⟨bs', h1, rfl⟩ := h
    cases r
    rw [bools_v rr h1]
    rfl
  | .non :: _, _, _, _, h => by cases h
  | .int _ :: _, _, _, _, h => by cases h
  | .str _ :: _, _, _, _, h => by cases h
  | .tup _ :: _, _, _, _, h => by cases h
  | .rl _ :: _, _, _, _, h => by cases h
  | .loc _ :: _, _, _, _, h => by cases h
theorem intsD_v {μ : List Addr} {H : Hp} : ∀ {ds : List D} {vs : List V} {bs : List Int}, RVs K μ H ds vs → intsD ds = some bs → vs = bs.map V.int
  | [], _, _, .nil, h => by cases h; rfl
  | .int b :: ds, _, bs, .cons r rr, h => by
    unfold intsD at h
    rw [Option.map_eq_some_iff] at h
    obtain ⟨bs', h1, rfl⟩ := h
    cases r
    rw [intsD_v rr h1]
    rfl
  | .non :: _, _, _, _, h => by cases h
  | .bl _ :: _, _, _, _, h => by cases h
  | .str _ :: _, _, _, _, h => by cases h
  | .tup _ :: _, _, _, _, h => by cases h
  | .rl _ :: _, _, _, _, h => by cases h
  | .loc _ :: _, _, _, _, h => by cases h
theorem strs_v {μ : List Addr} {H : Hp} : ∀ {ds : List D} {vs : List V} {bs : List (List Nat)}, RVs K μ H ds vs → strsD ds = some bs → vs = (bs.map tx).map V.str
  | [], _, _, .nil, h => by cases h; rfl
  | .str b :: ds, _, bs, .cons r rr, h => by
    unfold strsD at h
    rw [Option.map_eq_some_iff] at h
    obtain ⟨bs', h1, rfl⟩ := h
    cases r
    rw [strs_v rr h1]
    rfl
  | .non :: _, _, _, _, h => by cases h
  | .bl _ :: _, _, _, _, h => by cases h
  | .int _ :: _, _, _, _, h => by cases h
  | .tup _ :: _, _, _, _, h => by cases h
  | .rl _ :: _, _, _, _, h => by cases h
  | .loc _ :: _, _, _, _, h => by cases h
theorem o_all : OpN K mg (rAll K) fAll := by
  intro W μ H mh xs vs Q rl rx p
  unfold fAll at p
  split at p
  case h_2 => exact p.elim
  split at p
  case h_2 => exact p.elim
  rename_i ho
  split at p
  case h_2 => exact p.elim
  rename_i hb
  obtain ⟨v, rfl, r⟩ := one_v rx
  obtain ⟨a, ws, rfl, _, hH, rs⟩ := lst_at rl r ho
  have e := bools_v rs hb
  subst e
  exact ⟨a, _, rfl, .of hH, fin rl p (.bl _)⟩
theorem o_any : OpN K mg (rAny K) fAny := by
  intro W μ H mh xs vs Q rl rx p
  unfold fAny at p
  split at p
  case h_2 => exact p.elim
  split at p
  case h_2 => exact p.elim
  rename_i ho
  split at p
  case h_2 => exact p.elim
  rename_i hb
  obtain ⟨v, rfl, r⟩ := one_v rx
  obtain ⟨a, ws, rfl, _, hH, rs⟩ := lst_at rl r ho
  have e := bools_v rs hb
  subst e
  exact ⟨a, _, rfl, .of hH, fin rl p (.bl _)⟩
theorem o_sum : OpN K mg (rSum K) fSum := by
  intro W μ H mh xs vs Q rl rx p
  unfold fSum at p
  split at p
  case h_2 => exact p.elim
  split at p
  case h_2 => exact p.elim
  rename_i ho
  split at p
  case h_2 => exact p.elim
  rename_i hb
  obtain ⟨v, rfl, r⟩ := one_v rx
  obtain ⟨a, ws, rfl, _, hH, rs⟩ := lst_at rl r ho
  have e := intsD_v rs hb
  subst e
  exact ⟨a, _, rfl, .of hH, fin rl p (.int _)⟩
theorem o_tuple : OpN K mg (fun xs H Q => ∃ p ys, xs = [.ref p] ∧ ((SqL K H p ys ∧ ∀ l, H l = none → Q (.ref l) (upd H l (.tup ys))) ∨ (SqT K H p ys ∧ Q (.ref p) H))) fTuple := by
  intro W μ H mh xs vs Q rl rx p
  unfold fTuple at p
  split at p
  · obtain ⟨v, rfl, r⟩ := one_v rx
    cases r with
    | tup hT rs => exact ⟨_, _, rfl, .inr ⟨hT, fin rl p (.tup hT rs)⟩⟩
  · obtain ⟨v, rfl, r⟩ := one_v rx
    split at p
    case h_2 => exact p.elim
    rename_i hi
    obtain ⟨a, ws, rfl, hs, rs⟩ := items_at rl r hi
    rcases hs with hs | hs
    · exact ⟨a, ws, rfl, .inl ⟨hs, fin_tup rl p rs⟩⟩
    · exact ⟨a, ws, rfl, .inr ⟨hs, fin rl p (.tup hs rs)⟩⟩
  · exact p.elim
theorem o_list : OpN K mg (fun xs H Q => ∃ p ys, xs = [.ref p] ∧ (SqL K H p ys ∨ SqT K H p ys) ∧ ∀ l, H l = none → Q (.ref l) (upd H l (.lst ys))) fList := by
  intro W μ H mh xs vs Q rl rx p
  unfold fList at p
  split at p
  · obtain ⟨v, rfl, r⟩ := one_v rx
    split at p
    case h_2 => exact p.elim
    rename_i hi
    obtain ⟨a, ws, rfl, hs, rs⟩ := items_at rl r hi
    exact ⟨a, ws, rfl, hs, fin_lst rl p rs⟩
  · exact p.elim
/-- isinstance(e, T), T a built-in type -/
theorem tyN_x {μ : List Addr} {H : Hp} {mh : MH} {d : D} {v : V} {t : String} (rl : Rl K mg μ H mh) (r : RV K μ H d v) (h : tyN d mh = some t) : TyX K H v (.type t) := by
  unfold tyN at h
  split at h
  · cases h; cases r; exact .base .non
  · cases h; cases r; exact .base (.bl _)
  · cases h; cases r; exact .base (.int _)
  · cases h; cases r; exact .base (.str _)
  · cases h
    cases r with
    | tup hT rs =>
      rcases hT with (hT | ⟨ob, hT⟩) | ⟨ob, its, k, h1, h2, _⟩
      · exact .base (.tup hT)
      · exact .fTuple hT
      · exact .kTuple h1 h2
  · cases h
    cases r with
    | rl hT rs =>
      rcases hT with ⟨ob, hT⟩ | ⟨ob, its, k, h1, h2, _⟩
      · exact .base (.frz hT)
      · exact .kList h1 h2
  · split at h
    · cases h
      rename_i ho
      obtain ⟨a, ws, rfl, _, hH, rs⟩ := lst_at rl r ho
      exact .base (.lst hH)
    · cases h
      rename_i ho
      obtain ⟨a, ws, rfl, _, hH, rs⟩ := dic_at rl r ho
      exact .base (.dK hH)
    · cases h
theorem se_isi (T : String) {px : Pos} (hg : Gl X "isinstance") (hm : X.mg "isinstance" = none) (hgT : Gl X (nm T)) (hmT : X.mg (nm T) = none) (ha : SE W X a ma) (hvT : bootBuiltins (nm T) = some (.type T) := by decide +kernel) (hnT : nm T ≠ "__name__" := by decide) (hdT : (nm T == ("__debug__" : Str)) = false := by decide)
    (hT : (["NoneType", "bool", "int", "str", "tuple", "list", "dict"].all fun t => decide (kitB t T = some (isT T t))) = true := by decide +kernel)
    (he : starEach [a, .Name (nm T) px] X.env = (false, eval a X.env) :: starEach [.Name (nm T) px] X.env := by rfl) (he2 : starEach [.Name (nm T) px] X.env = (false, eval (.Name (nm T) px) X.env) :: starEach [] X.env := by rfl) (hpl : (backTo pos (starEach [.Name (nm T) px] X.env)).any (·.1) = false := by rfl) :
    SE W X (.Call (.Name "isinstance" p) [a, .Name (nm T) px] [] pos) (eUn (mIsi T) ma) := by
  refine (pe_callB call_isi hg hm (by decide +kernel) (pa_cons ha (pa_cons (pe_bltn hgT hmT hvT (v := .ty T) rfl hnT hdT) pa_nil he2) he) (by decide) (by decide) he hpl).weak fun σ H Q h => rd1 (r := fun x H1 Q => rIsi X.K [x, .ty T] H1 Q) (fun W μ H mh x v Q rl r p => ?_) σ H Q h
  unfold mIsi at p
  split at p
  case h_2 => exact p.elim
  rename_i t ht
  refine ⟨v, .ty T, .type t, .type T, isT T t, rfl, .ty T, tyN_x rl r ht, kit_ty ?_, fin rl p (.bl _)⟩
  have mem : t ∈ ["NoneType", "bool", "int", "str", "tuple", "list", "dict"] := by
    unfold tyN at ht
    split at ht <;> first | (cases ht; simp) | (split at ht <;> first | (cases ht; simp) | cases ht)
  exact of_decide_eq_true (List.all_eq_true.mp hT t mem)

/-! ### methods of built-in types -/
def OpM (K : PySem.W.Frag) (mg : Str → Option Value) (r : V → List V → Hp → VK → Prop) (f : MM) : Prop :=
  ∀ (W : XK) (μ : List Addr) (H : Hp) (mh : MH) (x : D) (v : V) (xs : List D) (vs : List V) (Q : VK), Rl K mg μ H mh → RV K μ H x v → RVs K μ H xs vs → PostR K mg (relV K) W μ H (f x xs mh) Q → r v vs H Q
def Chk (K : PySem.W.Frag) (mg : Str → Option Value) (T : String) (chk : D → MH → Bool) : Prop := ∀ (μ : List Addr) (H : Hp) (mh : MH) (x : D) (v : V), Rl K mg μ H mh → RV K μ H x v → chk x mh = true → tyV K T v H
theorem chk_lst : Chk K mg "list" isLst := fun μ H mh x v rl r h => by
  unfold isLst at h
  split at h
  · split at h
    · rename_i ho
      obtain ⟨a, ws, rfl, _, hH, rs⟩ := lst_at rl r ho
      exact .inl ⟨rfl, ws, .of hH⟩
    · cases h
  · cases h
theorem chk_str : Chk K mg "str" isStr := fun μ H mh x v rl r h => by
  unfold isStr at h
  split at h
  · cases r; rfl
  · cases h
theorem se_bm {T id : String} {name : Str} {r : V → List V → Hp → VK → Prop} {chk : D → MH → Bool} {f : MM} (pa : PlainAttrs T) (slot : Slot T name id) (hty : typeOf (.builtin id) = pure (.type "method_descriptor")) (hm : MtR X id r) (hc : Chk X.K X.mg T chk) (hf : OpM X.K X.mg r f) (ho : SE W X o mo) (ha : SA W X (e :: es) mas)
    (hbase : attributeBase o name X.env (eval o X.env) = eval o X.env := by rfl)
    (hfew : ((backTo pos (starEach (e :: es) X.env)).all (fun x => !x.1) && (backToKw pos (keywordEach [] X.env)).all (fun x => x.1.isSome) && decide ((e :: es).length + ([] : List Keyword).length + (if ([] : List Keyword).isEmpty then 0 else 1) < 30)) = true := by rfl)
    (hline : (apos.endLine == pos.line) = true := by rfl) (hs : starEach (e :: es) X.env = (false, eval e X.env) :: starEach es X.env := by rfl) (hplain : (backTo pos (starEach es X.env)).any (·.1) = false := by rfl) :
    SE W X (.Call (.Attribute o name apos) (e :: es) [] pos) (eMth chk f mo mas) := by
  refine (pe_bm pa slot hty hm ho ha hbase hfew hline hs hplain).weak fun σ H Q ⟨μ, ρ, mh, re, rl, p⟩ => ⟨μ, ρ, mh, re, rl, (PostR.bind (rel := relV X.K) p).mono fun v H1 ⟨μ1, x, mh1, e1, rl1, rx, p1⟩ => ?_⟩
  split at p1
  case isFalse => exact p1.elim
  rename_i hck
  refine ⟨hc μ1 H1 mh1 x v rl1 rx hck, μ1, ρ, mh1, re.ext rl e1, rl1, (PostR.bind (rel := relVs X.K) p1).mono fun vs H2 ⟨μ2, xs, mh2, e2, rl2, rxs, p2⟩ => ?_⟩
  exact hf _ μ2 H2 mh2 x v xs vs Q rl2 (RV.ext rl1 e2 rx) rxs p2
theorem se_bm0 {T id : String} {name : Str} {r : V → List V → Hp → VK → Prop} {chk : D → MH → Bool} {f : MM} (pa : PlainAttrs T) (slot : Slot T name id) (hty : typeOf (.builtin id) = pure (.type "method_descriptor")) (hm : MtR X id r) (hc : Chk X.K X.mg T chk) (hf : OpM X.K X.mg r f) (ho : SE W X o mo)
    (hbase : attributeBase o name X.env (eval o X.env) = eval o X.env := by rfl) (hline : (apos.endLine == pos.line) = true := by rfl) : SE W X (.Call (.Attribute o name apos) [] [] pos) (eMth chk f mo aNil) := by
  refine (pe_bm0 pa slot hty hm ho hbase hline).weak fun σ H Q ⟨μ, ρ, mh, re, rl, p⟩ => ⟨μ, ρ, mh, re, rl, (PostR.bind (rel := relV X.K) p).mono fun v H1 ⟨μ1, x, mh1, e1, rl1, rx, p1⟩ => ?_⟩
  split at p1
  case isFalse => exact p1.elim
  rename_i hck
  exact ⟨hc μ1 H1 mh1 x v rl1 rx hck, hf _ μ1 H1 mh1 x v [] [] Q rl1 rx .nil p1⟩
/-- a list written -/
theorem put_lst {W : XK} {μ : List Addr} {H : Hp} {mh : MH} {nn : Nat} {aa : Addr} {old vs : List V} {ds : List D} {d : D} {v : V} {Q : VK} (rl : Rl K mg μ H mh) (hn : μ[nn]? = some aa) (hH : H aa = some (.lst old)) (rs : RVs K μ H ds vs) (rd : RV K μ H d v)
    (p : PostR K mg (relV K) W μ H (.ok d (mh.set nn (.lst ds))) Q) : Q v (upd H aa (.lst vs)) := by
  have off : H aa = none ∨ (H aa = some (.lst old) ∧ (∀ z, HO.lst old ≠ .tup z) ∧ ∀ y z, HO.lst old ≠ .frz y z) := .inr ⟨hH, fun _ => nofun, fun _ _ => nofun⟩
  obtain ⟨rl2, e2⟩ := rl.put hn (o := .lst vs) (m := .lst ds) ⟨vs, upd_same, rs.off (u := .lst old) off⟩
  exact p μ v _ e2 rl2 (rd.off (u := .lst old) off)
theorem o_append : OpM K mg rAppend yAppend := by
  intro W μ H mh x v xs vs Q rl rx rxs p
  unfold yAppend at p
  split at p
  · split at p
    case h_2 => exact p.elim
    rename_i ho
    split at p
    case isFalse => exact p.elim
    rename_i hl
    obtain ⟨aa, ws, rfl, hn, hH, rs⟩ := lst_at rl rx ho
    obtain ⟨w, rfl, r⟩ := one_v rxs
    exact ⟨aa, ws, w, rfl, rfl, hH, by rw [← rs.length]; exact Nat.lt_trans hl (by decide), put_lst rl hn hH (rs.append (.cons r .nil)) .non p⟩
  · exact p.elim
theorem RVs.dropLast {μ : List Addr} {H : Hp} {ds : List D} {vs : List V} (r : RVs K μ H ds vs) : RVs K μ H ds.dropLast vs.dropLast := by
  rw [List.dropLast_eq_take, List.dropLast_eq_take, r.length]
  exact r.take _
theorem o_pop : OpM K mg rPop yPop := by
  intro W μ H mh x v xs vs Q rl rx rxs p
  unfold yPop at p
  split at p
  · split at p
    case h_2 => exact p.elim
    rename_i ho
    split at p
    case h_2 => exact p.elim
    rename_i hd
    obtain ⟨aa, ws, rfl, hn, hH, rs⟩ := lst_at rl rx ho
    cases rxs
    obtain ⟨w, hw, rw'⟩ := rs.get hd
    exact ⟨aa, ws, w, rfl, rfl, hH, by rw [← rs.length]; exact hw, put_lst rl hn hH rs.dropLast rw' p⟩
  · exact p.elim
theorem o_extend : OpM K mg rExtend yExtend := by
  intro W μ H mh x v xs vs Q rl rx rxs p
  unfold yExtend at p
  split at p
  · split at p
    case h_2 => exact p.elim
    rename_i h1 h2
    split at p
    case isFalse => exact p.elim
    rename_i hl
    obtain ⟨aa, ws, rfl, hn, hH, rs⟩ := lst_at rl rx h1
    obtain ⟨w, rfl, r⟩ := one_v rxs
    obtain ⟨bb, zs, rfl, hn2, hH2, rs2⟩ := lst_at rl r h2
    exact ⟨aa, bb, ws, zs, rfl, rfl, hH, hH2, by rw [← rs.length, ← rs2.length]; exact big_line hl, put_lst rl hn hH (rs.append rs2) .non p⟩
  · exact p.elim
theorem join_eq (s : List Nat) : ∀ ys : List (List Nat), TL.joinL s ys = joinT s ys
  | [] => rfl
  | [x] => rfl
  | x :: y :: r => by
    have ih := join_eq s (y :: r)
    first
      | (show x ++ s ++ TL.joinL s (y :: r) = x ++ s ++ joinT s (y :: r); rw [ih])
      | (show x ++ (s ++ TL.joinL s (y :: r)) = x ++ s ++ joinT s (y :: r); rw [ih, List.append_assoc])
theorem o_join : OpM K mg (fun x xs H Q => ∃ a p, ∃ ys : List Str, x = .str a ∧ xs = [.ref p] ∧ (SqL K H p (ys.map V.str) ∨ SqT K H p (ys.map V.str)) ∧ (ys.map (·.length)).sum + ys.length * a.length ≤ 16777216 ∧ Q (.str (Txt.join a ys)) H) yJoin := by
  intro W μ H mh x v xs vs Q rl rx rxs p
  unfold yJoin at p
  split at p
  · split at p
    case h_2 => exact p.elim
    rename_i hi
    split at p
    case h_2 => exact p.elim
    rename_i zs ys hs
    split at p
    case isFalse => exact p.elim
    rename_i hl
    cases rx
    obtain ⟨w, rfl, r⟩ := one_v rxs
    obtain ⟨a, ws, rfl, hq, rs⟩ := items_at rl r hi
    have e := strs_v rs hs
    subst e
    refine ⟨_, a, ys.map tx, rfl, rfl, hq, ?_, ?_⟩
    · rw [List.map_map, List.length_map, tx_len]
      have e2 : (ys.map ((fun x : Str => x.length) ∘ tx)) = ys.map (·.length) := List.map_congr_left fun y _ => tx_len y
      rw [e2]
      omega
    · have e3 : ∀ s : List Nat, Txt.join (tx s) (ys.map tx) = tx (joinT s ys) := fun s => by
        rw [← join_eq]
        exact SX.join_S s ys
      rw [e3]
      exact fin rl p (.str _)
  · exact p.elim
end
end Mir
set_option Elab.async false
set_option linter.all false
set_option maxRecDepth 100000
set_option autoImplicit false
/-! Mirror: what is walked; f-strings. -/
namespace Mir
open PySem PySem.Spec PyProof.Rows L2 RZ

section
variable {K : PySem.W.Frag} {mg : Str → Option Value} {W : WX} {X : Cx} {n : Nat} {e o a b c i tg : Expr} {es : List Expr} {pos p apos tpos : Pos} {ma mb mc mo mi : ME} {mas : MA}
/-- a sequence or a text, walked -/
def iAnyR (K : PySem.W.Frag) (tl : TE) : TI := fun σ H R => tl σ H fun x H1 => (∃ a vs, x = .ref a ∧ SqL K H1 a vs ∧ R (Itl K a) H1) ∨ (∃ a vs, x = .ref a ∧ SqT K H1 a vs ∧ R (Itt K a) H1) ∨ ∃ z, x = .str z ∧ R (Its z) H1
theorem pi_any {tl : TE} (hl : PE X e tl) : PI X tg e (iAnyR X.K tl) := by
  constructor
  intro pins s σ H R I h
  refine thn (hl.run pins s σ H _ I h) fun v s1 q => ?_
  obtain ⟨x, H1, I1, r, q⟩ := q
  have one : ∀ c, c ∈ [s1.heap.objs.size] → FpOk X pins H1 c := fun c hc => by
    rw [List.mem_singleton.mp hc]
    exact I1.fpOk (Nat.le_refl _) (I1.hok.fresh (Nat.le_refl _))
  rcases q with ⟨a, vs, rfl, hq, q⟩ | ⟨a, vs, rfl, hq, q⟩ | ⟨z, rfl, q⟩
  · cases r
    obtain ⟨its, rv, hp, _⟩ := I1.list hq
    exact wpAny_pyIter_list hp.isList ⟨_, [_], _, _, H1, rfl, I1.kept (t' := s1.toks) fun _ _ => Heap.get?_push_of_some _, turn_list a _, ⟨_, Heap.get?_push_size _ rfl, rfl, rfl⟩, one, q⟩
  · cases r
    obtain ⟨its, rv, hp, _⟩ := I1.tuple hq
    exact wpAny_pyIter_tuple (show s1.heap.IsTuple a its.toArray from hp) ⟨_, [_], _, _, H1, rfl, I1.kept (t' := s1.toks) fun _ _ => Heap.get?_push_of_some _, turn_tuple a _, ⟨_, Heap.get?_push_size _ rfl, rfl, rfl⟩, one, q⟩
  · obtain ⟨t, rfl⟩ := r
    cases hz : z.cps.all (· < 128) with
    | true => exact wpAny_pyIter_ascii hz (pi_one (tk := s1.toks) I1 _ (turn_str _ z t "str_ascii_iterator" (.inl rfl)) ⟨_, Heap.get?_push_size _ rfl, rfl, rfl⟩ q)
    | false => exact wpAny_pyIter_wide hz (pi_one (tk := s1.toks) I1 _ (turn_str _ z t "str_iterator" (.inr rfl)) ⟨_, Heap.get?_push_size _ rfl, rfl, rfl⟩ q)
theorem jr_list {μ1 : List Addr} {H1 : Hp} {mh1 : MH} {ds : List D} {nn : Nat} {aa : Addr} (hn : μ1[nn]? = some aa) : JR K mg μ1 H1 ⟨ds, [(nn, .lst ds)]⟩ (Itl K aa) := by
  intro μ H mh ex rl hs
  have hm : mh[nn]? = some (.lst ds) := by
    have := List.all_eq_true.mp hs (nn, .lst ds) (by simp)
    exact of_decide_eq_true this
  obtain ⟨vs, hH, rv⟩ := rl.obj _ _ _ (Ext.get (e := ex) hn) hm
  refine ⟨fun i x hx => ?_, fun i hi => ⟨vs, .of hH, by rw [← rv.length]; exact hi⟩⟩
  obtain ⟨v, hv, r⟩ := rv.get hx
  refine ⟨⟨vs, v, .of hH, hv⟩, fun w H' y => ?_⟩
  obtain ⟨rfl, y⟩ := y
  have z := y vs (.of hH)
  rw [hv] at z
  cases z
  exact ⟨.refl _ _, rl, r⟩
theorem jr_rl {μ1 : List Addr} {H1 : Hp} {mh1 : MH} {ds : List D} {vs : List V} {aa : Addr} (rl1 : Rl K mg μ1 H1 mh1) (hT : RoL K H1 aa vs) (rs : RVs K μ1 H1 ds vs) : JR K mg μ1 H1 ⟨ds, []⟩ (Itl K aa) := by
  intro μ H mh ex rl hs
  have hq := (RoL.ext rl1 ex hT).sq
  have rv := RVs.ext rl1 ex rs
  refine ⟨fun i x hx => ?_, fun i hi => ⟨vs, hq, by rw [← rv.length]; exact hi⟩⟩
  obtain ⟨v, hv, r⟩ := rv.get hx
  refine ⟨⟨vs, v, hq, hv⟩, fun w H' y => ?_⟩
  obtain ⟨rfl, y⟩ := y
  have z := y vs hq
  rw [hv] at z
  cases z
  exact ⟨.refl _ _, rl, r⟩
theorem jr_tup {μ1 : List Addr} {H1 : Hp} {mh1 : MH} {ds : List D} {vs : List V} {aa : Addr} (rl1 : Rl K mg μ1 H1 mh1) (hT : SqT K H1 aa vs) (rs : RVs K μ1 H1 ds vs) : JR K mg μ1 H1 ⟨ds, []⟩ (Itt K aa) := by
  intro μ H mh ex rl hs
  have hq := SqT.ext rl1 ex hT
  have rv := RVs.ext rl1 ex rs
  refine ⟨fun i x hx => ?_, fun i hi => ⟨vs, hq, by rw [← rv.length]; exact hi⟩⟩
  obtain ⟨v, hv, r⟩ := rv.get hx
  refine ⟨⟨vs, v, hq, hv⟩, fun w H' y => ?_⟩
  obtain ⟨rfl, y⟩ := y
  have z := y vs hq
  rw [hv] at z
  cases z
  exact ⟨.refl _ _, rl, r⟩
theorem jr_str {μ1 : List Addr} {H1 : Hp} (s : List Nat) : JR K mg μ1 H1 ⟨s.map fun c => .str [c], []⟩ (Its (tx s)) := by
  intro μ H mh ex rl hs
  have sz : (tx s).cps.size = s.length := by simp
  refine ⟨fun i x hx => ?_, fun i hi => ?_⟩
  · have hx : (s.map fun c => D.str [c])[i]? = some x := hx
    rw [List.getElem?_map, Option.map_eq_some_iff] at hx
    obtain ⟨c, hc, rfl⟩ := hx
    refine ⟨?_, fun w H' y => ?_⟩
    · show i < (tx s).cps.size
      rw [sz]
      exact (List.getElem?_eq_some_iff.mp hc).1
    · obtain ⟨rfl, c', hc', rfl⟩ := y
      have e : (tx s).cps[i]? = s[i]? := by simp
      rw [e, hc] at hc'
      cases hc'
      exact ⟨.refl _ _, rl, .str [c]⟩
  · show (tx s).cps.size ≤ i
    rw [sz]
    simpa using hi
theorem si_any (he : SE W X e ma) : SI W X tg e (iAny ma) := by
  refine (pi_any he).weak fun σ H R ⟨μ, ρ, mh, re, rl, p⟩ => ⟨μ, ρ, mh, re, rl, (PostR.bind (rel := relV X.K) p).mono fun v H1 ⟨μ1, x, mh1, e1, rl1, rx, p1⟩ => ?_⟩
  unfold mIter at p1
  split at p1
  · cases rx with
    | tup hT rs => exact .inr (.inl ⟨_, _, rfl, hT, p1 μ1 _ H1 (.refl _ _) rl1 (jr_tup rl1 hT rs)⟩)
  · cases rx with
    | rl hT rs => exact .inl ⟨_, _, rfl, hT.sq, p1 μ1 _ H1 (.refl _ _) rl1 (jr_rl rl1 hT rs)⟩
  · cases rx
    exact .inr (.inr ⟨_, rfl, p1 μ1 _ H1 (.refl _ _) rl1 (jr_str _)⟩)
  · split at p1
    · rename_i ho
      obtain ⟨aa, ws, rfl, hn, hH, rs⟩ := lst_at rl1 rx ho
      exact .inl ⟨aa, ws, rfl, .of hH, p1 μ1 _ H1 (.refl _ _) rl1 (jr_list (mh1 := mh1) hn)⟩
    · exact p1.elim
  · exact p1.elim
theorem jr_rng {μ1 : List Addr} {H1 : Hp} (lo : Int) (k : Nat) : JR K mg μ1 H1 ⟨rng lo k, []⟩ (Itr lo k) := by
  intro μ H mh ex rl hs
  refine ⟨fun i x hx => ?_, fun i hi => ?_⟩
  · have hx : (rng lo k)[i]? = some x := hx
    unfold rng at hx
    rw [List.getElem?_map, Option.map_eq_some_iff] at hx
    obtain ⟨j, hj, rfl⟩ := hx
    obtain ⟨hl, hj⟩ := List.getElem?_eq_some_iff.mp hj
    rw [List.length_range] at hl
    rw [List.getElem_range] at hj
    subst hj
    exact ⟨hl, fun w H' y => by obtain ⟨rfl, rfl⟩ := y; exact ⟨.refl _ _, rl, .int _⟩⟩
  · show k ≤ i
    have hi : (rng lo k).length ≤ i := hi
    unfold rng at hi
    simpa using hi
theorem si_range1 (hg : Gl X "range") (hm : X.mg "range" = none) (ha : SA W X [a] mas) (hs : starEach [a] X.env = [(false, eval a X.env)] := by rfl) : SI W X tg (.Call (.Name "range" p) [a] [] pos) (iRange1 mas) := by
  refine (pi_range1 hg hm ha hs).weak fun σ H R ⟨μ, ρ, mh, re, rl, p⟩ => ⟨μ, ρ, mh, re, rl, (PostR.bind (rel := relVs X.K) p).mono fun vs H1 ⟨μ1, ds, mh1, e1, rl1, rs, p1⟩ => ?_⟩
  split at p1
  case h_2 => exact p1.elim
  split at p1
  case isFalse => exact p1.elim
  rename_i hb
  obtain ⟨v, rfl, r⟩ := one_v rs
  cases r
  exact ⟨_, rfl, by omega, by omega, p1 μ1 _ H1 (.refl _ _) rl1 (jr_rng 0 _)⟩
theorem si_range2 (hg : Gl X "range") (hm : X.mg "range" = none) (ha : SA W X [a, b] mas) (hs : starEach [a, b] X.env = [(false, eval a X.env), (false, eval b X.env)] := by rfl) (hs2 : starEach [b] X.env = [(false, eval b X.env)] := by rfl) : SI W X tg (.Call (.Name "range" p) [a, b] [] pos) (iRange2 mas) := by
  refine (pi_range2 hg hm ha hs hs2).weak fun σ H R ⟨μ, ρ, mh, re, rl, p⟩ => ⟨μ, ρ, mh, re, rl, (PostR.bind (rel := relVs X.K) p).mono fun vs H1 ⟨μ1, ds, mh1, e1, rl1, rs, p1⟩ => ?_⟩
  split at p1
  case h_2 => exact p1.elim
  split at p1
  case isFalse => exact p1.elim
  rename_i hb
  obtain ⟨v, u, rfl, r, q⟩ := two_v rs
  cases r
  cases q
  exact ⟨_, _, rfl, by omega, p1 μ1 _ H1 (.refl _ _) rl1 (jr_rng _ _)⟩
theorem zip_get {xs ys : List D} {i : Nat} {z : D} (h : (zipD xs ys)[i]? = some z) : ∃ x y, xs[i]? = some x ∧ ys[i]? = some y ∧ z = .tup [x, y] := by
  unfold zipD at h
  rw [List.getElem?_map, Option.map_eq_some_iff] at h
  obtain ⟨⟨x, y⟩, hp, rfl⟩ := h
  rw [List.getElem?_zip_eq_some] at hp
  exact ⟨x, y, hp.1, hp.2, rfl⟩
theorem zip_len {xs ys : List D} {i : Nat} (h : (zipD xs ys).length ≤ i) : xs.length ≤ i ∨ ys.length ≤ i := by
  unfold zipD at h
  rw [List.length_map, List.length_zip] at h
  omega
theorem pair_new {μ : List Addr} {H : Hp} {mh : MH} {T : Addr} {x y : D} {v u : V} (rl : Rl K mg μ H mh) (hT : H T = none) (rx : RV K μ H x v) (ry : RV K μ H y u) : Ext μ H μ (upd H T (.tup [v, u])) ∧ Rl K mg μ (upd H T (.tup [v, u])) mh ∧ RV K μ (upd H T (.tup [v, u])) (.tup [x, y]) (.ref T) :=
  ⟨Ext.upd hT, rl.upd_new hT, .tup (.of upd_same) (.cons (RV.ext rl (Ext.upd hT) rx) (.cons (RV.ext rl (Ext.upd hT) ry) .nil))⟩
theorem si_zip {j : Nat} (hg : Gl X "zip") (hm : X.mg "zip" = none) (ha : SA W X [a, b] mas) (hs : starEach [a, b] X.env = (false, eval a X.env) :: starEach [b] X.env := by rfl) (hpl : (backTo pos (starEach [b] X.env)).any (·.1) = false := by rfl) : SI W X (.Tuple es j tpos) (.Call (.Name "zip" p) [a, b] [] pos) (iZip mas) := by
  refine (pi_zipA hg hm ha hs hpl).weak fun σ H R ⟨μ, ρ, mh, re, rl, p⟩ => ⟨μ, ρ, mh, re, rl, (PostR.bind (rel := relVs X.K) p).mono fun vs H1 ⟨μ1, ds, mh1, e1, rl1, rs, p1⟩ => ?_⟩
  split at p1
  · obtain ⟨v, u, rfl, r, q⟩ := two_v rs
    cases r with
    | tup h1 r1 => cases q with
      | tup h2 r2 =>
        rename_i a1 vs1 a2 vs2 _
        refine ⟨_, _, _, _, rfl, .inr ⟨h1, h2, p1 μ1 _ H1 (.refl _ _) rl1 fun μ2 H2 mh2 ex rl2 hsame => ?_⟩⟩
        have q1 := SqT.ext rl1 ex h1
        have q2 := SqT.ext rl1 ex h2
        have s1 := RVs.ext rl1 ex r1
        have s2 := RVs.ext rl1 ex r2
        refine ⟨fun i z hz => ?_, fun i hi => ⟨vs1, vs2, q1, q2, ?_⟩⟩
        · obtain ⟨x, y, hx, hy, rfl⟩ := zip_get hz
          obtain ⟨v, hv, rv⟩ := s1.get hx
          obtain ⟨u, hu, ru⟩ := s2.get hy
          refine ⟨⟨vs1, vs2, v, u, q1, q2, hv, hu⟩, fun w H3 yl => ?_⟩
          obtain ⟨T, v', u', rfl, hT, rfl, f1, f2⟩ := yl
          have z1 := f1 vs1 q1
          have z2 := f2 vs2 q2
          rw [hv] at z1
          rw [hu] at z2
          cases z1
          cases z2
          exact pair_new rl2 hT rv ru
        · rw [← s1.length, ← s2.length]
          exact zip_len hi
  · split at p1
    case h_2 => exact p1.elim
    rename_i ho1 ho2
    obtain ⟨v, u, rfl, r, q⟩ := two_v rs
    rename_i na nb _ _ xs ys _
    obtain ⟨a1, ws1, rfl, hn1, hH1, r1⟩ := lst_at rl1 r ho1
    obtain ⟨a2, ws2, rfl, hn2, hH2, r2⟩ := lst_at rl1 q ho2
    refine ⟨a1, a2, ws1, ws2, rfl, .inl ⟨.of hH1, .of hH2, p1 μ1 _ H1 (.refl _ _) rl1 fun μ2 H2 mh2 ex rl2 hsame => ?_⟩⟩
    have m1 : mh2[na]? = some (.lst xs) := of_decide_eq_true (List.all_eq_true.mp hsame (na, .lst xs) (by simp))
    have m2 : mh2[nb]? = some (.lst ys) := of_decide_eq_true (List.all_eq_true.mp hsame (nb, .lst ys) (by simp))
    obtain ⟨vs1, k1, s1⟩ := rl2.obj _ _ _ (Ext.get (e := ex) hn1) m1
    obtain ⟨vs2, k2, s2⟩ := rl2.obj _ _ _ (Ext.get (e := ex) hn2) m2
    refine ⟨fun i z hz => ?_, fun i hi => ⟨vs1, vs2, .of k1, .of k2, ?_⟩⟩
    · obtain ⟨x, y, hx, hy, rfl⟩ := zip_get hz
      obtain ⟨v, hv, rv⟩ := s1.get hx
      obtain ⟨u, hu, ru⟩ := s2.get hy
      refine ⟨⟨vs1, vs2, v, u, .of k1, .of k2, hv, hu⟩, fun w H3 yl => ?_⟩
      obtain ⟨T, v', u', rfl, hT, rfl, f1, f2⟩ := yl
      have z1 := f1 vs1 (.of k1)
      have z2 := f2 vs2 (.of k2)
      rw [hv] at z1
      rw [hu] at z2
      cases z1
      cases z2
      exact pair_new rl2 hT rv ru
    · rw [← s1.length, ← s2.length]
      exact zip_len hi
  · exact p1.elim

/-! ### f-strings -/
theorem se_fmt (he : SE W X e ma) : SE W X (.FormattedValue e (-1) none pos) (eFmt ma) := by
  refine (pe_fmt he).weak fun σ H Q ⟨μ, ρ, mh, re, rl, p⟩ => ⟨μ, ρ, mh, re, rl, (PostR.bind (rel := relV X.K) p).mono fun v H1 ⟨μ1, x, mh1, e1, rl1, rx, p1⟩ => ?_⟩
  split at p1
  · cases rx
    split at p1
    case isFalse => exact p1.elim
    rename_i hl
    exact .inl ⟨_, rfl, by rw [tx_len]; exact big_line hl, fin rl1 p1 (.str _)⟩
  · cases rx
    split at p1
    case isFalse => exact p1.elim
    rename_i hl
    refine .inr ⟨_, rfl, hl, ?_⟩
    rw [← tx_int]
    exact fin rl1 p1 (.str _)
  · exact p1.elim
inductive SJ (W : WX) (X : Cx) : List Expr → List ME → Prop where
  | nil : SJ W X [] []
  | cons {e : Expr} {m : ME} {es : List Expr} {ms : List ME} (h : SE W X e m) (r : SJ W X es ms) : SJ W X (e :: es) (m :: ms)
theorem sj_run {es : List Expr} {ms : List ME} (h : SJ W X es ms) : ∃ ts, PJ X es ts ∧ ∀ (acc : List Nat) (σ : L2.St) (H : Hp) (Q : VK), rdE X.K X.mg W (jGo ms acc) σ H Q → tJs ts (tx acc) σ H fun out H1 => Q (.str out) H1 := by
  induction h with
  | nil => exact ⟨[], .nil, fun acc σ H Q ⟨μ, ρ, mh, re, rl, p⟩ => fin rl p (.str acc)⟩
  | cons h r ih =>
    obtain ⟨ts, hp, ht⟩ := ih
    refine ⟨_, .cons h hp, fun acc σ H Q ⟨μ, ρ, mh, re, rl, p⟩ => ⟨μ, ρ, mh, re, rl, (PostR.bind (rel := relV X.K) p).mono fun v H1 ⟨μ1, x, mh1, e1, rl1, rx, p1⟩ => ?_⟩⟩
    split at p1
    case h_2 => exact p1.elim
    split at p1
    case isFalse => exact p1.elim
    rename_i hl
    cases rx
    refine ⟨_, rfl, by rw [tx_app, tx_len]; exact big_line hl, ?_⟩
    rw [tx_app]
    exact ht _ σ H1 Q ⟨μ1, ρ, mh1, re.ext rl e1, rl1, p1⟩
theorem se_joined {v1 v2 : Expr} {rest : List Expr} {ms : List ME} (h : SJ W X (v1 :: v2 :: rest) ms) : SE W X (.JoinedStr (v1 :: v2 :: rest) pos) (eJoin ms) := by
  obtain ⟨ts, hp, ht⟩ := sj_run h
  exact (pe_joined hp).weak fun σ H Q q => ht [] σ H Q q
end
end Mir
set_option Elab.async false
set_option linter.all false
set_option maxRecDepth 100000
set_option autoImplicit false
/-! Mirror: more written out; the law's own head. -/
namespace Mir
open PySem PySem.Spec PyProof.Rows L2
def Sub (K J : PySem.W.Frag) : Prop := ∀ a o, K.lookup a = some o → J.lookup a = some o
section
variable {K J : PySem.W.Frag} (hs : Sub K J)
include hs
theorem nsIn_up {ns : Addr} {x : Str} {r : Option Value} (e : PySem.W.nsIn K ns x = some r) : PySem.W.nsIn J ns x = some r := by
  unfold PySem.W.nsIn at e ⊢
  split at e
  · rename_i ho
    rw [hs _ _ ho]
    exact e
  · cases e
theorem clsIn_up {C : Addr} {cd : ClassData} (e : PySem.W.clsIn K C = some cd) : PySem.W.clsIn J C = some cd := by
  unfold PySem.W.clsIn at e ⊢
  split at e
  · rename_i ho
    rw [hs _ _ ho]
    exact e
  · cases e
theorem ownIn_up {x : Str} {v : Value} {r : Option Value} (e : PySem.W.ownIn K x v = some r) : PySem.W.ownIn J x v = some r := by
  unfold PySem.W.ownIn at e ⊢
  split at e
  · exact e
  · split at e
    · rename_i ho
      rw [hs _ _ ho]
      exact nsIn_up hs e
    · cases e
  · exact e
theorem alongIn_up {x : Str} : ∀ {l : List Value} {r : Option Value}, PySem.W.alongIn K x l = some r → PySem.W.alongIn J x l = some r
  | [], r, e => e
  | c :: l, r, e => by
    unfold PySem.W.alongIn at e ⊢
    cases q : PySem.W.ownIn K x c with
    | none => rw [q] at e; cases e
    | some u =>
      rw [q] at e
      rw [ownIn_up hs q]
      cases u with
      | none => exact alongIn_up e
      | some w => exact e
theorem findIn_up {t : Value} {x : Str} {r : Option Value} (e : PySem.W.findIn K t x = some r) : PySem.W.findIn J t x = some r := by
  unfold PySem.W.findIn at e ⊢
  split at e
  · exact e
  · split at e
    · rename_i ho
      rw [hs _ _ ho]
      exact alongIn_up hs e
    · cases e
  · cases e
theorem typeIn_up {v : Value} {t : Value} (e : PySem.W.typeIn K v = some t) : PySem.W.typeIn J v = some t := by
  cases v with
  | ref a =>
    obtain ⟨o, ho, rfl⟩ := Option.map_eq_some_iff.mp e
    exact Option.map_eq_some_iff.mpr ⟨o, hs _ _ ho, rfl⟩
  | _ => exact e
theorem specialIn_up {v : Value} {x : Str} {r : Option Value} (e : PySem.W.specialIn K v x = some r) : PySem.W.specialIn J v x = some r := by
  obtain ⟨t, a, b⟩ := Option.bind_eq_some_iff.mp e
  exact Option.bind_eq_some_iff.mpr ⟨t, typeIn_up hs a, findIn_up hs b⟩
theorem mroIn_up {C : Addr} {b : Value} {r : Bool} (e : PySem.W.mroIn K C b = some r) : PySem.W.mroIn J C b = some r := by
  obtain ⟨cd, a, q⟩ := Option.bind_eq_some_iff.mp e
  exact Option.bind_eq_some_iff.mpr ⟨cd, clsIn_up hs a, q⟩
theorem subIn_up {t b : Value} {r : Bool} (e : PySem.W.subIn K t b = some r) : PySem.W.subIn J t b = some r := by
  cases t with
  | ref a => exact mroIn_up hs e
  | _ => exact e
theorem instIn_up {v b : Value} {r : Bool} (e : PySem.W.instIn K v b = some r) : PySem.W.instIn J v b = some r := by
  obtain ⟨t, a, q⟩ := Option.bind_eq_some_iff.mp e
  exact Option.bind_eq_some_iff.mpr ⟨t, typeIn_up hs a, subIn_up hs q⟩
theorem codeIn_up {v : Value} {x : Str} (e : PySem.W.codeIn K v x = true) : PySem.W.codeIn J v x = true := by
  unfold PySem.W.codeIn at e ⊢
  split at e
  · split at e
    · rename_i ho
      rw [hs _ _ ho]
      exact e
    · cases e
  · cases e
theorem keepIn_up {v : Value} (e : PySem.W.keepIn K v = true) : PySem.W.keepIn J v = true := by
  unfold PySem.W.keepIn at e ⊢
  split at e
  · split at e
    · rename_i ho
      rw [hs _ _ ho]
    · rename_i ho
      rw [hs _ _ ho]
      have q := beq_iff_eq.mp e
      exact beq_iff_eq.mpr (specialIn_up hs q)
    · cases e
  · cases e
theorem isFn_up {v : Value} (e : PySem.W.isFn K v = true) : PySem.W.isFn J v = true :=
  beq_iff_eq.mpr (typeIn_up hs (beq_iff_eq.mp e))
theorem any_up {α : Type} {p : α → Bool} {x y : Option α} (h : ∀ c, x = some c → y = some c) (e : x.any p = true) : y.any p = true := by
  cases x with
  | none => cases e
  | some c => rw [h c rfl]; exact e
theorem cls_up {C : Addr} (c : Cls K C) : Cls J C := by
  refine ⟨?_, any_up hs (fun c q => clsIn_up hs q) c.hd, any_up hs (fun c q => clsIn_up hs q) c.po, findIn_up hs c.sa⟩
  have q := c.pg
  unfold PySem.W.plainGet at q ⊢
  rw [Bool.and_eq_true] at q ⊢
  exact ⟨beq_iff_eq.mpr (findIn_up hs (beq_iff_eq.mp q.1)), beq_iff_eq.mpr (findIn_up hs (beq_iff_eq.mp q.2))⟩
theorem noattr_up {C : Addr} {x : Str} (c : NoAttr K C x) : NoAttr J C x := findIn_up hs c
theorem meth_up {C f : Addr} {x : Str} (c : Meth K C x f) : Meth J C x f := ⟨findIn_up hs c.at_, isFn_up hs c.fn, keepIn_up hs c.kp⟩
theorem makes_up {C : Addr} (e : PySem.W.makesIn K C = true) : PySem.W.makesIn J C = true := by
  unfold PySem.W.makesIn at e ⊢
  split at e
  · rename_i ho
    rw [hs _ _ ho]
    simp only [Bool.and_eq_true] at e ⊢
    exact ⟨⟨e.1.1, beq_iff_eq.mpr (specialIn_up hs (beq_iff_eq.mp e.1.2))⟩, beq_iff_eq.mpr (instIn_up hs (beq_iff_eq.mp e.2))⟩
  · cases e
theorem mk_up {C f : Addr} (c : Mk K C f) : Mk J C f := ⟨makes_up hs c.makes, findIn_up hs c.init, isFn_up hs c.fn, keepIn_up hs c.kp⟩
theorem fun_up {x q : Str} {st : Stmt} {f : Addr} {fd : FuncData} (F : L2.Fun K x q st f fd) : L2.Fun J x q st f fd := by
  obtain ⟨oc, od, kV, doc, pm, an, cdv, ct, osl, e, lk, hc⟩ := F.ex
  exact ⟨⟨oc, od, kV, doc, pm, an, cdv, ct, osl, e, hs _ _ lk, codeIn_up hs hc⟩, keepIn_up hs F.kp⟩
theorem in_down {h : Heap} (e : J.In h) : K.In h := fun a o q => e a o (hs a o q)
theorem binds_up {fd : FuncData} {ps : List Str} {ds : List Value} (b : Binds K fd ps ds) : Binds J fd ps ds := fun s us hk hl => b s us (in_down hs hk) hl
end
/-- K with one object more -/
theorem sub_more (K : PySem.W.Frag) (a : Addr) (o : Obj) : Sub K (K ++ [(a, o)]) := fun b u e => by
  rw [List.lookup_append, e]
  rfl
theorem in_more {K : PySem.W.Frag} {h : Heap} {a : Addr} {o : Obj} (x : K.In h) (e : h.get? a = some o) : PySem.W.Frag.In (K ++ [(a, o)]) h := fun b u q => by
  rw [List.lookup_append] at q
  cases z : K.lookup b with
  | some w => rw [z] at q; cases q; exact x _ _ z
  | none =>
    rw [z] at q
    have q2 : List.lookup b [(a, o)] = some u := q
    rw [List.lookup_cons] at q2
    split at q2
    · rename_i hb
      cases q2
      rw [beq_iff_eq.mp hb]
      exact e
    · cases q2
theorem look_more {K : PySem.W.Frag} {h : Heap} {a : Addr} {o : Obj} (x : K.In h) (e : h.get? a = some o) : (K ++ [(a, o)]).lookup a = some o := by
  rw [List.lookup_append]
  cases z : K.lookup a with
  | some w =>
    have := x _ _ z
    rw [e] at this
    cases this
    rfl
  | none =>
    show List.lookup a [(a, o)] = some o
    rw [List.lookup_cons, beq_self_eq_true]

/-- a value that stands in K -/
theorem se_kt {W : WX} {X : Cx} {x : Str} {pos : Pos} {a : Addr} {o : Obj} {its : Array Value} {nn : Nat} {vs : List V} {ds : List D} (hg : Gl X x) (hm : X.mg x = some (.ref a)) (hk : X.K.lookup a = some o) (h1 : o.cls = .type "tuple") (h2 : o.data = .seq its nn) (h3 : its.size ≤ sizeLine)
    (h4 : Vals vs its.toList) (r : ∀ μ H, RVs X.K μ H ds vs) (hd : (x == ("__debug__" : Str)) = false := by decide) : SE W X (.Name x pos) (eLit (.tup ds)) :=
  se_gc (v := .ref a) hg ⟨_, hm, rfl⟩ (fun μ H => .tup (.inr ⟨o, its, nn, hk, h1, h2, h3, h4⟩) (r μ H)) hd

def scr (ns : List Int) : D := .rl (ns.map .int)
theorem ints_rv {K : PySem.W.Frag} {μ : List Addr} {H : Hp} : ∀ ns : List Int, RVs K μ H (ns.map .int) (ns.map V.int)
  | [] => .nil
  | n :: r => .cons (.int n) (ints_rv r)
/-- THE HEAD, mirrored -/
theorem law_callG {P : Program} {w : World} {K : PySem.W.Frag} {mg mb : Str → Option Value} {k : Nat} {fa a : Addr} {fd : FuncData} {x : Str} {m : MF} {s₁ : Shared} {vs : List Value} {ns : List Int}
    (KX : K.In s₁.heap) (hns : s₁.heap.Ns mainGlobals mg) (hb : s₁.heap.Ns builtinsNs mb) (hbb : ∀ x : Str, x ≠ "__name__" → mb x = bootBuiltins x) (hlim : s₁.heap.NoLimit) (hg : s₁.gens = #[])
    (ha : s₁.heap.get? a = some { cls := .type "list", data := .seq vs.toArray }) (hi : IntsAre vs ns) (hl : ns.length ≤ sizeLine) (hr : Room k callerA)
    (F : ∀ base : Heap, K.In base → base.Ns mainGlobals mg → FnG P w K mg base k fa fd [x] m) (hbind : Binds K fd [x] [])
    (hm : ∃ h', m [scr ns] [] = .ok (.bl true) h') :
    codeAny (model P w) callerA (.call (.ref fa) ⟨[.ref a], []⟩) (fun r s' => r = .ok (.ret (.bool true)) ∧ OldK s₁.heap s'.heap ∧ s'.os = s₁.os ∧ AllBare s'.gens) s₁ := by
  have rv := vals_ints hi
  have lenV := hi.length
  obtain ⟨hm', hm⟩ := hm
  have core : ∀ H : Hp, Only H → RoL K H a (ns.map V.int) → HOk P w H s₁.heap → (∀ b, H b ≠ none → b = a) → (H a ≠ none → K.lookup a = none) →
      codeAny (model P w) callerA (.call (.ref fa) ⟨[.ref a], []⟩) (fun r s' => r = .ok (.ret (.bool true)) ∧ OldK s₁.heap s'.heap ∧ s'.os = s₁.os ∧ AllBare s'.gens) s₁ := by
    intro H hO hS hok hA hK
    have base_of : ∀ {b : Addr} {o : Obj}, s₁.heap.get? b = some o → H b = none → (hidT s₁.heap H).get? b = some o := fun e n => hidT_get e n
    have noA : ∀ {b : Addr} {o : Obj} {es : Array DictEntry} {ep : Nat}, s₁.heap.get? b = some o → o.data = .dict es ep → H b = none := fun {b o es ep} e d => by
      cases q : H b with
      | none => rfl
      | some u =>
        have e' : b = a := hA b (by rw [q]; simp)
        subst e'
        rw [ha] at e; cases e
        have d' : Data.seq vs.toArray _ = Data.dict es ep := d
        cases d'
    have nsK : ∀ {b : Addr} {m : Str → Option Value}, s₁.heap.Ns b m → (hidT s₁.heap H).Ns b m := fun {b m} ⟨o, es, ep, e, d, r⟩ => ⟨o, es, ep, base_of e (noA e d), d, r⟩
    have hKb : K.In (hidT s₁.heap H) := fun b o e => base_of (KX b o e) (by
      cases q : H b with
      | none => rfl
      | some u =>
        have e' : b = a := hA b (by rw [q]; simp)
        subst e'
        rw [hK (by rw [q]; simp)] at e; cases e)
    have hM : Mod K mg (hidT s₁.heap H) := ⟨hKb, nsK hns, ⟨mb, nsK hb, hbb⟩, let ⟨mc, h1, h2⟩ := hlim; ⟨mc, nsK h1, h2⟩⟩
    have e0 : Env0 P w K mg (hidT s₁.heap H) callerA [] s₁ H := ⟨rfl, hM, fun b o e => of_hidT e, Nat.le_of_eq (hidT_size _ _), trivial, fun b hb => absurd (show b ∈ ([] : List Addr) from hb) (by simp), hok, .of_eq hg⟩
    have hp : PostR K mg (relV K) (fun _ _ _ => False) [] H (m [scr ns] []) (fun v _ => v = .bl true) := by
      rw [hm]
      intro μ' v H' e r q
      cases q
      rfl
    refine codeAny_mono ((F _ hKb (nsK hns)).run callerA [] s₁ H ⟨[.ref a], []⟩ [.ref a] [.ref a] _ _ [] [scr ns] [] hr rfl e0 (hbind s₁ [.ref a] KX rfl) (.cons rfl .nil) (.cons (.rl hS (ints_rv ns)) .nil)
      ⟨rfl, List.nodup_nil, fun i c u h1 _ => by cases h1⟩ hp) fun r s' h => ?_
    cases r with
    | error e =>
      obtain ⟨_, _, _, _, _, _, _, _, _, _, _, _, z⟩ := h
      exact z.elim
    | ok fl =>
      cases fl with
      | next => exact False.elim h
      | brk => exact False.elim h
      | cont => exact False.elim h
      | ret u =>
        obtain ⟨v, H', os, bare, un, hok', r', q⟩ := h
        have q' : v = .bl true := q
        subst q'
        obtain rfl : u = Value.bool true := r'
        refine ⟨rfl, OldK.of_keep fun b o e => ?_, os, bare⟩
        cases q : H b with
        | none => exact un.keep b o e q (by intro z; exact absurd (show b ∈ ([] : List Addr) from z) (by simp)) (by simp)
        | some u =>
          rcases hO b with z | ⟨ob, xs, z⟩
          · rw [q] at z; cases z
          · have z2 := un.frzs b ob _ z
            obtain ⟨e1, _⟩ := hok b _ z
            obtain ⟨e2, _⟩ := hok' b _ z2
            rw [e] at e1; cases e1
            exact e2
  cases hk : K.lookup a with
  | some o =>
    have e := KX a o hk
    rw [ha] at e
    cases e
    refine core (fun _ => none) (fun _ => .inl rfl) (.inr ⟨_, vs.toArray, _, hk, rfl, rfl, rfl, by rw [List.size_toArray, lenV]; exact hl, by simpa using rv⟩) (fun b u z => by have z' : (none : Option HO) = some u := z; cases z') (fun b z => absurd rfl z) fun z => absurd rfl z
  | none =>
    refine core (fun b => if b = a then some (.frz { cls := .type "list", data := .seq vs.toArray } (.lst (ns.map V.int))) else none) (fun b => ?_) (.inl ⟨{ cls := .type "list", data := .seq vs.toArray }, if_pos rfl⟩) (fun b u z => ?_) (fun b z => ?_) fun _ => hk
    · by_cases hb : b = a
      · exact .inr ⟨_, _, if_pos hb⟩
      · exact .inl (if_neg hb)
    · by_cases hb : b = a
      · have z' := (if_pos hb).symm.trans z
        cases z'
        subst hb
        exact ⟨ha, by rw [List.length_map]; exact hl, vs, _, rv, ha⟩
      · have z' := (if_neg hb).symm.trans z
        cases z'
    · by_cases hb : b = a
      · exact hb
      · exact absurd (if_neg hb) z
theorem walkG {l : PySem.W.OpenLaw} {n k : Nat} {q : Program} {loose : List Str} {lv : List (Str × PySem.W.WData)} {YP : World → Heap → Prop} {d : DefRec} {K : Params → PySem.W.Frag} {x : Str} {m : MF}
    (hn : l.most = some n) (hn2 : n ≤ sizeLine) (hdf : d.params.defaults = []) (hr : Room k callerA)
    (hY : ∀ (w : World) (h : Heap), YP w h → (K w.params).In h)
    (F : ∀ (w : World) (mg : Str → Option Value) (fa : Addr) (h : Heap), (K w.params).In h → h.Ns mainGlobals mg → PySem.W.LooseAre lv mg h → mg d.name = some (.ref fa) →
      ∃ (J : PySem.W.Frag) (fd : FuncData), J.In h ∧ Binds J fd [x] [] ∧
        ∀ base : Heap, J.In base → base.Ns mainGlobals mg → FnG l.prog w J mg base k fa fd [x] m)
    (hm : ∀ ns : List Int, ns.length ≤ n → (∀ z ∈ ns, Builtin.Int.intBits z ≤ 1048576) → ∃ h', m [scr ns] [] = .ok (.bl true) h') :
    PySem.W.WalkO q loose (PySem.W.XL q lv) YP l.row.toRowW d [] (fun f vs => PySem.call f vs) := by
  refine Att.attach_callB hn hdf fun w s₀ s₁ mg mb fa o pm cd doc a vs ns G Y ho hd hcd hmg hobj hints hlen hbits hg => ?_
  have KX := hY w _ Y
  obtain ⟨J, fd, hJ, hb, hF⟩ := F w mg fa _ KX G.T.g G.X.2 hmg
  exact law_callG hJ G.T.g G.T.b G.T.builtins G.T.nolimit hg hobj hints (Nat.le_trans hlen hn2) hr hF hb (hm ns hlen hbits)
end Mir
namespace Mir
open PySem PySem.Spec PyProof.Rows L2
/-- texts -/
inductive StrsV : List (List Nat) → List Value → Prop where
  | nil : StrsV [] []
  | cons {s : List Nat} {t : Tok} {ss : List (List Nat)} {us : List Value} {x : Str} (e : x = tx s) (h : StrsV ss us) : StrsV (s :: ss) (.str x t :: us)
theorem StrsV.vals : ∀ {ss : List (List Nat)} {us : List Value}, StrsV ss us → Vals (ss.map fun s => V.str (tx s)) us
  | _, _, .nil => .nil
  | _, _, .cons (t := t) e h => .cons ⟨t, by rw [e]⟩ h.vals
theorem strs_rv {K : PySem.W.Frag} {μ : List Addr} {H : Hp} : ∀ ss : List (List Nat), RVs K μ H (ss.map D.str) (ss.map fun s => V.str (tx s))
  | [] => .nil
  | s :: r => .cons (.str s) (strs_rv r)
/-- a tuple of texts of the module -/
structure GT (K : PySem.W.Frag) (mg : Str → Option Value) (x : Str) (ds : List D) : Prop where
  ex : ∃ (ss : List (List Nat)) (a : Addr) (o : Obj) (its : Array Value) (nn : Nat), ds = ss.map .str ∧ mg x = some (.ref a) ∧ K.lookup a = some o ∧ o.cls = .type "tuple" ∧ o.data = .seq its nn ∧ its.size ≤ sizeLine ∧ StrsV ss its.toList
theorem se_gt {W : WX} {X : Cx} {x : Str} {pos : Pos} {ds : List D} (hg : Gl X x) (g : GT X.K X.mg x ds) (hd : (x == ("__debug__" : Str)) = false := by decide) : SE W X (.Name x pos) (eLit (.tup ds)) :=
  let ⟨ss, _, _, _, _, e, h0, h1, h2, h3, h4, h5⟩ := g.ex
  by
    subst e
    exact se_kt hg h0 h1 h2 h3 h4 h5.vals (fun μ H => strs_rv ss) hd
theorem gt_up {K J : PySem.W.Frag} {mg : Str → Option Value} {x : Str} {ds : List D} (hs : Sub K J) (g : GT K mg x ds) : GT J mg x ds := let ⟨ss, a, o, its, nn, e, h1, h2, h3⟩ := g.ex; ⟨ss, a, o, its, nn, e, h1, hs _ _ h2, h3⟩
/-- a plain constant of the module -/
def GC (mg : Str → Option Value) (x : Str) (v : V) : Prop := ∃ u, mg x = some u ∧ RelV v u
/-- a def of the module -/
structure Df (K : PySem.W.Frag) (mg : Str → Option Value) (x : Str) (st : Stmt) (ps : List Str) : Prop where
  ex : ∃ f fd, L2.Fun K x x st f fd ∧ mg x = some (.ref f) ∧ Binds K fd ps []
structure Dm (K : PySem.W.Frag) (mg : Str → Option Value) (c x : String) (qual : Str) (st : Stmt) (ps : List Str) : Prop where
  ex : ∃ C f fd, mg (nm c) = some (.ref C) ∧ Cls K C ∧ Meth K C (nm x) f ∧ L2.Fun K (nm x) qual st f fd ∧ Binds K fd ps []
structure Di (K : PySem.W.Frag) (mg : Str → Option Value) (c : String) (qual : Str) (st : Stmt) (ps : List Str) : Prop where
  ex : ∃ C f fd, mg (nm c) = some (.ref C) ∧ Mk K C f ∧ L2.Fun K "__init__" qual st f fd ∧ Binds K fd ps []
section
variable {P : Program} {w : World} {K : PySem.W.Frag} {mg : Str → Option Value} {base : Heap} {k : Nat} {x qual : Str} {c y : String} {st : Stmt} {ps : List Str} {m : MF}
theorem glo_of (d : Df K mg x st ps) (h : ∀ f fd, L2.Fun K x x st f fd → FnG P w K mg base k f fd ps m) : Glo P w K mg base k x m :=
  let ⟨f, fd, F, hm, b⟩ := d.ex
  ⟨f, fd, ps, h f fd F, hm, F.kp, b⟩
theorem gmet_of (d : Dm K mg c y qual st ps) (h : ∀ f fd, L2.Fun K (nm y) qual st f fd → FnG P w K mg base k f fd ps m) : GMet P w K mg base k c y m :=
  let ⟨C, f, fd, hm, cl, me, F, b⟩ := d.ex
  ⟨C, f, fd, ps, hm, cl, me, h f fd F, b⟩
theorem gmak_of (d : Di K mg c qual st ps) (h : ∀ f fd, L2.Fun K "__init__" qual st f fd → FnG P w K mg base k f fd ps m) : GMak P w K mg base k c m :=
  let ⟨C, f, fd, hm, mk, F, b⟩ := d.ex
  ⟨C, f, fd, ps, hm, mk, h f fd F, b⟩
theorem fnG_stuck {f : Addr} {fd : FuncData} : FnG P w K mg base k f fd ps fun _ _ => .stuck :=
  ⟨fun _ _ h => absurd rfl h, fun A outer s H args us vs Q E μ ds mh hr hg e0 hb r rv rl h => h.elim⟩
theorem df_up {J : PySem.W.Frag} (hs : Sub K J) (d : Df K mg x st ps) : Df J mg x st ps := let ⟨f, fd, F, hm, b⟩ := d.ex; ⟨f, fd, fun_up hs F, hm, binds_up hs b⟩
theorem dm_up {J : PySem.W.Frag} (hs : Sub K J) (d : Dm K mg c y qual st ps) : Dm J mg c y qual st ps := let ⟨C, f, fd, hm, cl, me, F, b⟩ := d.ex; ⟨C, f, fd, hm, cls_up hs cl, meth_up hs me, fun_up hs F, binds_up hs b⟩
theorem di_up {J : PySem.W.Frag} (hs : Sub K J) (d : Di K mg c qual st ps) : Di J mg c qual st ps := let ⟨C, f, fd, hm, mk, F, b⟩ := d.ex; ⟨C, f, fd, hm, mk_up hs mk, fun_up hs F, binds_up hs b⟩
theorem gfld_up {J : PySem.W.Frag} {f : String} (hs : Sub K J) (d : GFld K mg c f) : GFld J mg c f := let ⟨C, hm, cl, n⟩ := d.ex; ⟨C, hm, cls_up hs cl, noattr_up hs n⟩
/-! what k_is finds -/
theorem df_mk {h : Heap} {f : Addr} {oc kV dc pm cd ct : Value} {od an : Option Addr} {sl : Array (Option Value)} (X : K.In h) (G : h.Ns mainGlobals mg) (a : PySem.W.nsIn K mainGlobals x = some (some (.ref f)))
    (l : K.lookup f = some ⟨oc, od, .func (PySem.W.fnOf x x (defArgs st) (defBody st) (defScope st) .none kV dc pm an cd ct), sl⟩) (c : PySem.W.codeIn K cd x = true) (k : PySem.W.keepIn K (.ref f) = true)
    (hb : ∀ (kV doc pm : Value) (an : Option Addr) (cdv ct : Value) (us : List Value), us.length = ps.length → bindArgs (PySem.W.fnOf x x (defArgs st) (defBody st) (defScope st) .none kV doc pm an cdv ct) ⟨us, []⟩ = pure (ps.zip us)) : Df K mg x st ps :=
  let F := fun_mk (st := st) l c k
  ⟨f, _, F, PySem.W.mg_of X G a, F.binds hb⟩
theorem dm_mk {h : Heap} {C f : Addr} {oc kV dc pm cd ct : Value} {od an : Option Addr} {sl : Array (Option Value)} (X : K.In h) (G : h.Ns mainGlobals mg) (aC : PySem.W.nsIn K mainGlobals (nm c) = some (some (.ref C)))
    (pg : PySem.W.plainGet K C Str.empty = true) (hd : PySem.W.hasDictIn K C = true) (po : PySem.W.plainOver K C = true) (sa : PySem.W.findIn K (.ref C) "__setattr__" = some (some (.builtin "object.__setattr__")))
    (a : PySem.W.findIn K (.ref C) (nm y) = some (some (.ref f))) (i : PySem.W.isFn K (.ref f) = true)
    (l : K.lookup f = some ⟨oc, od, .func (PySem.W.fnOf (nm y) qual (defArgs st) (defBody st) (defScope st) .none kV dc pm an cd ct), sl⟩) (cc : PySem.W.codeIn K cd qual = true) (k : PySem.W.keepIn K (.ref f) = true)
    (hb : ∀ (kV doc pm : Value) (an : Option Addr) (cdv ct : Value) (us : List Value), us.length = ps.length → bindArgs (PySem.W.fnOf (nm y) qual (defArgs st) (defBody st) (defScope st) .none kV doc pm an cdv ct) ⟨us, []⟩ = pure (ps.zip us)) : Dm K mg c y qual st ps :=
  let F := fun_mk (st := st) l cc k
  ⟨C, f, _, PySem.W.mg_of X G aC, ⟨pg, hd, po, sa⟩, ⟨a, i, k⟩, F, F.binds hb⟩
theorem di_mk {h : Heap} {C f : Addr} {oc kV dc pm cd ct : Value} {od an : Option Addr} {sl : Array (Option Value)} (X : K.In h) (G : h.Ns mainGlobals mg) (aC : PySem.W.nsIn K mainGlobals (nm c) = some (some (.ref C)))
    (mk : PySem.W.makesIn K C = true) (kc : PySem.W.keepIn K (.ref C) = true)
    (a : PySem.W.findIn K (.ref C) "__init__" = some (some (.ref f))) (i : PySem.W.isFn K (.ref f) = true)
    (l : K.lookup f = some ⟨oc, od, .func (PySem.W.fnOf "__init__" qual (defArgs st) (defBody st) (defScope st) .none kV dc pm an cd ct), sl⟩) (cc : PySem.W.codeIn K cd qual = true) (k : PySem.W.keepIn K (.ref f) = true)
    (hb : ∀ (kV doc pm : Value) (an : Option Addr) (cdv ct : Value) (us : List Value), us.length = ps.length → bindArgs (PySem.W.fnOf "__init__" qual (defArgs st) (defBody st) (defScope st) .none kV doc pm an cdv ct) ⟨us, []⟩ = pure (ps.zip us)) : Di K mg c qual st ps :=
  let F := fun_mk (st := st) l cc k
  ⟨C, f, _, PySem.W.mg_of X G aC, ⟨mk, a, i, kc⟩, F, F.binds hb⟩
theorem gfld_mk {f : String} {h : Heap} {C : Addr} (X : K.In h) (G : h.Ns mainGlobals mg) (aC : PySem.W.nsIn K mainGlobals (nm c) = some (some (.ref C)))
    (pg : PySem.W.plainGet K C Str.empty = true) (hd : PySem.W.hasDictIn K C = true) (po : PySem.W.plainOver K C = true) (sa : PySem.W.findIn K (.ref C) "__setattr__" = some (some (.builtin "object.__setattr__")))
    (n : PySem.W.findIn K (.ref C) (nm f) = some none) : GFld K mg c f := ⟨C, PySem.W.mg_of X G aC, ⟨pg, hd, po, sa⟩, n⟩
theorem gc_str {h : Heap} {s : Str} {t : Tok} (X : K.In h) (G : h.Ns mainGlobals mg) (a : PySem.W.nsIn K mainGlobals x = some (some (.str s t))) : GC mg x (.str s) := ⟨_, PySem.W.mg_of X G a, t, rfl⟩
theorem gc_int {h : Heap} {i : Int} {t : Tok} (X : K.In h) (G : h.Ns mainGlobals mg) (a : PySem.W.nsIn K mainGlobals x = some (some (.int i t))) : GC mg x (.int i) := ⟨_, PySem.W.mg_of X G a, t, rfl⟩
end
theorem gt_strs {K : PySem.W.Frag} {mg : Str → Option Value} {x : Str} {h : Heap} {a : Addr} {od : Option Addr} {its : Array Value} {nn : Nat} {sl : Array (Option Value)} {ss : List (List Nat)} (X : K.In h) (G : h.Ns mainGlobals mg) (e : PySem.W.nsIn K mainGlobals x = some (some (.ref a)))
    (l : K.lookup a = some ⟨.type "tuple", od, .seq its nn, sl⟩) (hz : its.size ≤ 1000) (hs : StrsV ss its.toList) : GT K mg x (ss.map .str) :=
  ⟨ss, a, _, its, nn, rfl, PySem.W.mg_of X G e, l, rfl, rfl, Nat.le_trans hz (by decide), hs⟩
end Mir

namespace Mir
open PySem PySem.Spec PyProof.Rows L2
section
variable {W : WX} {X : Cx} {a b c : Expr} {pos : Pos} {ma mb mc : ME}
theorem rd_chain {r r' : R2} {f g : D → D → MH → R D} (hf : Op2 X.K X.mg r f) (hg : Op2 X.K X.mg r' g) (σ : L2.St) (H : Hp) (Q : VK) (h : rdE X.K X.mg W (eChain f g ma mb mc) σ H Q) : tChain r r' (rdE X.K X.mg W ma) (rdE X.K X.mg W mb) (rdE X.K X.mg W mc) σ H Q := by
  obtain ⟨μ, ρ, mh, re, rl, p⟩ := h
  refine ⟨μ, ρ, mh, re, rl, (PostR.bind (rel := relV X.K) p).mono fun v H1 ⟨μ1, x, mh1, e1, rl1, rx, p1⟩ => ?_⟩
  refine ⟨μ1, ρ, mh1, re.ext rl e1, rl1, (PostR.bind (rel := relV X.K) p1).mono fun u H2 ⟨μ2, y, mh2, e2, rl2, ry, p2⟩ => ?_⟩
  refine hf _ μ2 H2 mh2 x y v u _ rl2 (RV.ext rl1 e2 rx) ry ((PostR.bind (rel := relV X.K) p2).mono fun w' H3 ⟨μ3, z, mh3, e3, rl3, rz, p3⟩ => ?_)
  cases z with
  | bl k =>
    refine ⟨k, rv_bl rz, ?_⟩
    cases k with
    | true =>
      refine ⟨μ3, ρ, mh3, ((re.ext rl e1).ext rl1 e2).ext rl2 e3, rl3, (PostR.bind (rel := relV X.K) p3).mono fun q H4 ⟨μ4, w2, mh4, e4, rl4, rw4, p4⟩ => ?_⟩
      exact hg _ μ4 H4 mh4 y w2 u q Q rl4 (RV.ext rl3 e4 (RV.ext rl2 e3 ry)) rw4 p4
    | false => exact p3 μ3 _ H3 (.refl _ _) rl3 (.bl false)
  | non => exact p3.elim
  | int i => exact p3.elim
  | str s => exact p3.elim
  | tup s => exact p3.elim
  | rl s => exact p3.elim
  | loc s => exact p3.elim
theorem st_chain {op op' : CmpOp} {r r' : R2} {f g : D → D → MH → R D} (hf : Op2 X.K X.mg r f) (hg : Op2 X.K X.mg r' g)
    (pf : PT X (.Compare a [op, op'] [b, c] pos) (tTest (tChain r r' (rdE X.K X.mg W ma) (rdE X.K X.mg W mb) (rdE X.K X.mg W mc)))) : ST W X (.Compare a [op, op'] [b, c] pos) (tVal (eChain f g ma mb mc)) := by
  refine pf.weak fun σ H Q ⟨μ, ρ, mh, re, rl, p⟩ => ?_
  refine rd_chain hf hg σ H _ ⟨μ, ρ, mh, re, rl, (PostR.bind (rel := relV X.K) p).mono fun v H1 ⟨μ1, d, mh1, e1, rl1, r, p1⟩ => ?_⟩
  cases d with
  | bl k => exact ⟨k, rv_bl r, p1 μ1 _ H1 (.refl _ _) rl1 rfl⟩
  | non => exact p1.elim
  | int i => exact p1.elim
  | str s => exact p1.elim
  | tup s => exact p1.elim
  | rl s => exact p1.elim
  | loc s => exact p1.elim
end
section
variable {K : PySem.W.Frag} {mg : Str → Option Value}
def mAddI (x y : D) (h : MH) : R D := match x, y with
  | .int i, .int j => .ok (.int (i + j)) h
  | _, _ => .stuck
theorem o_addI : Op2 K mg (fun x y H Q => ∃ i j, x = .int i ∧ y = .int j ∧ Q (.int (i + j)) H) mAddI := by
  intro W μ H mh x y v u Q rl rx ry p
  unfold mAddI at p
  split at p
  · cases rx; cases ry
    exact ⟨_, _, rfl, rfl, fin rl p (.int _)⟩
  · exact p.elim
end
end Mir

namespace Mir
open PySem PySem.Spec PyProof.Rows L2
theorem strs_read {h : Heap} {R : PySem.W.WRecords} {cl : Str → Option Addr} : ∀ {ss : List (List Nat)} {us : List Value} {as : List Addr}, PySem.W.ReadsAllW R cl h us (ss.map fun s => .str (tx s)) as → StrsV ss us
  | [], us, as, r => by
    cases r
    exact .nil
  | s :: ss, us, as, r => by
    cases r with
    | cons r1 r2 =>
      cases r1
      exact .cons rfl (strs_read r2)
/-- a tuple of texts that the top has reckoned -/
theorem gt_loose {lv : List (Str × PySem.W.WData)} {K : PySem.W.Frag} {mg : Str → Option Value} {h : Heap} {x : Str} {ss : List (List Nat)} (X : K.In h) (L : PySem.W.LooseAre lv mg h) (hz : ss.length ≤ 1000) (hm : (x, PySem.W.WData.tuple (ss.map fun s => .str (tx s))) ∈ lv) :
    ∃ J, Sub K J ∧ PySem.W.Frag.In J h ∧ GT J mg x (ss.map .str) := by
  obtain ⟨v, h1, h2⟩ := L.val _ hm
  cases h2 with
  | tuple e1 e2 e3 e4 =>
    rename_i a o vs n
    have st := strs_read e4
    have hl := st.vals.length
    rw [List.length_map] at hl
    exact ⟨_, sub_more K a o, in_more X e1, ss, a, o, vs, n, rfl, h1, look_more X e1, e2, e3, by
      have : vs.size = ss.length := by rw [hl]; simp
      rw [this]
      exact Nat.le_trans hz (by decide), st⟩
end Mir
set_option Elab.async false
set_option linter.all false
set_option maxRecDepth 100000
set_option autoImplicit false
/-! Mirror: what is reckoned with mirrored bodies. -/
namespace Mir
open PySem
def notLoc : D → Bool
  | .loc _ => false
  | _ => true
theorem gc_same {d : D} {h : MH} {n : Nat} (hd : notLoc d = true) (hn : h.length = n) : gc n (.ok d h) = .ok d h := by
  subst hn
  unfold gc
  dsimp only
  split
  · rw [List.take_length]
  · cases d <;> first | rfl | cases hd
theorem gc_ev {d : D} {h' : MH} {n : Nat} (hd : notLoc d = true) (hn : n ≤ h'.length) : ∃ h2, gc n (.ok d h') = .ok d h2 ∧ n ≤ h2.length ∧ ∀ i, i < n → h2[i]? = h'[i]? := by
  unfold gc
  dsimp only
  split
  · refine ⟨h'.take n, rfl, by simp [hn], fun i hi => by rw [List.getElem?_take, if_pos hi]⟩
  · exact ⟨h', (by cases d <;> first | rfl | cases hd), hn, fun _ _ => rfl⟩
theorem mulOk_small {i j : Int} (h1 : i.natAbs < 2 ^ 40000000) (h2 : j.natAbs < 2 ^ 40000000) : mulOk i j = true := by
  have a : ∀ n : Nat, n < 2 ^ 40000000 → n.log2 < 40000001 := fun n hn => by
    by_cases h0 : n = 0
    · subst h0; rw [show Nat.log2 0 = 0 by decide]; omega
    · exact Nat.lt_succ_of_lt ((Nat.log2_lt h0).mpr hn)
  have := a _ h1
  have := a _ h2
  unfold mulOk
  exact decide_eq_true (by omega)
theorem mulOk_log {i j : Int} {a b : Nat} (h1 : i.natAbs < 2 ^ a) (h2 : j.natAbs < 2 ^ b) (h : a + b < 100000000) : mulOk i j = true := by
  have l : ∀ (n c : Nat), n < 2 ^ c → n.log2 ≤ c := fun n c hn => by
    by_cases h0 : n = 0
    · subst h0; rw [show Nat.log2 0 = 0 by decide]; omega
    · exact Nat.le_of_lt ((Nat.log2_lt h0).mpr hn)
  have := l _ _ h1
  have := l _ _ h2
  unfold mulOk
  exact decide_eq_true (by omega)
theorem within1 (c : Nat) (l : List Nat) : within [c] l = l.contains c := by
  unfold within
  rw [Bool.eq_iff_iff, List.any_eq_true, List.contains_iff_mem]
  constructor
  · rintro ⟨i, _, h⟩
    have h := of_decide_eq_true h
    have : c ∈ (l.drop i).take 1 := by rw [show ([c] : List Nat).length = 1 from rfl] at h; rw [h]; simp
    exact List.mem_of_mem_drop (List.mem_of_mem_take this)
  · intro hc
    obtain ⟨i, hi, e⟩ := List.mem_iff_getElem.mp hc
    refine ⟨i, by simp; omega, decide_eq_true ?_⟩
    rw [List.drop_eq_getElem_cons hi, e]
    rfl
theorem within0 (l : List Nat) : within [] l = true := by
  unfold within
  rw [List.any_eq_true]
  exact ⟨0, by simp, decide_eq_true (by simp)⟩
theorem atI_nn {α : Type} {xs : List α} {i : Int} (h : 0 ≤ i) : L2.atI xs i = xs[i.toNat]? := by
  unfold L2.atI L2.ixN
  rw [if_pos h]
  split
  · rfl
  · rename_i q
    rw [List.getElem?_eq_none (by omega)]
    rfl
theorem atI_0 {α : Type} {xs : List α} : L2.atI xs 0 = xs[0]? := atI_nn (by decide)
theorem atI_1 {α : Type} {xs : List α} : L2.atI xs 1 = xs[1]? := atI_nn (by decide)
theorem atI_2 {α : Type} {xs : List α} : L2.atI xs 2 = xs[2]? := atI_nn (by decide)
/-- an argument list that fits -/
theorem fnM_of {P N : Nat} {b : MS} {ds : List D} {h h2 : MH} {d : D} (hl : ds.length = P) (hr : runB b N ds h = .ok d h2) (hd : notLoc d = true) (hn : h2.length = h.length) : fnM P N b ds h = .ok d h2 := by
  unfold fnM
  rw [if_pos hl, hr]
  exact gc_same hd hn
theorem fnM_ev {P N : Nat} {b : MS} {ds : List D} {h h' : MH} {d : D} (hl : ds.length = P) (hr : runB b N ds h = .ok d h') (hd : notLoc d = true) (hn : h.length ≤ h'.length) : ∃ h2, fnM P N b ds h = .ok d h2 ∧ h.length ≤ h2.length ∧ ∀ i, i < h.length → h2[i]? = h'[i]? := by
  unfold fnM
  rw [if_pos hl, hr]
  exact gc_ev hd hn
/-- a loop that always goes on -/
theorem for_inv {I : Itb} {b : MB} {body : MS} {xs0 : List D} (Inv : Nat → En → MH → Prop) (hs : ∀ k ρ h, Inv k ρ h → I.same h = true)
    (step : ∀ k x ρ h, xs0[k]? = some x → Inv k ρ h → ∃ ρ1 ρ2 h2, b x ρ = some ρ1 ∧ body ρ1 h = .nx ρ2 h2 ∧ Inv (k + 1) ρ2 h2) :
    ∀ (n k : Nat) (ρ : En) (h : MH), k + n = xs0.length → Inv k ρ h → ∃ ρ' h', forGo I b body (xs0.drop k) ρ h = .nx ρ' h' ∧ Inv xs0.length ρ' h'
  | 0, k, ρ, h, hk, hi => by
    have e : k = xs0.length := by omega
    subst e
    refine ⟨ρ, h, ?_, hi⟩
    rw [List.drop_length]
    unfold forGo
    rw [if_pos (hs _ _ _ hi)]
  | n + 1, k, ρ, h, hk, hi => by
    have hlt : k < xs0.length := by omega
    obtain ⟨ρ1, ρ2, h2, e1, e2, hi2⟩ := step k _ ρ h (List.getElem?_eq_getElem hlt) hi
    obtain ⟨ρ', h', e3, hi3⟩ := for_inv Inv hs step n (k + 1) ρ2 h2 (by omega) hi2
    refine ⟨ρ', h', ?_, hi3⟩
    rw [List.drop_eq_getElem_cons hlt]
    unfold forGo
    rw [if_pos (hs _ _ _ hi), e1]
    dsimp only
    rw [e2]
    exact e3
theorem for_all {I : Itb} {b : MB} {body : MS} (Inv : Nat → En → MH → Prop) (hs : ∀ k ρ h, Inv k ρ h → I.same h = true)
    (step : ∀ k x ρ h, I.items[k]? = some x → Inv k ρ h → ∃ ρ1 ρ2 h2, b x ρ = some ρ1 ∧ body ρ1 h = .nx ρ2 h2 ∧ Inv (k + 1) ρ2 h2)
    {ρ : En} {h : MH} (hi : Inv 0 ρ h) : ∃ ρ' h', forGo I b body I.items ρ h = .nx ρ' h' ∧ Inv I.items.length ρ' h' := by
  have := for_inv Inv hs step I.items.length 0 ρ h (by omega) hi
  rwa [List.drop_zero] at this
theorem rng_get {lo : Int} {n k : Nat} {x : D} (h : (rng lo n)[k]? = some x) : k < n ∧ x = .int (lo + (k : Nat)) := by
  unfold rng at h
  rw [List.getElem?_map, Option.map_eq_some_iff] at h
  obtain ⟨j, hj, rfl⟩ := h
  obtain ⟨hl, e⟩ := List.getElem?_eq_some_iff.mp hj
  rw [List.length_range] at hl
  rw [List.getElem_range] at e
  subst e
  exact ⟨hl, rfl⟩
theorem rng_len (lo : Int) (n : Nat) : (rng lo n).length = n := by simp [rng]
/-- for k in range(n): .. that always goes on -/
theorem for_rng {i : Nat} {body : MS} {lo : Int} {n : Nat} (Inv : Nat → En → MH → Prop)
    (step : ∀ k ρ h, k < n → Inv k ρ h → ∃ ρ2 h2, body (ρ.set i (some (.int (lo + (k : Nat))))) h = .nx ρ2 h2 ∧ Inv (k + 1) ρ2 h2)
    {ρ : En} {h : MH} (hi : Inv 0 ρ h) : ∃ ρ' h', forGo ⟨rng lo n, []⟩ (bName i) body (rng lo n) ρ h = .nx ρ' h' ∧ Inv n ρ' h' := by
  have := for_all (I := ⟨rng lo n, []⟩) (b := bName i) (body := body) Inv (fun _ _ _ _ => rfl) (fun k x ρ h hx hk => ?_) hi
  · rwa [show (⟨rng lo n, []⟩ : Itb).items.length = n from rng_len lo n] at this
  · obtain ⟨hl, rfl⟩ := rng_get hx
    obtain ⟨ρ2, h2, e, q⟩ := step k ρ h hl hk
    exact ⟨_, ρ2, h2, rfl, e, q⟩
theorem cut_nat {α : Type} (xs : List α) (i j : Nat) (hi : i ≤ j) : cutL xs (some (i : Int)) (some (j : Int)) = (xs.drop i).take (j - i) := by
  unfold cutL
  rw [HT.sIx_nat, HT.sIx_nat]
  by_cases h : j ≤ xs.length
  · have e1 : min i xs.length = i := by omega
    have e2 : min j xs.length = j := by omega
    rw [e1, e2]
  · have e2 : min j xs.length = xs.length := by omega
    rw [e2]
    by_cases h2 : i ≤ xs.length
    · have e1 : min i xs.length = i := by omega
      rw [e1, List.take_of_length_le (by simp), List.take_of_length_le (by simp; omega)]
    · have e1 : min i xs.length = xs.length := by omega
      rw [e1, List.drop_length, List.drop_eq_nil_of_le (by omega)]
      simp
theorem iRange1_i {as : MA} {ρ : En} {h h1 : MH} {i : Int} (e : as ρ h = .ok [.int i] h1) (h1' : -100000000 < i) (h2' : i < 100000000) : iRange1 as ρ h = .ok ⟨rng 0 i.toNat, []⟩ h1 := by
  unfold iRange1
  rw [e]
  simp only [bind_ok]
  rw [if_pos ⟨h1', h2'⟩]
theorem iRange1_nat {as : MA} {ρ : En} {h h1 : MH} {n : Nat} {i : Int} (e : as ρ h = .ok [.int i] h1) (hi : i = (n : Int)) (hn : n < 100000000) : iRange1 as ρ h = .ok ⟨rng 0 n, []⟩ h1 := by
  have q := iRange1_i e (by omega) (by omega)
  have z : i.toNat = n := by omega
  rw [z] at q
  exact q
theorem gc_new (h : MH) (o : MO) : gc h.length (.ok (.loc h.length) (h ++ [o])) = .ok (.loc h.length) (h ++ [o]) := by
  unfold gc
  dsimp only
  split
  · rename_i q
    rw [Bool.and_eq_true] at q
    exact absurd (of_decide_eq_true (show decide (h.length < h.length) = true from q.2)) (Nat.lt_irrefl _)
  · rw [show (h ++ [o])[h.length]? = some o by simp]
    dsimp only
    split
    · rw [List.take_left]
    · rfl
theorem fnM_new {P N : Nat} {b : MS} {ds : List D} {h : MH} {o : MO} (hl : ds.length = P) (hr : runB b N ds h = .ok (.loc h.length) (h ++ [o])) : fnM P N b ds h = .ok (.loc h.length) (h ++ [o]) := by
  unfold fnM
  rw [if_pos hl, hr]
  exact gc_new h o
theorem get_last (h : MH) (o : MO) : (h ++ [o])[h.length]? = some o := by simp
theorem set_last (h : MH) (o u : MO) : (h ++ [o]).set h.length u = h ++ [u] := by simp
theorem comp_map {I : Itb} {b : MB} {t : MT} {e : ME} {ρ : En} {h : MH} (hs : I.same h = true) (f : D → D) : ∀ (xs acc : List D), (∀ x ∈ xs, ∃ ρ1, b x ρ = some ρ1 ∧ t ρ1 h = .ok true h ∧ e ρ1 h = .ok (f x) h) → compGo I b t e ρ xs acc h = .ok (acc ++ xs.map f) h
  | [], acc, _ => by
    unfold compGo
    rw [if_pos hs]
    simp
  | x :: xs, acc, q => by
    obtain ⟨ρ1, e1, e2, e3⟩ := q x (by simp)
    unfold compGo
    rw [if_pos hs, e1]
    dsimp only
    rw [e2]
    dsimp only
    rw [if_pos rfl, e3]
    dsimp only
    rw [comp_map hs f xs _ fun y hy => q y (by simp [hy])]
    simp
theorem comp_some {I : Itb} {b : MB} {t : MT} {e : ME} {ρ : En} {h : MH} (hs : I.same h = true) : ∀ (xs acc : List D), (∀ x ∈ xs, ∃ ρ1 c y, b x ρ = some ρ1 ∧ t ρ1 h = .ok c h ∧ e ρ1 h = .ok y h) → ∃ ys, compGo I b t e ρ xs acc h = .ok ys h ∧ ys.length ≤ acc.length + xs.length
  | [], acc, _ => by
    unfold compGo
    rw [if_pos hs]
    exact ⟨_, rfl, by simp⟩
  | x :: xs, acc, q => by
    obtain ⟨ρ1, c, y, e1, e2, e3⟩ := q x (by simp)
    unfold compGo
    rw [if_pos hs, e1]
    dsimp only
    rw [e2]
    dsimp only
    cases c with
    | true =>
      rw [if_pos rfl, e3]
      dsimp only
      obtain ⟨ys, h1, h2⟩ := comp_some hs xs (acc ++ [y]) fun z hz => q z (by simp [hz])
      refine ⟨ys, h1, ?_⟩
      simp only [List.length_append, List.length_cons, List.length_nil] at h2 ⊢
      omega
    | false =>
      rw [if_neg Bool.false_ne_true]
      obtain ⟨ys, h1, h2⟩ := comp_some hs xs acc fun z hz => q z (by simp [hz])
      refine ⟨ys, h1, ?_⟩
      rw [List.length_cons]
      omega
theorem sCons_nx {a b : MS} {ρ ρ1 : En} {h h1 : MH} (e : a ρ h = .nx ρ1 h1) : sCons a b ρ h = b ρ1 h1 := by
  unfold sCons
  rw [e]
  rfl
theorem runB_rt {b : MS} {N : Nat} {ds : List D} {ρ : En} {h h1 : MH} {d : D} (hρ : ds.map some ++ List.replicate (N - ds.length) none = ρ) (e : b ρ h = .rt d h1) : runB b N ds h = .ok d h1 := by
  subst hρ
  unfold runB
  rw [e]
theorem sFor_nx {it : MI} {b : MB} {body : MS} {ρ ρ' : En} {h h1 h' : MH} {I : Itb} (e : it ρ h = .ok I h1) (f : forGo I b body I.items ρ h1 = .nx ρ' h') : sFor it b body ρ h = .nx ρ' h' := by
  unfold sFor
  rw [e]
  exact f
theorem gc_keep {d : D} {h' : MH} {n i : Nat} {o : MO} (hd : notLoc d = true) (hi : i < n) (e : h'[i]? = some o) (hb : MO.bel n o = false) : gc n (.ok d h') = .ok d h' := by
  have w : wf n h' = false := by
    unfold wf
    rw [List.all_eq_false]
    refine ⟨o, ?_, by rw [hb]; exact Bool.false_ne_true⟩
    rw [List.mem_iff_getElem?]
    exact ⟨i, by rw [List.getElem?_take, if_pos hi]; exact e⟩
  unfold gc
  dsimp only
  rw [w, Bool.false_and, if_neg Bool.false_ne_true]
  cases d <;> first | rfl | cases hd
theorem fnM_keep {P N : Nat} {b : MS} {ds : List D} {h h' : MH} {d : D} {i : Nat} {o : MO} (hl : ds.length = P) (hr : runB b N ds h = .ok d h') (hd : notLoc d = true) (hi : i < h.length) (e : h'[i]? = some o) (hb : MO.bel h.length o = false) : fnM P N b ds h = .ok d h' := by
  unfold fnM
  rw [if_pos hl, hr]
  exact gc_keep hd hi e hb
theorem eComp_ok {it : MI} {b : MB} {t : MT} {e : ME} {vs : List Nat} {ρ ρ1 : En} {h h1 : MH} {I : Itb} {ds : List D} (e1 : it ρ h = .ok I h1) (hw : wipeM ρ vs = ρ1) (e2 : compGo I b t e ρ1 I.items [] h1 = .ok ds h1) (hl : ds.length ≤ 100000) : eComp it b t e vs ρ h = .ok (.loc h1.length) (h1 ++ [.lst ds]) := by
  subst hw
  unfold eComp
  rw [e1]
  simp only [bind_ok]
  rw [e2]
  simp only [bind_ok]
  rw [if_pos hl]
end Mir
set_option Elab.async false
set_option linter.all false
set_option maxRecDepth 100000
set_option autoImplicit false
/-! printed by gen.py: what the defs compute. -/
namespace K65
open Mir

inductive FN where
  | is_name
  | common
  | lowest
  | fraction
  | saying_text
  | value_text
  | point_text
  | _word_from
  | _tokens
  | Reader___init__
  | Reader_now
  | Reader_place
  | Reader_take
  | Reader_item
  | Reader_pair
  | read_saying
  | _digits_from
  | read_value
  | _law_begun
  | _law_draw
  | _law_of
  | _law_saying
  | _law_lowest
  | _law_name
  | _law_written
  | _law_blanks
  | _law_loose
  | _law_value
  | _law_value_written
  | _law_saying_right
  | _law_values_right
  | law

noncomputable def b_is_name (O : FN → MF) : MS :=
  (sCons (sIf (tOr (tNot (tVal (eUn (mIsi "str") (eVar 0)))) (tOr (tVal (eBin mEq (eVar 0) (eLit (.str [])))) (tOr (tVal (eBin mGt (eApp fLen (aCons (eVar 0) aNil)) (eLit (.int 8)))) (tVal (eBin mIn (eVar 0) (eLit (.tup ([[121, 101, 115], [110, 111], [110, 111, 116], [112, 108, 117, 115], [116, 105, 109, 101, 115], [108, 101, 97, 100, 115], [97, 110, 100], [111, 114], [115, 97, 109, 101]].map D.str)))))))) (sRet (eLit (.bl false))) sNil)
  (sCons (sIf (tVal (eBin mNotIn (eBin mIx (eVar 0) (eLit (.int 0))) (eLit (.str [97, 98, 99, 100, 101, 102, 103, 104, 105, 106, 107, 108, 109, 110, 111, 112, 113, 114, 115, 116, 117, 118, 119, 120, 121, 122])))) (sRet (eLit (.bl false))) sNil)
  (sRet (eApp fAll (aCons (eComp (iAny (eVar 0)) (bName 1) tYes (eBin mIn (eVar 1) (eLit (.str [97, 98, 99, 100, 101, 102, 103, 104, 105, 106, 107, 108, 109, 110, 111, 112, 113, 114, 115, 116, 117, 118, 119, 120, 121, 122, 48, 49, 50, 51, 52, 53, 54, 55, 56, 57]))) [1]) aNil)))))

noncomputable def b_common (O : FN → MF) : MS :=
  (sCons (sPar [2, 3] (aCons (eApp fAbs (aCons (eVar 0) aNil)) (aCons (eApp fAbs (aCons (eVar 1) aNil)) aNil)))
  (sCons (sWhile (tVal (eBin mGt (eVar 3) (eLit (.int 0)))) (sPar [2, 3] (aCons (eVar 3) (aCons (eBin mMod (eVar 2) (eVar 3)) aNil))))
  (sRet (eVar 2))))

noncomputable def b_lowest (O : FN → MF) : MS :=
  (sCons (sSet 2 (eApp (O .common) (aCons (eVar 0) (aCons (eVar 1) aNil))))
  (sCons (sIf (tVal (eBin mLt (eVar 1) (eLit (.int 0)))) (sSet 2 (eUn mNeg (eVar 2))) sNil)
  (sRet (eTup (aCons (eBin mDiv (eVar 0) (eVar 2)) (aCons (eBin mDiv (eVar 1) (eVar 2)) aNil))))))

noncomputable def b_fraction (O : FN → MF) : MS :=
  (sCons (sSet 2 (eApp (O .lowest) (aCons (eVar 0) (aCons (eVar 1) aNil))))
  (sCons (sIf (tNot (tVal (eChain mLe mLe (eLit (.int 0)) (eBin mIx (eVar 2) (eLit (.int 0))) (eBin mIx (eVar 2) (eLit (.int 1)))))) sNever sNil)
  (sRet (eVar 2))))

noncomputable def b_saying_text (O : FN → MF) : MS :=
  (sCons (sIf (tVal (eBin mEq (eBin mIx (eVar 0) (eLit (.int 0))) (eLit (.str [117, 110, 107, 110, 111, 119, 110])))) (sRet (eBin mIx (eVar 0) (eLit (.int 1)))) sNil)
  (sCons (sIf (tVal (eBin mEq (eBin mIx (eVar 0) (eLit (.int 0))) (eLit (.str [110, 111, 116])))) (sRet (eJoin [(eLit (.str [110, 111, 116, 32])), (eFmt (eApp (O .saying_text) (aCons (eBin mIx (eVar 0) (eLit (.int 1))) aNil)))])) sNil)
  (sCons (sIf (tVal (eBin mEq (eApp fLen (aCons (eVar 0) aNil)) (eLit (.int 1)))) (sRet (eBin mIx (eVar 0) (eLit (.int 0)))) sNil)
  (sRet (eJoin [(eLit (.str [40])), (eFmt (eApp (O .saying_text) (aCons (eBin mIx (eVar 0) (eLit (.int 1))) aNil))), (eLit (.str [32])), (eFmt (eBin mIx (eVar 0) (eLit (.int 0)))), (eLit (.str [32])), (eFmt (eApp (O .saying_text) (aCons (eBin mIx (eVar 0) (eLit (.int 2))) aNil))), (eLit (.str [41]))])))))

noncomputable def b_value_text (O : FN → MF) : MS :=
  (sCons (sIf (tVal (eBin mEq (eBin mIx (eVar 0) (eLit (.int 1))) (eLit (.int 1)))) (sRet (eApp fStr (aCons (eBin mIx (eVar 0) (eLit (.int 0))) aNil))) sNil)
  (sRet (eJoin [(eFmt (eBin mIx (eVar 0) (eLit (.int 0)))), (eLit (.str [47])), (eFmt (eBin mIx (eVar 0) (eLit (.int 1))))])))

noncomputable def b_point_text (O : FN → MF) : MS :=
  (sRet (eMth isStr yJoin (eLit (.str [44, 32])) (aCons (eComp (iZip (aCons (eVar 0) (aCons (eVar 1) aNil))) (bTup (bsCons (bName 2) (bsCons (bName 3) bsNil))) tYes (eJoin [(eFmt (eVar 2)), (eLit (.str [61])), (eFmt (eApp (O .value_text) (aCons (eVar 3) aNil)))]) [2, 3]) aNil)))

noncomputable def b__word_from (O : FN → MF) : MS :=
  (sCons (sSet 2 (eVar 1))
  (sCons (sWhile (tAnd (tVal (eBin mLt (eVar 2) (eApp fLen (aCons (eVar 0) aNil)))) (tVal (eBin mIn (eBin mIx (eVar 0) (eVar 2)) (eLit (.str [97, 98, 99, 100, 101, 102, 103, 104, 105, 106, 107, 108, 109, 110, 111, 112, 113, 114, 115, 116, 117, 118, 119, 120, 121, 122, 48, 49, 50, 51, 52, 53, 54, 55, 56, 57]))))) (sAug 2 mAddI (eLit (.int 1))))
  (sRet (eSlice (eVar 0) (oSome (eVar 1)) (oSome (eVar 2))))))

noncomputable def b__tokens (O : FN → MF) : MS :=
  (sCons (sSet 1 (eLst aNil))
  (sCons (sSet 2 (eLit (.int 0)))
  (sCons (sWhile (tVal (eBin mLt (eVar 2) (eApp fLen (aCons (eVar 0) aNil)))) (sCons (sIf (tVal (eBin mEq (eBin mIx (eVar 0) (eVar 2)) (eLit (.str [32])))) (sCons (sAug 2 mAddI (eLit (.int 1)))
  sCont) sNil)
  (sCons (sIf (tVal (eBin mIn (eBin mIx (eVar 0) (eVar 2)) (eLit (.str [97, 98, 99, 100, 101, 102, 103, 104, 105, 106, 107, 108, 109, 110, 111, 112, 113, 114, 115, 116, 117, 118, 119, 120, 121, 122])))) (sSet 3 (eApp (O ._word_from) (aCons (eVar 0) (aCons (eVar 2) aNil)))) (sIf (tVal (eBin mIn (eBin mIx (eVar 0) (eVar 2)) (eLit (.str [40, 41])))) (sSet 3 (eBin mIx (eVar 0) (eVar 2))) sNever))
  (sCons (sExpr (eMth isLst yAppend (eVar 1) (aCons (eTup (aCons (eVar 3) (aCons (eVar 2) aNil))) aNil)))
  (sAug 2 mAddI (eApp fLen (aCons (eVar 3) aNil)))))))
  (sRet (eVar 1)))))

noncomputable def b_Reader___init__ (O : FN → MF) : MS :=
  (sCons (sIf (tVal (eBin mGt (eApp fLen (aCons (eVar 1) aNil)) (eLit (.int 4000)))) sNever sNil)
  (sCons (sFld "Reader" "pieces" (eVar 0) (eApp (O ._tokens) (aCons (eVar 1) aNil)))
  (sCons (sFld "Reader" "length" (eVar 0) (eApp fLen (aCons (eVar 1) aNil)))
  (sCons (sFld "Reader" "at" (eVar 0) (eLit (.int 0)))
  (sFld "Reader" "opened" (eVar 0) (eLit (.int 0)))))))

noncomputable def b_Reader_now (O : FN → MF) : MS :=
  (sCons (sIf (tVal (eBin mLt (eUn (mFld "Reader" "at") (eVar 0)) (eApp fLen (aCons (eUn (mFld "Reader" "pieces") (eVar 0)) aNil)))) (sRet (eBin mIx (eBin mIx (eUn (mFld "Reader" "pieces") (eVar 0)) (eUn (mFld "Reader" "at") (eVar 0))) (eLit (.int 0)))) sNil)
  (sRet (eLit (.str []))))

noncomputable def b_Reader_place (O : FN → MF) : MS :=
  (sCons (sIf (tVal (eBin mLt (eUn (mFld "Reader" "at") (eVar 0)) (eApp fLen (aCons (eUn (mFld "Reader" "pieces") (eVar 0)) aNil)))) (sRet (eBin mIx (eBin mIx (eUn (mFld "Reader" "pieces") (eVar 0)) (eUn (mFld "Reader" "at") (eVar 0))) (eLit (.int 1)))) sNil)
  (sRet (eUn (mFld "Reader" "length") (eVar 0))))

noncomputable def b_Reader_take (O : FN → MF) : MS :=
  (sCons (sSet 2 (eMeth "now" "Reader" (O .Reader_now) (eVar 0) aNil))
  (sCons (sIf (tNot (tVal (eVar 1))) sNever sNil)
  (sCons (sFldAug "Reader" "at" mAddI (eVar 0) (eLit (.int 1)))
  (sRet (eVar 2)))))

noncomputable def b_Reader_item (O : FN → MF) : MS :=
  (sCons (sSet 1 (eLit (.int 0)))
  (sCons (sWhile (tVal (eBin mEq (eMeth "now" "Reader" (O .Reader_now) (eVar 0) aNil) (eLit (.str [110, 111, 116])))) (sCons (sExpr (eMeth "take" "Reader" (O .Reader_take) (eVar 0) (aCons (eLit (.bl true)) aNil)))
  (sAug 1 mAddI (eLit (.int 1)))))
  (sCons (sIf (tVal (eBin mEq (eMeth "now" "Reader" (O .Reader_now) (eVar 0) aNil) (eLit (.str [40])))) (sBind (bTup (bsCons (bName 5) (bsCons (bName 4) bsNil))) (eMeth "pair" "Reader" (O .Reader_pair) (eVar 0) aNil)) (sCons (sSet 3 (eMeth "take" "Reader" (O .Reader_take) (eVar 0) (aCons (eOr (eBin mIn (eMeth "now" "Reader" (O .Reader_now) (eVar 0) aNil) (eTup (aCons (eLit (.str [121, 101, 115])) (aCons (eLit (.str [110, 111])) aNil)))) (eApp (O .is_name) (aCons (eMeth "now" "Reader" (O .Reader_now) (eVar 0) aNil) aNil))) aNil)))
  (sPar [5, 4] (aCons (eIf (tVal (eBin mIn (eVar 3) (eTup (aCons (eLit (.str [121, 101, 115])) (aCons (eLit (.str [110, 111])) aNil))))) (eTup (aCons (eVar 3) aNil)) (eTup (aCons (eLit (.str [117, 110, 107, 110, 111, 119, 110])) (aCons (eVar 3) aNil)))) (aCons (eLit (.int 0)) aNil)))))
  (sCons (sFor (iRange1 (aCons (eVar 1) aNil)) (bName 2) (sCons (sAug 4 mAddI (eLit (.int 1)))
  (sSet 5 (eIf (tVal (eBin mLe (eVar 4) (eLit (.int 60)))) (eTup (aCons (eLit (.str [110, 111, 116])) (aCons (eVar 5) aNil))) (eVar 5)))))
  (sRet (eTup (aCons (eVar 5) (aCons (eVar 4) aNil))))))))

noncomputable def b_Reader_pair (O : FN → MF) : MS :=
  (sCons (sExpr (eMeth "take" "Reader" (O .Reader_take) (eVar 0) (aCons (eBin mLt (eUn (mFld "Reader" "opened") (eVar 0)) (eLit (.int 60))) aNil)))
  (sCons (sFldAug "Reader" "opened" mAddI (eVar 0) (eLit (.int 1)))
  (sCons (sBind (bTup (bsCons (bName 3) (bsCons (bName 4) bsNil))) (eMeth "item" "Reader" (O .Reader_item) (eVar 0) aNil))
  (sCons (sSet 1 (eMeth "take" "Reader" (O .Reader_take) (eVar 0) (aCons (eBin mIn (eMeth "now" "Reader" (O .Reader_now) (eVar 0) aNil) (eLit (.tup ([[112, 108, 117, 115], [116, 105, 109, 101, 115], [108, 101, 97, 100, 115], [97, 110, 100], [111, 114], [115, 97, 109, 101]].map D.str)))) aNil)))
  (sCons (sBind (bTup (bsCons (bName 5) (bsCons (bName 6) bsNil))) (eMeth "item" "Reader" (O .Reader_item) (eVar 0) aNil))
  (sCons (sExpr (eMeth "take" "Reader" (O .Reader_take) (eVar 0) (aCons (eBin mEq (eMeth "now" "Reader" (O .Reader_now) (eVar 0) aNil) (eLit (.str [41]))) aNil)))
  (sCons (sFldAug "Reader" "opened" mSub (eVar 0) (eLit (.int 1)))
  (sCons (sSet 2 (eBin mAdd (eLit (.int 1)) (eApp fMax2 (aCons (eVar 4) (aCons (eVar 6) aNil)))))
  (sRet (eTup (aCons (eIf (tVal (eBin mLe (eVar 2) (eLit (.int 60)))) (eTup (aCons (eVar 1) (aCons (eVar 3) (aCons (eVar 5) aNil)))) (eVar 3)) (aCons (eVar 2) aNil))))))))))))

noncomputable def b_read_saying (O : FN → MF) : MS :=
  (sCons (sSet 1 (eMake "Reader" (O .Reader___init__) (aCons (eVar 0) aNil)))
  (sCons (sBind (bTup (bsCons (bName 2) (bsCons (bName 3) bsNil))) (eMeth "item" "Reader" (O .Reader_item) (eVar 1) aNil))
  (sCons (sIf (tVal (eBin mLt (eUn (mFld "Reader" "at") (eVar 1)) (eApp fLen (aCons (eUn (mFld "Reader" "pieces") (eVar 1)) aNil)))) sNever sNil)
  (sCons (sIf (tVal (eBin mGt (eApp fLen (aCons (eComp (iAny (eUn (mFld "Reader" "pieces") (eVar 1))) (bTup (bsCons (bName 4) (bsCons (bName 5) bsNil))) (tVal (eBin mNotIn (eVar 4) (eLit (.str [40, 41])))) (eVar 4) [4, 5]) aNil)) (eLit (.int 1000)))) sNever sNil)
  (sCons (sIf (tVal (eBin mGt (eVar 3) (eLit (.int 60)))) sNever sNil)
  (sRet (eVar 2)))))))

noncomputable def b__digits_from (O : FN → MF) : MS :=
  (sCons (sSet 2 (eVar 1))
  (sCons (sWhile (tAnd (tVal (eBin mLt (eVar 2) (eApp fLen (aCons (eVar 0) aNil)))) (tAnd (tVal (eBin mLt (eBin mSub (eVar 2) (eVar 1)) (eLit (.int 20)))) (tVal (eBin mIn (eBin mIx (eVar 0) (eVar 2)) (eLit (.str [48, 49, 50, 51, 52, 53, 54, 55, 56, 57])))))) (sAug 2 mAddI (eLit (.int 1))))
  (sCons (sIf (tVal (eBin mEq (eVar 2) (eVar 1))) sNever sNil)
  (sCons (sIf (tAnd (tVal (eBin mEq (eBin mIx (eVar 0) (eVar 1)) (eLit (.str [48])))) (tVal (eBin mGt (eVar 2) (eBin mAdd (eVar 1) (eLit (.int 1)))))) sNever sNil)
  (sRet (eTup (aCons (eApp fInt (aCons (eSlice (eVar 0) (oSome (eVar 1)) (oSome (eVar 2))) aNil)) (aCons (eVar 2) aNil))))))))

noncomputable def b_read_value (O : FN → MF) : MS :=
  (sCons (sBind (bTup (bsCons (bName 2) (bsCons (bName 3) bsNil))) (eApp (O ._digits_from) (aCons (eVar 0) (aCons (eLit (.int 0)) aNil))))
  (sCons (sSet 1 (eLit (.int 1)))
  (sCons (sIf (tAnd (tVal (eBin mLt (eVar 3) (eApp fLen (aCons (eVar 0) aNil)))) (tVal (eBin mEq (eBin mIx (eVar 0) (eVar 3)) (eLit (.str [47]))))) (sCons (sSet 4 (eBin mAdd (eVar 3) (eLit (.int 1))))
  (sCons (sIf (tAnd (tVal (eBin mLt (eVar 4) (eApp fLen (aCons (eVar 0) aNil)))) (tVal (eBin mEq (eBin mIx (eVar 0) (eVar 4)) (eLit (.str [48]))))) sNever sNil)
  (sBind (bTup (bsCons (bName 1) (bsCons (bName 3) bsNil))) (eApp (O ._digits_from) (aCons (eVar 0) (aCons (eVar 4) aNil)))))) sNil)
  (sCons (sIf (tVal (eBin mLt (eVar 3) (eApp fLen (aCons (eVar 0) aNil)))) sNever sNil)
  (sRet (eApp (O .fraction) (aCons (eVar 2) (aCons (eVar 1) aNil))))))))

noncomputable def b__law_begun (O : FN → MF) : MS :=
  (sCons (sSet 2 (eBin mAdd (eSlice (eVar 0) (oSome (eVar 1)) oNone) (eSlice (eVar 0) oNone (oSome (eVar 1)))))
  (sCons (sSet 3 (eComp (iAny (eVar 0)) (bName 5) (tVal (eBin mGe (eVar 5) (eBin mPow (eLit (.int 10)) (eLit (.int 18))))) (eVar 5) [5]))
  (sCons (sSet 4 (eBin mAdd (eLit (.int 53)) (eBin mMul (eLit (.int 8)) (eVar 1))))
  (sCons (sFor (iAny (eVar 2)) (bName 5) (sSet 4 (eBin mMod (eApp fInt (aCons (eBin mAdd (eBin mMul (eVar 4) (eLit (.int 48271))) (eVar 5)) aNil)) (eLit (.int 2147483647)))))
  (sRet (eDict (pCons (eLit (.str [108, 101, 102, 116])) (eIf (tVal (eBin mLt (eVar 1) (eApp fLen (aCons (eVar 3) aNil)))) (eBin mIx (eVar 3) (eVar 1)) (eLit (.int 0))) (pCons (eLit (.str [115, 101, 101, 100])) (eVar 4) (pCons (eLit (.str [99, 101, 108, 108, 115])) (eBin mAdd (eVar 2) (eLst (aCons (eBin mAdd (eBin mMul (eLit (.int 41)) (eVar 1)) (eLit (.int 13))) aNil))) (pCons (eLit (.str [115, 112, 111, 116])) (eLit (.int 0)) pNil))))))))))

noncomputable def b__law_draw (O : FN → MF) : MS :=
  (sCons (sIf (tVal (eBin mGt (eBin mIx (eVar 0) (eLit (.str [108, 101, 102, 116]))) (eLit (.int 0)))) (sCons (sSet 5 (eBin mMod (eApp fInt (aCons (eBin mIx (eVar 0) (eLit (.str [108, 101, 102, 116]))) aNil)) (eVar 1)))
  (sCons (sPut (eVar 0) (eLit (.str [108, 101, 102, 116])) (eBin mDiv (eBin mIx (eVar 0) (eLit (.str [108, 101, 102, 116]))) (eVar 1)))
  (sRet (eVar 5)))) sNil)
  (sCons (sSet 2 (eBin mIx (eVar 0) (eLit (.str [115, 112, 111, 116]))))
  (sCons (sPut (eVar 0) (eLit (.str [115, 112, 111, 116])) (eBin mAdd (eVar 2) (eLit (.int 1))))
  (sCons (sPar [6, 7] (aCons (eBin mIx (eVar 0) (eLit (.str [99, 101, 108, 108, 115]))) (aCons (eBin mAdd (eBin mIx (eVar 0) (eLit (.str [115, 101, 101, 100]))) (eBin mMul (eBin mMul (eLit (.int 40503)) (eVar 2)) (eVar 2))) aNil)))
  (sCons (sSet 3 (eBin mIx (eVar 6) (eBin mMod (eApp fInt (aCons (eVar 2) aNil)) (eApp fLen (aCons (eVar 6) aNil)))))
  (sCons (sSet 4 (eBin mMod (eApp fInt (aCons (eBin mAdd (eBin mMul (eVar 3) (eBin mAdd (eBin mMul (eLit (.int 2)) (eVar 2)) (eLit (.int 3)))) (eVar 7)) aNil)) (eLit (.int 2147483647))))
  (sCons (sSet 4 (eBin mMod (eApp fInt (aCons (eBin mAdd (eBin mAdd (eBin mMul (eVar 4) (eVar 4)) (eBin mMul (eLit (.int 69621)) (eVar 2))) (eBin mIx (eVar 0) (eLit (.str [115, 101, 101, 100])))) aNil)) (eLit (.int 2147483629))))
  (sRet (eBin mMod (eBin mDiv (eBin mMod (eApp fInt (aCons (eBin mAdd (eBin mMul (eVar 4) (eLit (.int 48271))) (eVar 2)) aNil)) (eLit (.int 2147483647))) (eLit (.int 11))) (eVar 1))))))))))

noncomputable def b__law_of (O : FN → MF) : MS :=
  (sRet (eBin mIx (eVar 1) (eApp (O ._law_draw) (aCons (eVar 0) (aCons (eApp fLen (aCons (eVar 1) aNil)) aNil)))))

noncomputable def b__law_saying (O : FN → MF) : MS :=
  (sCons (sIf (tVal (eBin mEq (eVar 2) (eLit (.int 0)))) (sCons (sSet 3 (eApp (O ._law_draw) (aCons (eVar 0) (aCons (eLit (.int 9)) aNil))))
  (sSet 4 (eIf (tVal (eBin mEq (eVar 3) (eLit (.int 0)))) (eTup (aCons (eLit (.str [121, 101, 115])) aNil)) (eIf (tVal (eBin mEq (eVar 3) (eLit (.int 1)))) (eTup (aCons (eLit (.str [110, 111])) aNil)) (eTup (aCons (eLit (.str [117, 110, 107, 110, 111, 119, 110])) (aCons (eApp (O ._law_of) (aCons (eVar 0) (aCons (eVar 1) aNil))) aNil))))))) (sCons (sSet 5 (eApp (O ._law_draw) (aCons (eVar 0) (aCons (eVar 2) aNil))))
  (sCons (sSet 6 (eApp (O ._law_of) (aCons (eVar 0) (aCons (eLst (aCons (eLit (.str [112, 108, 117, 115])) (aCons (eLit (.str [116, 105, 109, 101, 115])) (aCons (eLit (.str [108, 101, 97, 100, 115])) (aCons (eLit (.str [97, 110, 100])) (aCons (eLit (.str [111, 114])) (aCons (eLit (.str [115, 97, 109, 101])) (aCons (eLit (.str [112, 108, 117, 115])) (aCons (eLit (.str [116, 105, 109, 101, 115])) (aCons (eLit (.str [108, 101, 97, 100, 115])) aNil)))))))))) aNil))))
  (sCons (sSet 7 (eApp (O ._law_saying) (aCons (eVar 0) (aCons (eVar 1) (aCons (eVar 5) aNil)))))
  (sSet 4 (eTup (aCons (eVar 6) (aCons (eVar 7) (aCons (eApp (O ._law_saying) (aCons (eVar 0) (aCons (eVar 1) (aCons (eBin mSub (eBin mSub (eVar 2) (eLit (.int 1))) (eVar 5)) aNil)))) aNil)))))))))
  (sRet (eIf (tVal (eBin mEq (eApp (O ._law_draw) (aCons (eVar 0) (aCons (eLit (.int 5)) aNil))) (eLit (.int 0)))) (eTup (aCons (eLit (.str [110, 111, 116])) (aCons (eVar 4) aNil))) (eVar 4))))

noncomputable def b__law_lowest (O : FN → MF) : MS :=
  (sCons (sPar [2, 3] (aCons (eApp fAbs (aCons (eVar 0) aNil)) (aCons (eVar 1) aNil)))
  (sCons (sWhile (tVal (eBin mGt (eVar 3) (eLit (.int 0)))) (sPar [2, 3] (aCons (eVar 3) (aCons (eBin mMod (eApp fInt (aCons (eVar 2) aNil)) (eVar 3)) aNil))))
  (sRet (eTup (aCons (eBin mDiv (eVar 0) (eVar 2)) (aCons (eBin mDiv (eVar 1) (eVar 2)) aNil))))))

noncomputable def b__law_name (O : FN → MF) : MS :=
  (sCons (sSet 1 (eBin mIx (eLit (.str [97, 98, 99, 100, 101, 102, 103, 104, 105, 106, 107, 108, 109, 110, 111, 112, 113, 114, 115, 116, 117, 118, 119, 120, 121, 122])) (eApp (O ._law_draw) (aCons (eVar 0) (aCons (eLit (.int 26)) aNil)))))
  (sCons (sFor (iRange1 (aCons (eApp (O ._law_draw) (aCons (eVar 0) (aCons (eLit (.int 8)) aNil))) aNil)) (bName 2) (sSet 1 (eBin mAdd (eVar 1) (eBin mIx (eLit (.str [97, 98, 99, 100, 101, 102, 103, 104, 105, 106, 107, 108, 109, 110, 111, 112, 113, 114, 115, 116, 117, 118, 119, 120, 121, 122, 48, 49, 50, 51, 52, 53, 54, 55, 56, 57])) (eApp (O ._law_draw) (aCons (eVar 0) (aCons (eLit (.int 36)) aNil)))))))
  (sCons (sSet 3 (eLst (aCons (eLit (.str [121, 101, 115])) (aCons (eLit (.str [110, 111])) (aCons (eLit (.str [110, 111, 116])) (aCons (eLit (.str [112, 108, 117, 115])) (aCons (eLit (.str [116, 105, 109, 101, 115])) (aCons (eLit (.str [108, 101, 97, 100, 115])) (aCons (eLit (.str [97, 110, 100])) (aCons (eLit (.str [111, 114])) (aCons (eLit (.str [115, 97, 109, 101])) aNil)))))))))))
  (sRet (eIf (tVal (eBin mNotIn (eVar 1) (eVar 3))) (eVar 1) (eBin mAdd (eSlice (eVar 1) oNone (oSome (eLit (.int 2)))) (eLit (.str [55]))))))))

noncomputable def b__law_written (O : FN → MF) : MS :=
  (sCons (sIf (tVal (eBin mEq (eBin mIx (eVar 0) (eLit (.int 0))) (eLit (.str [117, 110, 107, 110, 111, 119, 110])))) (sRet (eBin mIx (eVar 0) (eLit (.int 1)))) sNil)
  (sCons (sIf (tVal (eBin mIn (eBin mIx (eVar 0) (eLit (.int 0))) (eTup (aCons (eLit (.str [121, 101, 115])) (aCons (eLit (.str [110, 111])) aNil))))) (sRet (eBin mIx (eVar 0) (eLit (.int 0)))) sNil)
  (sCons (sSet 1 (eApp (O ._law_written) (aCons (eBin mIx (eVar 0) (eLit (.int 1))) aNil)))
  (sCons (sIf (tVal (eBin mEq (eBin mIx (eVar 0) (eLit (.int 0))) (eLit (.str [110, 111, 116])))) (sRet (eBin mAdd (eLit (.str [110, 111, 116, 32])) (eVar 1))) sNil)
  (sRet (eBin mAdd (eBin mAdd (eBin mAdd (eBin mAdd (eBin mAdd (eBin mAdd (eLit (.str [40])) (eVar 1)) (eLit (.str [32]))) (eBin mIx (eVar 0) (eLit (.int 0)))) (eLit (.str [32]))) (eApp (O ._law_written) (aCons (eBin mIx (eVar 0) (eLit (.int 2))) aNil))) (eLit (.str [41]))))))))

noncomputable def b__law_blanks (O : FN → MF) : MS :=
  (sRet (eBin mMul (eLit (.str [32])) (eIf (tVal (eBin mEq (eApp (O ._law_draw) (aCons (eVar 0) (aCons (eLit (.int 2)) aNil))) (eLit (.int 0)))) (eApp (O ._law_draw) (aCons (eVar 0) (aCons (eVar 1) aNil))) (eLit (.int 0)))))

noncomputable def b__law_loose (O : FN → MF) : MS :=
  (sCons (sSet 2 (eApp (O ._law_blanks) (aCons (eVar 0) (aCons (eLit (.int 4)) aNil))))
  (sCons (sFor (iRange1 (aCons (eApp fLen (aCons (eVar 1) aNil)) aNil)) (bName 3) (sCons (sPar [4, 5] (aCons (eBin mIx (eVar 1) (eVar 3)) (aCons (eTup (aCons (eSlice (eVar 1) (oSome (eBin mSub (eVar 3) (eLit (.int 1)))) (oSome (eVar 3))) (aCons (eSlice (eVar 1) (oSome (eBin mAdd (eVar 3) (eLit (.int 1)))) (oSome (eBin mAdd (eVar 3) (eLit (.int 2))))) aNil))) aNil)))
  (sIf (tVal (eBin mIn (eVar 4) (eLit (.str [40, 41])))) (sSet 2 (eBin mAdd (eBin mAdd (eBin mAdd (eVar 2) (eApp (O ._law_blanks) (aCons (eVar 0) (aCons (eLit (.int 3)) aNil)))) (eVar 4)) (eApp (O ._law_blanks) (aCons (eVar 0) (aCons (eLit (.int 3)) aNil))))) (sIf (tVal (eBin mEq (eVar 4) (eLit (.str [32])))) (sCons (sSet 6 (eIf (tOr (tVal (eBin mIn (eBin mIx (eVar 5) (eLit (.int 0))) (eLit (.str [40, 41])))) (tVal (eBin mIn (eBin mIx (eVar 5) (eLit (.int 1))) (eLit (.str [40, 41]))))) (eLit (.int 0)) (eLit (.int 1))))
  (sSet 2 (eBin mAdd (eBin mAdd (eVar 2) (eBin mMul (eLit (.str [32])) (eVar 6))) (eApp (O ._law_blanks) (aCons (eVar 0) (aCons (eLit (.int 4)) aNil)))))) (sSet 2 (eBin mAdd (eVar 2) (eVar 4)))))))
  (sRet (eBin mAdd (eVar 2) (eApp (O ._law_blanks) (aCons (eVar 0) (aCons (eLit (.int 4)) aNil)))))))

noncomputable def b__law_value (O : FN → MF) : MS :=
  (sCons (sSet 1 (eBin mAdd (eLit (.int 1)) (eApp (O ._law_draw) (aCons (eVar 0) (aCons (eBin mIx (eLst (aCons (eLit (.int 9)) (aCons (eLit (.int 1000)) (aCons (eBin mPow (eLit (.int 10)) (eLit (.int 19))) aNil)))) (eApp (O ._law_draw) (aCons (eVar 0) (aCons (eLit (.int 3)) aNil)))) aNil)))))
  (sRet (eApp (O ._law_lowest) (aCons (eApp (O ._law_draw) (aCons (eVar 0) (aCons (eBin mAdd (eVar 1) (eLit (.int 1))) aNil))) (aCons (eVar 1) aNil)))))

noncomputable def b__law_value_written (O : FN → MF) : MS :=
  (sRet (eIf (tVal (eBin mEq (eBin mIx (eVar 0) (eLit (.int 1))) (eLit (.int 1)))) (eApp fStr (aCons (eBin mIx (eVar 0) (eLit (.int 0))) aNil)) (eBin mAdd (eBin mAdd (eApp fStr (aCons (eBin mIx (eVar 0) (eLit (.int 0))) aNil)) (eLit (.str [47]))) (eApp fStr (aCons (eBin mIx (eVar 0) (eLit (.int 1))) aNil)))))

noncomputable def b__law_saying_right (O : FN → MF) : MS :=
  (sCons (sSet 2 (eApp (O ._law_saying) (aCons (eVar 0) (aCons (eVar 1) (aCons (eApp (O ._law_draw) (aCons (eVar 0) (aCons (eLit (.int 21)) aNil))) aNil)))))
  (sCons (sFor (iRange1 (aCons (eApp (O ._law_draw) (aCons (eVar 0) (aCons (eLit (.int 20)) aNil))) aNil)) (bName 3) (sSet 2 (eTup (aCons (eLit (.str [110, 111, 116])) (aCons (eVar 2) aNil)))))
  (sCons (sSet 4 (eApp (O ._law_written) (aCons (eVar 2) aNil)))
  (sCons (sIf (tOr (tVal (eBin mNe (eApp fRepr (aCons (eApp (O .saying_text) (aCons (eVar 2) aNil)) aNil)) (eApp fRepr (aCons (eVar 4) aNil)))) (tVal (eBin mNe (eApp fRepr (aCons (eApp (O .read_saying) (aCons (eVar 4) aNil)) aNil)) (eApp fRepr (aCons (eVar 2) aNil))))) (sRet (eLit (.bl false))) sNil)
  (sCons (sFor (iRange1 (aCons (eLit (.int 3)) aNil)) (bName 3) (sIf (tVal (eBin mNe (eApp fRepr (aCons (eApp (O .read_saying) (aCons (eApp (O ._law_loose) (aCons (eVar 0) (aCons (eVar 4) aNil))) aNil)) aNil)) (eApp fRepr (aCons (eVar 2) aNil)))) (sRet (eLit (.bl false))) sNil))
  (sRet (eLit (.bl true))))))))

noncomputable def b__law_values_right (O : FN → MF) : MS :=
  (sCons (sSet 2 (eLst aNil))
  (sCons (sFor (iAny (eVar 1)) (bName 3) (sCons (sSet 5 (eApp (O ._law_value) (aCons (eVar 0) aNil)))
  (sCons (sExpr (eMth isLst yAppend (eVar 2) (aCons (eVar 5) aNil)))
  (sCons (sPar [7, 8] (aCons (eApp (O ._law_value_written) (aCons (eVar 5) aNil)) (aCons (eBin mAdd (eLit (.int 1)) (eApp (O ._law_draw) (aCons (eVar 0) (aCons (eLit (.int 9)) aNil)))) aNil)))
  (sCons (sSet 6 (eBin mAdd (eBin mAdd (eApp fStr (aCons (eBin mMul (eBin mIx (eVar 5) (eLit (.int 0))) (eVar 8)) aNil)) (eLit (.str [47]))) (eApp fStr (aCons (eBin mMul (eBin mIx (eVar 5) (eLit (.int 1))) (eVar 8)) aNil))))
  (sCons (sIf (tVal (eBin mNe (eApp fRepr (aCons (eApp (O .value_text) (aCons (eVar 5) aNil)) aNil)) (eApp fRepr (aCons (eVar 7) aNil)))) (sRet (eLit (.bl false))) sNil)
  (sIf (tVal (eBin mNe (eApp fRepr (aCons (eLst (aCons (eApp (O .read_value) (aCons (eVar 7) aNil)) (aCons (eApp (O .read_value) (aCons (eVar 6) aNil)) aNil))) aNil)) (eApp fRepr (aCons (eLst (aCons (eVar 5) (aCons (eVar 5) aNil))) aNil)))) (sRet (eLit (.bl false))) sNil)))))))
  (sCons (sSet 4 (eMth isStr yJoin (eLit (.str [44, 32])) (aCons (eComp (iZip (aCons (eVar 1) (aCons (eVar 2) aNil))) (bTup (bsCons (bName 3) (bsCons (bName 5) bsNil))) tYes (eBin mAdd (eBin mAdd (eVar 3) (eLit (.str [61]))) (eApp (O ._law_value_written) (aCons (eVar 5) aNil))) [3, 5]) aNil)))
  (sRet (eAnd (eBin mEq (eApp fRepr (aCons (eApp (O .point_text) (aCons (eApp fTuple (aCons (eVar 1) aNil)) (aCons (eApp fTuple (aCons (eVar 2) aNil)) aNil))) aNil)) (eApp fRepr (aCons (eVar 4) aNil))) (eBin mEq (eApp fRepr (aCons (eApp (O .point_text) (aCons (eTup aNil) (aCons (eTup aNil) aNil))) aNil)) (eApp fRepr (aCons (eLit (.str [])) aNil))))))))

noncomputable def b_law (O : FN → MF) : MS :=
  (sCons (sFor (iRange1 (aCons (eBin mAdd (eLit (.int 1)) (eApp fInt (aCons (eBin mGt (eApp fLen (aCons (eVar 0) aNil)) (eLit (.int 2))) aNil))) aNil)) (bName 1) (sCons (sPar [3, 4] (aCons (eApp (O ._law_begun) (aCons (eVar 0) (aCons (eVar 1) aNil))) (aCons (eLst aNil) aNil)))
  (sCons (sFor (iRange1 (aCons (eBin mAdd (eLit (.int 1)) (eApp (O ._law_draw) (aCons (eVar 3) (aCons (eLit (.int 4)) aNil)))) aNil)) (bName 2) (sCons (sSet 5 (eApp (O ._law_name) (aCons (eVar 3) aNil)))
  (sIf (tVal (eBin mNotIn (eVar 5) (eVar 4))) (sExpr (eMth isLst yAppend (eVar 4) (aCons (eVar 5) aNil))) sNil)))
  (sIf (tOr (tNot (tVal (eApp (O ._law_saying_right) (aCons (eVar 3) (aCons (eVar 4) aNil))))) (tNot (tVal (eApp (O ._law_values_right) (aCons (eVar 3) (aCons (eVar 4) aNil)))))) (sRet (eLit (.bl false))) sNil))))
  (sRet (eLit (.bl true))))

noncomputable def step (O : FN → MF) : FN → MF
  | .is_name => fnM 1 2 (b_is_name O)
  | .common => fnM 2 4 (b_common O)
  | .lowest => fnM 2 3 (b_lowest O)
  | .fraction => fnM 2 3 (b_fraction O)
  | .saying_text => fnM 1 1 (b_saying_text O)
  | .value_text => fnM 1 1 (b_value_text O)
  | .point_text => fnM 2 4 (b_point_text O)
  | ._word_from => fnM 2 3 (b__word_from O)
  | ._tokens => fnM 1 4 (b__tokens O)
  | .Reader___init__ => fnM 2 2 (b_Reader___init__ O)
  | .Reader_now => fnM 1 1 (b_Reader_now O)
  | .Reader_place => fnM 1 1 (b_Reader_place O)
  | .Reader_take => fnM 2 3 (b_Reader_take O)
  | .Reader_item => fnM 1 6 (b_Reader_item O)
  | .Reader_pair => fnM 1 7 (b_Reader_pair O)
  | .read_saying => fnM 1 6 (b_read_saying O)
  | ._digits_from => fnM 2 3 (b__digits_from O)
  | .read_value => fnM 1 5 (b_read_value O)
  | ._law_begun => fnM 2 6 (b__law_begun O)
  | ._law_draw => fnM 2 8 (b__law_draw O)
  | ._law_of => fnM 2 2 (b__law_of O)
  | ._law_saying => fnM 3 8 (b__law_saying O)
  | ._law_lowest => fnM 2 4 (b__law_lowest O)
  | ._law_name => fnM 1 4 (b__law_name O)
  | ._law_written => fnM 1 2 (b__law_written O)
  | ._law_blanks => fnM 2 2 (b__law_blanks O)
  | ._law_loose => fnM 2 7 (b__law_loose O)
  | ._law_value => fnM 1 2 (b__law_value O)
  | ._law_value_written => fnM 1 1 (b__law_value_written O)
  | ._law_saying_right => fnM 2 5 (b__law_saying_right O)
  | ._law_values_right => fnM 2 9 (b__law_values_right O)
  | .law => fnM 1 6 (b_law O)

noncomputable def M : Nat → FN → MF
  | 0 => fun _ _ _ => .stuck
  | n + 1 => step (M n)

theorem M_is_name (n : Nat) : M (n + 1) .is_name = fnM 1 2 (b_is_name (M n)) := rfl

theorem M_common (n : Nat) : M (n + 1) .common = fnM 2 4 (b_common (M n)) := rfl

theorem M_lowest (n : Nat) : M (n + 1) .lowest = fnM 2 3 (b_lowest (M n)) := rfl

theorem M_fraction (n : Nat) : M (n + 1) .fraction = fnM 2 3 (b_fraction (M n)) := rfl

theorem M_saying_text (n : Nat) : M (n + 1) .saying_text = fnM 1 1 (b_saying_text (M n)) := rfl

theorem M_value_text (n : Nat) : M (n + 1) .value_text = fnM 1 1 (b_value_text (M n)) := rfl

theorem M_point_text (n : Nat) : M (n + 1) .point_text = fnM 2 4 (b_point_text (M n)) := rfl

theorem M__word_from (n : Nat) : M (n + 1) ._word_from = fnM 2 3 (b__word_from (M n)) := rfl

theorem M__tokens (n : Nat) : M (n + 1) ._tokens = fnM 1 4 (b__tokens (M n)) := rfl

theorem M_Reader___init__ (n : Nat) : M (n + 1) .Reader___init__ = fnM 2 2 (b_Reader___init__ (M n)) := rfl

theorem M_Reader_now (n : Nat) : M (n + 1) .Reader_now = fnM 1 1 (b_Reader_now (M n)) := rfl

theorem M_Reader_place (n : Nat) : M (n + 1) .Reader_place = fnM 1 1 (b_Reader_place (M n)) := rfl

theorem M_Reader_take (n : Nat) : M (n + 1) .Reader_take = fnM 2 3 (b_Reader_take (M n)) := rfl

theorem M_Reader_item (n : Nat) : M (n + 1) .Reader_item = fnM 1 6 (b_Reader_item (M n)) := rfl

theorem M_Reader_pair (n : Nat) : M (n + 1) .Reader_pair = fnM 1 7 (b_Reader_pair (M n)) := rfl

theorem M_read_saying (n : Nat) : M (n + 1) .read_saying = fnM 1 6 (b_read_saying (M n)) := rfl

theorem M__digits_from (n : Nat) : M (n + 1) ._digits_from = fnM 2 3 (b__digits_from (M n)) := rfl

theorem M_read_value (n : Nat) : M (n + 1) .read_value = fnM 1 5 (b_read_value (M n)) := rfl

theorem M__law_begun (n : Nat) : M (n + 1) ._law_begun = fnM 2 6 (b__law_begun (M n)) := rfl

theorem M__law_draw (n : Nat) : M (n + 1) ._law_draw = fnM 2 8 (b__law_draw (M n)) := rfl

theorem M__law_of (n : Nat) : M (n + 1) ._law_of = fnM 2 2 (b__law_of (M n)) := rfl

theorem M__law_saying (n : Nat) : M (n + 1) ._law_saying = fnM 3 8 (b__law_saying (M n)) := rfl

theorem M__law_lowest (n : Nat) : M (n + 1) ._law_lowest = fnM 2 4 (b__law_lowest (M n)) := rfl

theorem M__law_name (n : Nat) : M (n + 1) ._law_name = fnM 1 4 (b__law_name (M n)) := rfl

theorem M__law_written (n : Nat) : M (n + 1) ._law_written = fnM 1 2 (b__law_written (M n)) := rfl

theorem M__law_blanks (n : Nat) : M (n + 1) ._law_blanks = fnM 2 2 (b__law_blanks (M n)) := rfl

theorem M__law_loose (n : Nat) : M (n + 1) ._law_loose = fnM 2 7 (b__law_loose (M n)) := rfl

theorem M__law_value (n : Nat) : M (n + 1) ._law_value = fnM 1 2 (b__law_value (M n)) := rfl

theorem M__law_value_written (n : Nat) : M (n + 1) ._law_value_written = fnM 1 1 (b__law_value_written (M n)) := rfl

theorem M__law_saying_right (n : Nat) : M (n + 1) ._law_saying_right = fnM 2 5 (b__law_saying_right (M n)) := rfl

theorem M__law_values_right (n : Nat) : M (n + 1) ._law_values_right = fnM 2 9 (b__law_values_right (M n)) := rfl

theorem M_law (n : Nat) : M (n + 1) .law = fnM 1 6 (b_law (M n)) := rfl

end K65
set_option Elab.async false
set_option linter.all false
set_option maxRecDepth 100000
set_option autoImplicit false
/-! printed by gen.py: the mirrored bodies are sound. -/
namespace K65
open PySem PySem.Spec PyProof.Rows L2 Mir

def topS (i : Nat) : Stmt := PySem.Challenge.pw_halftruths_k65_texts_there_and_back.main.body.getD i (.Pass ⟨0, 0, 0, 0⟩)
abbrev st_is_name : Stmt := topS 11
abbrev N_is_name : List Str := ["value", "sign"]
theorem sc_is_name : FnScope N_is_name ["value"] (defScope st_is_name) := ⟨rfl, rfl, rfl, by decide +kernel, rfl, by decide +kernel, by decide +kernel⟩
abbrev st_common : Stmt := topS 13
abbrev N_common : List Str := ["first", "second", "one", "two"]
theorem sc_common : FnScope N_common ["first", "second"] (defScope st_common) := ⟨rfl, rfl, rfl, by decide +kernel, rfl, by decide +kernel, by decide +kernel⟩
abbrev st_lowest : Stmt := topS 14
abbrev N_lowest : List Str := ["above", "below", "divisor"]
theorem sc_lowest : FnScope N_lowest ["above", "below"] (defScope st_lowest) := ⟨rfl, rfl, rfl, by decide +kernel, rfl, by decide +kernel, by decide +kernel⟩
abbrev st_fraction : Stmt := topS 15
abbrev N_fraction : List Str := ["above", "below", "found"]
theorem sc_fraction : FnScope N_fraction ["above", "below"] (defScope st_fraction) := ⟨rfl, rfl, rfl, by decide +kernel, rfl, by decide +kernel, by decide +kernel⟩
abbrev st_saying_text : Stmt := topS 26
abbrev N_saying_text : List Str := ["saying"]
theorem sc_saying_text : FnScope N_saying_text ["saying"] (defScope st_saying_text) := ⟨rfl, rfl, rfl, by decide +kernel, rfl, by decide +kernel, by decide +kernel⟩
abbrev st_value_text : Stmt := topS 27
abbrev N_value_text : List Str := ["value"]
theorem sc_value_text : FnScope N_value_text ["value"] (defScope st_value_text) := ⟨rfl, rfl, rfl, by decide +kernel, rfl, by decide +kernel, by decide +kernel⟩
abbrev st_point_text : Stmt := topS 28
abbrev N_point_text : List Str := ["names", "point", "name", "value"]
theorem sc_point_text : FnScope N_point_text ["names", "point"] (defScope st_point_text) := ⟨rfl, rfl, rfl, by decide +kernel, rfl, by decide +kernel, by decide +kernel⟩
abbrev st__word_from : Stmt := topS 29
abbrev N__word_from : List Str := ["text", "place", "stop"]
theorem sc__word_from : FnScope N__word_from ["text", "place"] (defScope st__word_from) := ⟨rfl, rfl, rfl, by decide +kernel, rfl, by decide +kernel, by decide +kernel⟩
abbrev st__tokens : Stmt := topS 30
abbrev N__tokens : List Str := ["text", "found", "place", "token"]
theorem sc__tokens : FnScope N__tokens ["text"] (defScope st__tokens) := ⟨rfl, rfl, rfl, by decide +kernel, rfl, by decide +kernel, by decide +kernel⟩
abbrev st_Reader___init__ : Stmt := inClass (topS 31) 0
abbrev N_Reader___init__ : List Str := ["self", "text"]
theorem sc_Reader___init__ : FnScope N_Reader___init__ ["self", "text"] (defScope st_Reader___init__) := ⟨rfl, rfl, rfl, by decide +kernel, rfl, by decide +kernel, by decide +kernel⟩
abbrev st_Reader_now : Stmt := inClass (topS 31) 1
abbrev N_Reader_now : List Str := ["self"]
theorem sc_Reader_now : FnScope N_Reader_now ["self"] (defScope st_Reader_now) := ⟨rfl, rfl, rfl, by decide +kernel, rfl, by decide +kernel, by decide +kernel⟩
abbrev st_Reader_place : Stmt := inClass (topS 31) 2
abbrev N_Reader_place : List Str := ["self"]
theorem sc_Reader_place : FnScope N_Reader_place ["self"] (defScope st_Reader_place) := ⟨rfl, rfl, rfl, by decide +kernel, rfl, by decide +kernel, by decide +kernel⟩
abbrev st_Reader_take : Stmt := inClass (topS 31) 3
abbrev N_Reader_take : List Str := ["self", "is_right", "token"]
theorem sc_Reader_take : FnScope N_Reader_take ["self", "is_right"] (defScope st_Reader_take) := ⟨rfl, rfl, rfl, by decide +kernel, rfl, by decide +kernel, by decide +kernel⟩
abbrev st_Reader_item : Stmt := inClass (topS 31) 4
abbrev N_Reader_item : List Str := ["self", "turns", "_", "token", "deep", "made"]
theorem sc_Reader_item : FnScope N_Reader_item ["self"] (defScope st_Reader_item) := ⟨rfl, rfl, rfl, by decide +kernel, rfl, by decide +kernel, by decide +kernel⟩
abbrev st_Reader_pair : Stmt := inClass (topS 31) 5
abbrev N_Reader_pair : List Str := ["self", "mark", "deep", "first", "one", "second", "two"]
theorem sc_Reader_pair : FnScope N_Reader_pair ["self"] (defScope st_Reader_pair) := ⟨rfl, rfl, rfl, by decide +kernel, rfl, by decide +kernel, by decide +kernel⟩
abbrev st_read_saying : Stmt := topS 32
abbrev N_read_saying : List Str := ["text", "reader", "made", "deep", "token", "place"]
theorem sc_read_saying : FnScope N_read_saying ["text"] (defScope st_read_saying) := ⟨rfl, rfl, rfl, by decide +kernel, rfl, by decide +kernel, by decide +kernel⟩
abbrev st__digits_from : Stmt := topS 33
abbrev N__digits_from : List Str := ["text", "place", "stop"]
theorem sc__digits_from : FnScope N__digits_from ["text", "place"] (defScope st__digits_from) := ⟨rfl, rfl, rfl, by decide +kernel, rfl, by decide +kernel, by decide +kernel⟩
abbrev st_read_value : Stmt := topS 34
abbrev N_read_value : List Str := ["text", "below", "above", "place", "start"]
theorem sc_read_value : FnScope N_read_value ["text"] (defScope st_read_value) := ⟨rfl, rfl, rfl, by decide +kernel, rfl, by decide +kernel, by decide +kernel⟩
abbrev st__law_begun : Stmt := topS 36
abbrev N__law_begun : List Str := ["_law_script", "_law_k", "_law_cells", "_law_great", "_law_begun_here", "_law_cell"]
theorem sc__law_begun : FnScope N__law_begun ["_law_script", "_law_k"] (defScope st__law_begun) := ⟨rfl, rfl, rfl, by decide +kernel, rfl, by decide +kernel, by decide +kernel⟩
abbrev st__law_draw : Stmt := topS 37
abbrev N__law_draw : List Str := ["_law_m", "_law_below", "_law_spot", "_law_cell", "_law_blend", "_law_found", "_law_cells", "_law_added"]
theorem sc__law_draw : FnScope N__law_draw ["_law_m", "_law_below"] (defScope st__law_draw) := ⟨rfl, rfl, rfl, by decide +kernel, rfl, by decide +kernel, by decide +kernel⟩
abbrev st__law_of : Stmt := topS 38
abbrev N__law_of : List Str := ["_law_m", "_law_some"]
theorem sc__law_of : FnScope N__law_of ["_law_m", "_law_some"] (defScope st__law_of) := ⟨rfl, rfl, rfl, by decide +kernel, rfl, by decide +kernel, by decide +kernel⟩
abbrev st__law_saying : Stmt := topS 39
abbrev N__law_saying : List Str := ["_law_m", "_law_names", "_law_size", "_law_way", "_law_made", "_law_left", "_law_mark", "_law_first"]
theorem sc__law_saying : FnScope N__law_saying ["_law_m", "_law_names", "_law_size"] (defScope st__law_saying) := ⟨rfl, rfl, rfl, by decide +kernel, rfl, by decide +kernel, by decide +kernel⟩
abbrev st__law_lowest : Stmt := topS 40
abbrev N__law_lowest : List Str := ["_law_above", "_law_below", "_law_one", "_law_two"]
theorem sc__law_lowest : FnScope N__law_lowest ["_law_above", "_law_below"] (defScope st__law_lowest) := ⟨rfl, rfl, rfl, by decide +kernel, rfl, by decide +kernel, by decide +kernel⟩
abbrev st__law_name : Stmt := topS 41
abbrev N__law_name : List Str := ["_law_m", "_law_found", "_law_k", "_law_words"]
theorem sc__law_name : FnScope N__law_name ["_law_m"] (defScope st__law_name) := ⟨rfl, rfl, rfl, by decide +kernel, rfl, by decide +kernel, by decide +kernel⟩
abbrev st__law_written : Stmt := topS 42
abbrev N__law_written : List Str := ["_law_made", "_law_first"]
theorem sc__law_written : FnScope N__law_written ["_law_made"] (defScope st__law_written) := ⟨rfl, rfl, rfl, by decide +kernel, rfl, by decide +kernel, by decide +kernel⟩
abbrev st__law_blanks : Stmt := topS 43
abbrev N__law_blanks : List Str := ["_law_m", "_law_most"]
theorem sc__law_blanks : FnScope N__law_blanks ["_law_m", "_law_most"] (defScope st__law_blanks) := ⟨rfl, rfl, rfl, by decide +kernel, rfl, by decide +kernel, by decide +kernel⟩
abbrev st__law_loose : Stmt := topS 44
abbrev N__law_loose : List Str := ["_law_m", "_law_text", "_law_found", "_law_k", "_law_sign", "_law_near", "_law_least"]
theorem sc__law_loose : FnScope N__law_loose ["_law_m", "_law_text"] (defScope st__law_loose) := ⟨rfl, rfl, rfl, by decide +kernel, rfl, by decide +kernel, by decide +kernel⟩
abbrev st__law_value : Stmt := topS 45
abbrev N__law_value : List Str := ["_law_m", "_law_below"]
theorem sc__law_value : FnScope N__law_value ["_law_m"] (defScope st__law_value) := ⟨rfl, rfl, rfl, by decide +kernel, rfl, by decide +kernel, by decide +kernel⟩
abbrev st__law_value_written : Stmt := topS 46
abbrev N__law_value_written : List Str := ["_law_pair"]
theorem sc__law_value_written : FnScope N__law_value_written ["_law_pair"] (defScope st__law_value_written) := ⟨rfl, rfl, rfl, by decide +kernel, rfl, by decide +kernel, by decide +kernel⟩
abbrev st__law_saying_right : Stmt := topS 47
abbrev N__law_saying_right : List Str := ["_law_m", "_law_names", "_law_saying_here", "_law_k", "_law_text"]
theorem sc__law_saying_right : FnScope N__law_saying_right ["_law_m", "_law_names"] (defScope st__law_saying_right) := ⟨rfl, rfl, rfl, by decide +kernel, rfl, by decide +kernel, by decide +kernel⟩
abbrev st__law_values_right : Stmt := topS 48
abbrev N__law_values_right : List Str := ["_law_m", "_law_names", "_law_point", "_law_name_here", "_law_due", "_law_pair", "_law_wide", "_law_text", "_law_more"]
theorem sc__law_values_right : FnScope N__law_values_right ["_law_m", "_law_names"] (defScope st__law_values_right) := ⟨rfl, rfl, rfl, by decide +kernel, rfl, by decide +kernel, by decide +kernel⟩
abbrev st_law : Stmt := topS 49
abbrev N_law : List Str := ["_law_script", "_law_turn", "_law_k", "_law_m", "_law_names", "_law_name_here"]
theorem sc_law : FnScope N_law ["_law_script"] (defScope st_law) := ⟨rfl, rfl, rfl, by decide +kernel, rfl, by decide +kernel, by decide +kernel⟩
structure Fx (K : PySem.W.Frag) (mg : Str → Option Value) : Prop where
  z_abs : mg "abs" = none
  z_all : mg "all" = none
  z_int : mg "int" = none
  z_isinstance : mg "isinstance" = none
  z_len : mg "len" = none
  z_max : mg "max" = none
  z_range : mg "range" = none
  z_repr : mg "repr" = none
  z_str : mg "str" = none
  z_tuple : mg "tuple" = none
  z_zip : mg "zip" = none
  k_DIGITS : GC mg "DIGITS" (V.str (tx [48, 49, 50, 51, 52, 53, 54, 55, 56, 57]))
  k_FIRST_SIGNS : GC mg "FIRST_SIGNS" (V.str (tx [97, 98, 99, 100, 101, 102, 103, 104, 105, 106, 107, 108, 109, 110, 111, 112, 113, 114, 115, 116, 117, 118, 119, 120, 121, 122]))
  k_LOWER : GC mg "LOWER" (V.str (tx [97, 98, 99, 100, 101, 102, 103, 104, 105, 106, 107, 108, 109, 110, 111, 112, 113, 114, 115, 116, 117, 118, 119, 120, 121, 122]))
  k_MOST_DEPTH : GC mg "MOST_DEPTH" (V.int 60)
  k_MOST_DIGITS : GC mg "MOST_DIGITS" (V.int 20)
  k_MOST_LETTERS : GC mg "MOST_LETTERS" (V.int 8)
  k_MOST_OPEN : GC mg "MOST_OPEN" (V.int 60)
  k_MOST_SIGNS : GC mg "MOST_SIGNS" (V.int 4000)
  k_MOST_WORDS : GC mg "MOST_WORDS" (V.int 1000)
  k_NAME_SIGNS : GC mg "NAME_SIGNS" (V.str (tx [97, 98, 99, 100, 101, 102, 103, 104, 105, 106, 107, 108, 109, 110, 111, 112, 113, 114, 115, 116, 117, 118, 119, 120, 121, 122, 48, 49, 50, 51, 52, 53, 54, 55, 56, 57]))
  k_SINGLE : GC mg "SINGLE" (V.str (tx [40, 41]))
  k_WORD_SIGNS : GC mg "WORD_SIGNS" (V.str (tx [97, 98, 99, 100, 101, 102, 103, 104, 105, 106, 107, 108, 109, 110, 111, 112, 113, 114, 115, 116, 117, 118, 119, 120, 121, 122, 48, 49, 50, 51, 52, 53, 54, 55, 56, 57]))
  t_NO_NAMES : GT K mg "NO_NAMES" ([[121, 101, 115], [110, 111], [110, 111, 116], [112, 108, 117, 115], [116, 105, 109, 101, 115], [108, 101, 97, 100, 115], [97, 110, 100], [111, 114], [115, 97, 109, 101]].map D.str)
  t_PAIRS : GT K mg "PAIRS" ([[112, 108, 117, 115], [116, 105, 109, 101, 115], [108, 101, 97, 100, 115], [97, 110, 100], [111, 114], [115, 97, 109, 101]].map D.str)
  fl_Reader_at : GFld K mg "Reader" "at"
  fl_Reader_length : GFld K mg "Reader" "length"
  fl_Reader_opened : GFld K mg "Reader" "opened"
  fl_Reader_pieces : GFld K mg "Reader" "pieces"

structure Ds (K : PySem.W.Frag) (mg : Str → Option Value) : Prop where
  f_is_name : Df K mg "is_name" st_is_name ["value"]
  f_common : Df K mg "common" st_common ["first", "second"]
  f_lowest : Df K mg "lowest" st_lowest ["above", "below"]
  f_fraction : Df K mg "fraction" st_fraction ["above", "below"]
  f_saying_text : Df K mg "saying_text" st_saying_text ["saying"]
  f_value_text : Df K mg "value_text" st_value_text ["value"]
  f_point_text : Df K mg "point_text" st_point_text ["names", "point"]
  f__word_from : Df K mg "_word_from" st__word_from ["text", "place"]
  f__tokens : Df K mg "_tokens" st__tokens ["text"]
  i_Reader : Di K mg "Reader" "Reader.__init__" st_Reader___init__ ["self", "text"]
  m_Reader_now : Dm K mg "Reader" "now" "Reader.now" st_Reader_now ["self"]
  m_Reader_place : Dm K mg "Reader" "place" "Reader.place" st_Reader_place ["self"]
  m_Reader_take : Dm K mg "Reader" "take" "Reader.take" st_Reader_take ["self", "is_right"]
  m_Reader_item : Dm K mg "Reader" "item" "Reader.item" st_Reader_item ["self"]
  m_Reader_pair : Dm K mg "Reader" "pair" "Reader.pair" st_Reader_pair ["self"]
  f_read_saying : Df K mg "read_saying" st_read_saying ["text"]
  f__digits_from : Df K mg "_digits_from" st__digits_from ["text", "place"]
  f_read_value : Df K mg "read_value" st_read_value ["text"]
  f__law_begun : Df K mg "_law_begun" st__law_begun ["_law_script", "_law_k"]
  f__law_draw : Df K mg "_law_draw" st__law_draw ["_law_m", "_law_below"]
  f__law_of : Df K mg "_law_of" st__law_of ["_law_m", "_law_some"]
  f__law_saying : Df K mg "_law_saying" st__law_saying ["_law_m", "_law_names", "_law_size"]
  f__law_lowest : Df K mg "_law_lowest" st__law_lowest ["_law_above", "_law_below"]
  f__law_name : Df K mg "_law_name" st__law_name ["_law_m"]
  f__law_written : Df K mg "_law_written" st__law_written ["_law_made"]
  f__law_blanks : Df K mg "_law_blanks" st__law_blanks ["_law_m", "_law_most"]
  f__law_loose : Df K mg "_law_loose" st__law_loose ["_law_m", "_law_text"]
  f__law_value : Df K mg "_law_value" st__law_value ["_law_m"]
  f__law_value_written : Df K mg "_law_value_written" st__law_value_written ["_law_pair"]
  f__law_saying_right : Df K mg "_law_saying_right" st__law_saying_right ["_law_m", "_law_names"]
  f__law_values_right : Df K mg "_law_values_right" st__law_values_right ["_law_m", "_law_names"]
  f_law : Df K mg "law" st_law ["_law_script"]

structure Snd (P : Program) (w : World) (K : PySem.W.Frag) (mg : Str → Option Value) (base : Heap) (k : Nat) (O : FN → MF) : Prop where
  f_is_name : Glo P w K mg base k "is_name" (O .is_name)
  f_common : Glo P w K mg base k "common" (O .common)
  f_lowest : Glo P w K mg base k "lowest" (O .lowest)
  f_fraction : Glo P w K mg base k "fraction" (O .fraction)
  f_saying_text : Glo P w K mg base k "saying_text" (O .saying_text)
  f_value_text : Glo P w K mg base k "value_text" (O .value_text)
  f_point_text : Glo P w K mg base k "point_text" (O .point_text)
  f__word_from : Glo P w K mg base k "_word_from" (O ._word_from)
  f__tokens : Glo P w K mg base k "_tokens" (O ._tokens)
  i_Reader : GMak P w K mg base k "Reader" (O .Reader___init__)
  m_Reader_now : GMet P w K mg base k "Reader" "now" (O .Reader_now)
  m_Reader_place : GMet P w K mg base k "Reader" "place" (O .Reader_place)
  m_Reader_take : GMet P w K mg base k "Reader" "take" (O .Reader_take)
  m_Reader_item : GMet P w K mg base k "Reader" "item" (O .Reader_item)
  m_Reader_pair : GMet P w K mg base k "Reader" "pair" (O .Reader_pair)
  f_read_saying : Glo P w K mg base k "read_saying" (O .read_saying)
  f__digits_from : Glo P w K mg base k "_digits_from" (O ._digits_from)
  f_read_value : Glo P w K mg base k "read_value" (O .read_value)
  f__law_begun : Glo P w K mg base k "_law_begun" (O ._law_begun)
  f__law_draw : Glo P w K mg base k "_law_draw" (O ._law_draw)
  f__law_of : Glo P w K mg base k "_law_of" (O ._law_of)
  f__law_saying : Glo P w K mg base k "_law_saying" (O ._law_saying)
  f__law_lowest : Glo P w K mg base k "_law_lowest" (O ._law_lowest)
  f__law_name : Glo P w K mg base k "_law_name" (O ._law_name)
  f__law_written : Glo P w K mg base k "_law_written" (O ._law_written)
  f__law_blanks : Glo P w K mg base k "_law_blanks" (O ._law_blanks)
  f__law_loose : Glo P w K mg base k "_law_loose" (O ._law_loose)
  f__law_value : Glo P w K mg base k "_law_value" (O ._law_value)
  f__law_value_written : Glo P w K mg base k "_law_value_written" (O ._law_value_written)
  f__law_saying_right : Glo P w K mg base k "_law_saying_right" (O ._law_saying_right)
  f__law_values_right : Glo P w K mg base k "_law_values_right" (O ._law_values_right)
  f_law : Glo P w K mg base k "law" (O .law)

section
variable {P : Program} {w : World} {K : PySem.W.Frag} {mg : Str → Option Value} {base : Heap} {k : Nat} {O : FN → MF} {f : Addr}

theorem s_is_name (G : Fx K mg) (S : Snd P w K mg base k O) (cdv : Value) (A : Around) (outer : List Env) (s : Shared) (H : Hp) (E : XK) (ok : Ok (wOf E) (k + 1) (cxD P w K mg base N_is_name "is_name" (defScope st_is_name) f cdv A outer s H E)) :
    SSs (wOf E) (cxD P w K mg base N_is_name "is_name" (defScope st_is_name) f cdv A outer s H E) (defBody st_is_name) (b_is_name O) := by
  unfold b_is_name
  exact (sss_cons (ss_if (st_pw (sw_or (st_not (st_val (se_isi "str" (by rfl) G.z_isinstance (by rfl) G.z_str (se_var 0)))) (sw_or (st_cmp (or_eq ok) o_eq (se_var 0) (se_str []) (nomark _)) (sw_or (st_cmp op_gt o_gt (se_blt c_len o_len (by rfl) G.z_len (by decide +kernel) (sa_cons (se_var 0) sa_nil)) (se_gc (by rfl) G.k_MOST_LETTERS fun _ _ => RV.int _) (nomark _)) (sw_or1 (st_cmp (or_in ok) o_in (se_var 0) (se_gt (by rfl) G.t_NO_NAMES) (by with_unfolding_all rfl))))))) (sss_one (ss_ret se_bl)) sss_nil)
  (sss_cons (ss_if (st_cmp (or_notIn ok) o_notIn (se_ix (ir_ix ok) o_ix (se_var 0) se_int (fun _ _ => rfl)) (se_gc (by rfl) G.k_FIRST_SIGNS fun _ _ => RV.str _) (by with_unfolding_all rfl)) (sss_one (ss_ret se_bl)) sss_nil)
  (sss_one (ss_ret (se_blt (cr_all ok.calm) o_all (by rfl) G.z_all (by decide +kernel) (sa_cons (se_comp ok (si_any (se_var 0)) (blkOk_by (own := [("sign", 1)]) (N := N_is_name) (sc := defScope st_is_name) (by decide +kernel)) (gb_name 1) (by decide) (fun _ _ _ _ _ => (pg_name (i := 1) ok.nd rfl (by first | exact .inl rfl | exact .inr rfl))) (fun _ _ _ _ _ ok2 => sts_nil) (fun _ _ _ _ _ ok2 => (se_cmp (or_in ok2) o_in (se_var 1) (se_gc (by rfl) G.k_NAME_SIGNS fun _ _ => RV.str _) (by with_unfolding_all rfl)))) sa_nil))))))
theorem s_common (G : Fx K mg) (S : Snd P w K mg base k O) (cdv : Value) (A : Around) (outer : List Env) (s : Shared) (H : Hp) (E : XK) (ok : Ok (wOf E) (k + 1) (cxD P w K mg base N_common "common" (defScope st_common) f cdv A outer s H E)) :
    SSs (wOf E) (cxD P w K mg base N_common "common" (defScope st_common) f cdv A outer s H E) (defBody st_common) (b_common O) := by
  unfold b_common
  exact (sss_cons (ss_par2 2 3 ok (sa_cons (se_blt call_abs o_abs (by rfl) G.z_abs (by decide +kernel) (sa_cons (se_var 0) sa_nil)) (sa_cons (se_blt call_abs o_abs (by rfl) G.z_abs (by decide +kernel) (sa_cons (se_var 1) sa_nil)) sa_nil)))
  (sss_cons (ss_while ok (st_cmp op_gt o_gt (se_var 3) se_int (nomark _)) (sss_one (ss_par2 2 3 ok (sa_cons (se_var 3) (sa_cons (se_bin op_mod o_mod (se_var 2) (se_var 3)) sa_nil)))))
  (sss_one (ss_ret (se_var 2)))))
theorem s_lowest (G : Fx K mg) (S : Snd P w K mg base k O) (cdv : Value) (A : Around) (outer : List Env) (s : Shared) (H : Hp) (E : XK) (ok : Ok (wOf E) (k + 1) (cxD P w K mg base N_lowest "lowest" (defScope st_lowest) f cdv A outer s H E)) :
    SSs (wOf E) (cxD P w K mg base N_lowest "lowest" (defScope st_lowest) f cdv A outer s H E) (defBody st_lowest) (b_lowest O) := by
  unfold b_lowest
  exact (sss_cons (ss_set 2 ok (se_call ok S.f_common (by rfl) (sa_cons (se_var 0) (sa_cons (se_var 1) sa_nil))))
  (sss_cons (ss_if (st_cmp op_lt o_lt (se_var 1) se_int (nomark _)) (sss_one (ss_set 2 ok (se_un un_neg o_neg (se_var 2)))) sss_nil)
  (sss_one (ss_ret (se_tup (sa_cons (se_bin op_fdivW o_div (se_var 0) (se_var 2)) (sa_cons (se_bin op_fdivW o_div (se_var 1) (se_var 2)) sa_nil)))))))
theorem s_fraction (G : Fx K mg) (S : Snd P w K mg base k O) (cdv : Value) (A : Around) (outer : List Env) (s : Shared) (H : Hp) (E : XK) (ok : Ok (wOf E) (k + 1) (cxD P w K mg base N_fraction "fraction" (defScope st_fraction) f cdv A outer s H E)) :
    SSs (wOf E) (cxD P w K mg base N_fraction "fraction" (defScope st_fraction) f cdv A outer s H E) (defBody st_fraction) (b_fraction O) := by
  unfold b_fraction
  exact (sss_cons (ss_set 2 ok (se_call ok S.f_lowest (by rfl) (sa_cons (se_var 0) (sa_cons (se_var 1) sa_nil))))
  (sss_cons (ss_if (st_not (st_chain o_le o_le (pt_chain op_le op_le se_int (se_ix (ir_ix ok) o_ix (se_var 2) se_int (fun _ _ => rfl)) (se_ix (ir_ix ok) o_ix (se_var 2) se_int (fun _ _ => rfl))))) (sss_one ss_never) sss_nil)
  (sss_one (ss_ret (se_var 2)))))
theorem s_saying_text (G : Fx K mg) (S : Snd P w K mg base k O) (cdv : Value) (A : Around) (outer : List Env) (s : Shared) (H : Hp) (E : XK) (ok : Ok (wOf E) (k + 1) (cxD P w K mg base N_saying_text "saying_text" (defScope st_saying_text) f cdv A outer s H E)) :
    SSs (wOf E) (cxD P w K mg base N_saying_text "saying_text" (defScope st_saying_text) f cdv A outer s H E) (defBody st_saying_text) (b_saying_text O) := by
  unfold b_saying_text
  exact (sss_cons (ss_if (st_cmp (or_eq ok) o_eq (se_ix (ir_ix ok) o_ix (se_var 0) se_int (fun _ _ => rfl)) (se_str [117, 110, 107, 110, 111, 119, 110]) (nomark _)) (sss_one (ss_ret (se_ix (ir_ix ok) o_ix (se_var 0) se_int (fun _ _ => rfl)))) sss_nil)
  (sss_cons (ss_if (st_cmp (or_eq ok) o_eq (se_ix (ir_ix ok) o_ix (se_var 0) se_int (fun _ _ => rfl)) (se_str [110, 111, 116]) (nomark _)) (sss_one (ss_ret (se_joined (.cons (se_str [110, 111, 116, 32]) (.cons (se_fmt (se_call ok S.f_saying_text (by rfl) (sa_cons (se_ix (ir_ix ok) o_ix (se_var 0) se_int (fun _ _ => rfl)) sa_nil))) SJ.nil))))) sss_nil)
  (sss_cons (ss_if (st_cmp (or_eq ok) o_eq (se_blt c_len o_len (by rfl) G.z_len (by decide +kernel) (sa_cons (se_var 0) sa_nil)) se_int (nomark _)) (sss_one (ss_ret (se_ix (ir_ix ok) o_ix (se_var 0) se_int (fun _ _ => rfl)))) sss_nil)
  (sss_one (ss_ret (se_joined (.cons (se_str [40]) (.cons (se_fmt (se_call ok S.f_saying_text (by rfl) (sa_cons (se_ix (ir_ix ok) o_ix (se_var 0) se_int (fun _ _ => rfl)) sa_nil))) (.cons (se_str [32]) (.cons (se_fmt (se_ix (ir_ix ok) o_ix (se_var 0) se_int (fun _ _ => rfl))) (.cons (se_str [32]) (.cons (se_fmt (se_call ok S.f_saying_text (by rfl) (sa_cons (se_ix (ir_ix ok) o_ix (se_var 0) se_int (fun _ _ => rfl)) sa_nil))) (.cons (se_str [41]) SJ.nil)))))))))))))
theorem s_value_text (G : Fx K mg) (S : Snd P w K mg base k O) (cdv : Value) (A : Around) (outer : List Env) (s : Shared) (H : Hp) (E : XK) (ok : Ok (wOf E) (k + 1) (cxD P w K mg base N_value_text "value_text" (defScope st_value_text) f cdv A outer s H E)) :
    SSs (wOf E) (cxD P w K mg base N_value_text "value_text" (defScope st_value_text) f cdv A outer s H E) (defBody st_value_text) (b_value_text O) := by
  unfold b_value_text
  exact (sss_cons (ss_if (st_cmp (or_eq ok) o_eq (se_ix (ir_ix ok) o_ix (se_var 0) se_int (fun _ _ => rfl)) se_int (nomark _)) (sss_one (ss_ret (se_ty c_str o_str (by rfl) G.z_str (by decide +kernel) (sa_cons (se_ix (ir_ix ok) o_ix (se_var 0) se_int (fun _ _ => rfl)) sa_nil)))) sss_nil)
  (sss_one (ss_ret (se_joined (.cons (se_fmt (se_ix (ir_ix ok) o_ix (se_var 0) se_int (fun _ _ => rfl))) (.cons (se_str [47]) (.cons (se_fmt (se_ix (ir_ix ok) o_ix (se_var 0) se_int (fun _ _ => rfl))) SJ.nil)))))))
theorem s_point_text (G : Fx K mg) (S : Snd P w K mg base k O) (cdv : Value) (A : Around) (outer : List Env) (s : Shared) (H : Hp) (E : XK) (ok : Ok (wOf E) (k + 1) (cxD P w K mg base N_point_text "point_text" (defScope st_point_text) f cdv A outer s H E)) :
    SSs (wOf E) (cxD P w K mg base N_point_text "point_text" (defScope st_point_text) f cdv A outer s H E) (defBody st_point_text) (b_point_text O) := by
  unfold b_point_text
  exact (sss_one (ss_ret (se_bm PySem.F.plainAttrs_str PySem.F.slot_str_join PySem.F.type_str_join mt_join chk_str o_join (se_str [44, 32]) (sa_cons (se_comp ok (si_zip (by rfl) G.z_zip (sa_cons (se_var 0) (sa_cons (se_var 1) sa_nil))) (blkOk_by (own := [("name", 2), ("value", 3)]) (N := N_point_text) (sc := defScope st_point_text) (by decide +kernel)) (gb_tup (gbs_cons (gb_name 2) (gbs_cons (gb_name 3) gbs_nil))) (by decide) (fun _ _ _ _ _ => (pg_tup rfl (pgs_cons (pg_name (i := 2) ok.nd rfl (by first | exact .inl rfl | exact .inr rfl)) (pgs_cons (pg_name (i := 3) ok.nd rfl (by first | exact .inl rfl | exact .inr rfl)) pgs_nil)))) (fun _ _ _ _ _ ok2 => sts_nil) (fun _ _ _ _ _ ok2 => (se_joined (.cons (se_fmt (se_var 2)) (.cons (se_str [61]) (.cons (se_fmt (se_call ok2 S.f_value_text (by rfl) (sa_cons (se_var 3) sa_nil))) SJ.nil)))))) sa_nil))))
theorem s__word_from (G : Fx K mg) (S : Snd P w K mg base k O) (cdv : Value) (A : Around) (outer : List Env) (s : Shared) (H : Hp) (E : XK) (ok : Ok (wOf E) (k + 1) (cxD P w K mg base N__word_from "_word_from" (defScope st__word_from) f cdv A outer s H E)) :
    SSs (wOf E) (cxD P w K mg base N__word_from "_word_from" (defScope st__word_from) f cdv A outer s H E) (defBody st__word_from) (b__word_from O) := by
  unfold b__word_from
  exact (sss_cons (ss_set 2 ok (se_var 1))
  (sss_cons (ss_while ok (st_pw (sw_and (st_cmp op_lt o_lt (se_var 2) (se_blt c_len o_len (by rfl) G.z_len (by decide +kernel) (sa_cons (se_var 0) sa_nil)) (nomark _)) (sw_and1 (st_cmp (or_in ok) o_in (se_ix (ir_ix ok) o_ix (se_var 0) (se_var 2) (fun _ _ => rfl)) (se_gc (by rfl) G.k_WORD_SIGNS fun _ _ => RV.str _) (by with_unfolding_all rfl))))) (sss_one (ss_aug 2 ok ip_add o_addI se_int)))
  (sss_one (ss_ret (se_slice (se_var 0) (so_some (se_var 1)) (so_some (se_var 2)))))))
theorem s__tokens (G : Fx K mg) (S : Snd P w K mg base k O) (cdv : Value) (A : Around) (outer : List Env) (s : Shared) (H : Hp) (E : XK) (ok : Ok (wOf E) (k + 1) (cxD P w K mg base N__tokens "_tokens" (defScope st__tokens) f cdv A outer s H E)) :
    SSs (wOf E) (cxD P w K mg base N__tokens "_tokens" (defScope st__tokens) f cdv A outer s H E) (defBody st__tokens) (b__tokens O) := by
  unfold b__tokens
  exact (sss_cons (ss_set 1 ok (se_lst sa_nil))
  (sss_cons (ss_set 2 ok se_int)
  (sss_cons (ss_while ok (st_cmp op_lt o_lt (se_var 2) (se_blt c_len o_len (by rfl) G.z_len (by decide +kernel) (sa_cons (se_var 0) sa_nil)) (nomark _)) (sss_cons (ss_if (st_cmp (or_eq ok) o_eq (se_ix (ir_ix ok) o_ix (se_var 0) (se_var 2) (fun _ _ => rfl)) (se_str [32]) (nomark _)) (sss_cons (ss_aug 2 ok ip_add o_addI se_int)
  (sss_one ss_cont)) sss_nil)
  (sss_cons (ss_if (st_cmp (or_in ok) o_in (se_ix (ir_ix ok) o_ix (se_var 0) (se_var 2) (fun _ _ => rfl)) (se_gc (by rfl) G.k_LOWER fun _ _ => RV.str _) (by with_unfolding_all rfl)) (sss_one (ss_set 3 ok (se_call ok S.f__word_from (by rfl) (sa_cons (se_var 0) (sa_cons (se_var 2) sa_nil))))) (sss_one (ss_if (st_cmp (or_in ok) o_in (se_ix (ir_ix ok) o_ix (se_var 0) (se_var 2) (fun _ _ => rfl)) (se_gc (by rfl) G.k_SINGLE fun _ _ => RV.str _) (by with_unfolding_all rfl)) (sss_one (ss_set 3 ok (se_ix (ir_ix ok) o_ix (se_var 0) (se_var 2) (fun _ _ => rfl)))) (sss_one ss_never))))
  (sss_cons (ss_expr (se_bm PySem.F.plainAttrs_list PySem.F.slot_list_append PySem.F.type_list_append mt_append chk_lst o_append (se_var 1) (sa_cons (se_tup (sa_cons (se_var 3) (sa_cons (se_var 2) sa_nil))) sa_nil)))
  (sss_one (ss_aug 2 ok ip_add o_addI (se_blt c_len o_len (by rfl) G.z_len (by decide +kernel) (sa_cons (se_var 3) sa_nil))))))))
  (sss_one (ss_ret (se_var 1))))))
theorem s_Reader___init__ (G : Fx K mg) (S : Snd P w K mg base k O) (cdv : Value) (A : Around) (outer : List Env) (s : Shared) (H : Hp) (E : XK) (ok : Ok (wOf E) (k + 1) (cxD P w K mg base N_Reader___init__ "Reader.__init__" (defScope st_Reader___init__) f cdv A outer s H E)) :
    SSs (wOf E) (cxD P w K mg base N_Reader___init__ "Reader.__init__" (defScope st_Reader___init__) f cdv A outer s H E) (defBody st_Reader___init__) (b_Reader___init__ O) := by
  unfold b_Reader___init__
  exact (sss_cons (ss_if (st_cmp op_gt o_gt (se_blt c_len o_len (by rfl) G.z_len (by decide +kernel) (sa_cons (se_var 1) sa_nil)) (se_gc (by rfl) G.k_MOST_SIGNS fun _ _ => RV.int _) (nomark _)) (sss_one ss_never) sss_nil)
  (sss_cons (ss_fld G.fl_Reader_pieces (se_var 0) (se_call ok S.f__tokens (by rfl) (sa_cons (se_var 1) sa_nil)))
  (sss_cons (ss_fld G.fl_Reader_length (se_var 0) (se_blt c_len o_len (by rfl) G.z_len (by decide +kernel) (sa_cons (se_var 1) sa_nil)))
  (sss_cons (ss_fld G.fl_Reader_at (se_var 0) se_int)
  (sss_one (ss_fld G.fl_Reader_opened (se_var 0) se_int))))))
theorem s_Reader_now (G : Fx K mg) (S : Snd P w K mg base k O) (cdv : Value) (A : Around) (outer : List Env) (s : Shared) (H : Hp) (E : XK) (ok : Ok (wOf E) (k + 1) (cxD P w K mg base N_Reader_now "Reader.now" (defScope st_Reader_now) f cdv A outer s H E)) :
    SSs (wOf E) (cxD P w K mg base N_Reader_now "Reader.now" (defScope st_Reader_now) f cdv A outer s H E) (defBody st_Reader_now) (b_Reader_now O) := by
  unfold b_Reader_now
  exact (sss_cons (ss_if (st_cmp op_lt o_lt (se_fld G.fl_Reader_at (se_var 0)) (se_blt c_len o_len (by rfl) G.z_len (by decide +kernel) (sa_cons (se_fld G.fl_Reader_pieces (se_var 0)) sa_nil)) (nomark _)) (sss_one (ss_ret (se_ix (ir_ix ok) o_ix (se_ix (ir_ix ok) o_ix (se_fld G.fl_Reader_pieces (se_var 0)) (se_fld G.fl_Reader_at (se_var 0)) (fun _ _ => rfl)) se_int (fun _ _ => rfl)))) sss_nil)
  (sss_one (ss_ret (se_str []))))
theorem s_Reader_place (G : Fx K mg) (S : Snd P w K mg base k O) (cdv : Value) (A : Around) (outer : List Env) (s : Shared) (H : Hp) (E : XK) (ok : Ok (wOf E) (k + 1) (cxD P w K mg base N_Reader_place "Reader.place" (defScope st_Reader_place) f cdv A outer s H E)) :
    SSs (wOf E) (cxD P w K mg base N_Reader_place "Reader.place" (defScope st_Reader_place) f cdv A outer s H E) (defBody st_Reader_place) (b_Reader_place O) := by
  unfold b_Reader_place
  exact (sss_cons (ss_if (st_cmp op_lt o_lt (se_fld G.fl_Reader_at (se_var 0)) (se_blt c_len o_len (by rfl) G.z_len (by decide +kernel) (sa_cons (se_fld G.fl_Reader_pieces (se_var 0)) sa_nil)) (nomark _)) (sss_one (ss_ret (se_ix (ir_ix ok) o_ix (se_ix (ir_ix ok) o_ix (se_fld G.fl_Reader_pieces (se_var 0)) (se_fld G.fl_Reader_at (se_var 0)) (fun _ _ => rfl)) se_int (fun _ _ => rfl)))) sss_nil)
  (sss_one (ss_ret (se_fld G.fl_Reader_length (se_var 0)))))
theorem s_Reader_take (G : Fx K mg) (S : Snd P w K mg base k O) (cdv : Value) (A : Around) (outer : List Env) (s : Shared) (H : Hp) (E : XK) (ok : Ok (wOf E) (k + 1) (cxD P w K mg base N_Reader_take "Reader.take" (defScope st_Reader_take) f cdv A outer s H E)) :
    SSs (wOf E) (cxD P w K mg base N_Reader_take "Reader.take" (defScope st_Reader_take) f cdv A outer s H E) (defBody st_Reader_take) (b_Reader_take O) := by
  unfold b_Reader_take
  exact (sss_cons (ss_set 2 ok (se_meth0 ok S.m_Reader_now (se_var 0)))
  (sss_cons (ss_if (st_not (st_val (se_var 1))) (sss_one ss_never) sss_nil)
  (sss_cons (ss_fldaug G.fl_Reader_at in_add o_addI (se_var 0) se_int)
  (sss_one (ss_ret (se_var 2))))))
theorem s_Reader_item (G : Fx K mg) (S : Snd P w K mg base k O) (cdv : Value) (A : Around) (outer : List Env) (s : Shared) (H : Hp) (E : XK) (ok : Ok (wOf E) (k + 1) (cxD P w K mg base N_Reader_item "Reader.item" (defScope st_Reader_item) f cdv A outer s H E)) :
    SSs (wOf E) (cxD P w K mg base N_Reader_item "Reader.item" (defScope st_Reader_item) f cdv A outer s H E) (defBody st_Reader_item) (b_Reader_item O) := by
  unfold b_Reader_item
  exact (sss_cons (ss_set 1 ok se_int)
  (sss_cons (ss_while ok (st_cmp (or_eq ok) o_eq (se_meth0 ok S.m_Reader_now (se_var 0)) (se_str [110, 111, 116]) (nomark _)) (sss_cons (ss_expr (se_meth ok S.m_Reader_take (se_var 0) (sa_cons se_bl sa_nil)))
  (sss_one (ss_aug 1 ok ip_add o_addI se_int))))
  (sss_cons (ss_if (st_cmp (or_eq ok) o_eq (se_meth0 ok S.m_Reader_now (se_var 0)) (se_str [40]) (nomark _)) (sss_one (ss_bind (se_meth0 ok S.m_Reader_pair (se_var 0)) (pg_tup rfl (pgs_cons (pg_name (i := 5) ok.nd rfl (by first | exact .inl rfl | exact .inr rfl)) (pgs_cons (pg_name (i := 4) ok.nd rfl (by first | exact .inl rfl | exact .inr rfl)) pgs_nil))) (gb_tup (gbs_cons (gb_name 5) (gbs_cons (gb_name 4) gbs_nil))))) (sss_cons (ss_set 3 ok (se_meth ok S.m_Reader_take (se_var 0) (sa_cons (se_or (se_cmp (or_in ok) o_in (se_meth0 ok S.m_Reader_now (se_var 0)) (se_tup (sa_cons (se_str [121, 101, 115]) (sa_cons (se_str [110, 111]) sa_nil))) (by with_unfolding_all rfl)) (se_one (se_call ok S.f_is_name (by rfl) (sa_cons (se_meth0 ok S.m_Reader_now (se_var 0)) sa_nil)))) sa_nil)))
  (sss_one (ss_par2 5 4 ok (sa_cons (se_if (st_cmp (or_in ok) o_in (se_var 3) (se_tup (sa_cons (se_str [121, 101, 115]) (sa_cons (se_str [110, 111]) sa_nil))) (by with_unfolding_all rfl)) (se_tup (sa_cons (se_var 3) sa_nil)) (se_tup (sa_cons (se_str [117, 110, 107, 110, 111, 119, 110]) (sa_cons (se_var 3) sa_nil)))) (sa_cons se_int sa_nil))))))
  (sss_cons (ss_for ok (si_range1 (by rfl) G.z_range (sa_cons (se_var 1) sa_nil)) (pg_name (i := 2) ok.nd rfl (by first | exact .inl rfl | exact .inr rfl)) (gb_name 2) (sss_cons (ss_aug 4 ok ip_add o_addI se_int)
  (sss_one (ss_set 5 ok (se_if (st_cmp op_le o_le (se_var 4) (se_gc (by rfl) G.k_MOST_DEPTH fun _ _ => RV.int _) (nomark _)) (se_tup (sa_cons (se_str [110, 111, 116]) (sa_cons (se_var 5) sa_nil))) (se_var 5))))))
  (sss_one (ss_ret (se_tup (sa_cons (se_var 5) (sa_cons (se_var 4) sa_nil)))))))))
theorem s_Reader_pair (G : Fx K mg) (S : Snd P w K mg base k O) (cdv : Value) (A : Around) (outer : List Env) (s : Shared) (H : Hp) (E : XK) (ok : Ok (wOf E) (k + 1) (cxD P w K mg base N_Reader_pair "Reader.pair" (defScope st_Reader_pair) f cdv A outer s H E)) :
    SSs (wOf E) (cxD P w K mg base N_Reader_pair "Reader.pair" (defScope st_Reader_pair) f cdv A outer s H E) (defBody st_Reader_pair) (b_Reader_pair O) := by
  unfold b_Reader_pair
  exact (sss_cons (ss_expr (se_meth ok S.m_Reader_take (se_var 0) (sa_cons (se_cmp op_lt o_lt (se_fld G.fl_Reader_opened (se_var 0)) (se_gc (by rfl) G.k_MOST_OPEN fun _ _ => RV.int _) (nomark _)) sa_nil)))
  (sss_cons (ss_fldaug G.fl_Reader_opened in_add o_addI (se_var 0) se_int)
  (sss_cons (ss_bind (se_meth0 ok S.m_Reader_item (se_var 0)) (pg_tup rfl (pgs_cons (pg_name (i := 3) ok.nd rfl (by first | exact .inl rfl | exact .inr rfl)) (pgs_cons (pg_name (i := 4) ok.nd rfl (by first | exact .inl rfl | exact .inr rfl)) pgs_nil))) (gb_tup (gbs_cons (gb_name 3) (gbs_cons (gb_name 4) gbs_nil))))
  (sss_cons (ss_set 1 ok (se_meth ok S.m_Reader_take (se_var 0) (sa_cons (se_cmp (or_in ok) o_in (se_meth0 ok S.m_Reader_now (se_var 0)) (se_gt (by rfl) G.t_PAIRS) (by with_unfolding_all rfl)) sa_nil)))
  (sss_cons (ss_bind (se_meth0 ok S.m_Reader_item (se_var 0)) (pg_tup rfl (pgs_cons (pg_name (i := 5) ok.nd rfl (by first | exact .inl rfl | exact .inr rfl)) (pgs_cons (pg_name (i := 6) ok.nd rfl (by first | exact .inl rfl | exact .inr rfl)) pgs_nil))) (gb_tup (gbs_cons (gb_name 5) (gbs_cons (gb_name 6) gbs_nil))))
  (sss_cons (ss_expr (se_meth ok S.m_Reader_take (se_var 0) (sa_cons (se_cmp (or_eq ok) o_eq (se_meth0 ok S.m_Reader_now (se_var 0)) (se_str [41]) (nomark _)) sa_nil)))
  (sss_cons (ss_fldaug G.fl_Reader_opened in_sub o_sub (se_var 0) se_int)
  (sss_cons (ss_set 2 ok (se_bin or_add o_add se_int (se_blt (call_max2 ok.calm) o_max2 (by rfl) G.z_max (by decide +kernel) (sa_cons (se_var 4) (sa_cons (se_var 6) sa_nil)))))
  (sss_one (ss_ret (se_tup (sa_cons (se_if (st_cmp op_le o_le (se_var 2) (se_gc (by rfl) G.k_MOST_DEPTH fun _ _ => RV.int _) (nomark _)) (se_tup (sa_cons (se_var 1) (sa_cons (se_var 3) (sa_cons (se_var 5) sa_nil)))) (se_var 3)) (sa_cons (se_var 2) sa_nil)))))))))))))
theorem s_read_saying (G : Fx K mg) (S : Snd P w K mg base k O) (cdv : Value) (A : Around) (outer : List Env) (s : Shared) (H : Hp) (E : XK) (ok : Ok (wOf E) (k + 1) (cxD P w K mg base N_read_saying "read_saying" (defScope st_read_saying) f cdv A outer s H E)) :
    SSs (wOf E) (cxD P w K mg base N_read_saying "read_saying" (defScope st_read_saying) f cdv A outer s H E) (defBody st_read_saying) (b_read_saying O) := by
  unfold b_read_saying
  exact (sss_cons (ss_set 1 ok (se_make ok S.i_Reader (by rfl) (sa_cons (se_var 0) sa_nil)))
  (sss_cons (ss_bind (se_meth0 ok S.m_Reader_item (se_var 1)) (pg_tup rfl (pgs_cons (pg_name (i := 2) ok.nd rfl (by first | exact .inl rfl | exact .inr rfl)) (pgs_cons (pg_name (i := 3) ok.nd rfl (by first | exact .inl rfl | exact .inr rfl)) pgs_nil))) (gb_tup (gbs_cons (gb_name 2) (gbs_cons (gb_name 3) gbs_nil))))
  (sss_cons (ss_if (st_cmp op_lt o_lt (se_fld G.fl_Reader_at (se_var 1)) (se_blt c_len o_len (by rfl) G.z_len (by decide +kernel) (sa_cons (se_fld G.fl_Reader_pieces (se_var 1)) sa_nil)) (nomark _)) (sss_one ss_never) sss_nil)
  (sss_cons (ss_if (st_cmp op_gt o_gt (se_blt c_len o_len (by rfl) G.z_len (by decide +kernel) (sa_cons (se_comp ok (si_any (se_fld G.fl_Reader_pieces (se_var 1))) (blkOk_by (own := [("token", 4), ("place", 5)]) (N := N_read_saying) (sc := defScope st_read_saying) (by decide +kernel)) (gb_tup (gbs_cons (gb_name 4) (gbs_cons (gb_name 5) gbs_nil))) (by decide) (fun _ _ _ _ _ => (pg_tup rfl (pgs_cons (pg_name (i := 4) ok.nd rfl (by first | exact .inl rfl | exact .inr rfl)) (pgs_cons (pg_name (i := 5) ok.nd rfl (by first | exact .inl rfl | exact .inr rfl)) pgs_nil)))) (fun _ _ _ _ _ ok2 => (sts_one (st_cmp (or_notIn ok2) o_notIn (se_var 4) (se_gc (by rfl) G.k_SINGLE fun _ _ => RV.str _) (by with_unfolding_all rfl)))) (fun _ _ _ _ _ ok2 => (se_var 4))) sa_nil)) (se_gc (by rfl) G.k_MOST_WORDS fun _ _ => RV.int _) (nomark _)) (sss_one ss_never) sss_nil)
  (sss_cons (ss_if (st_cmp op_gt o_gt (se_var 3) (se_gc (by rfl) G.k_MOST_DEPTH fun _ _ => RV.int _) (nomark _)) (sss_one ss_never) sss_nil)
  (sss_one (ss_ret (se_var 2))))))))
theorem s__digits_from (G : Fx K mg) (S : Snd P w K mg base k O) (cdv : Value) (A : Around) (outer : List Env) (s : Shared) (H : Hp) (E : XK) (ok : Ok (wOf E) (k + 1) (cxD P w K mg base N__digits_from "_digits_from" (defScope st__digits_from) f cdv A outer s H E)) :
    SSs (wOf E) (cxD P w K mg base N__digits_from "_digits_from" (defScope st__digits_from) f cdv A outer s H E) (defBody st__digits_from) (b__digits_from O) := by
  unfold b__digits_from
  exact (sss_cons (ss_set 2 ok (se_var 1))
  (sss_cons (ss_while ok (st_pw (sw_and (st_cmp op_lt o_lt (se_var 2) (se_blt c_len o_len (by rfl) G.z_len (by decide +kernel) (sa_cons (se_var 0) sa_nil)) (nomark _)) (sw_and (st_cmp op_lt o_lt (se_bin op_sub o_sub (se_var 2) (se_var 1)) (se_gc (by rfl) G.k_MOST_DIGITS fun _ _ => RV.int _) (nomark _)) (sw_and1 (st_cmp (or_in ok) o_in (se_ix (ir_ix ok) o_ix (se_var 0) (se_var 2) (fun _ _ => rfl)) (se_gc (by rfl) G.k_DIGITS fun _ _ => RV.str _) (by with_unfolding_all rfl)))))) (sss_one (ss_aug 2 ok ip_add o_addI se_int)))
  (sss_cons (ss_if (st_cmp (or_eq ok) o_eq (se_var 2) (se_var 1) (nomark _)) (sss_one ss_never) sss_nil)
  (sss_cons (ss_if (st_pw (sw_and (st_cmp (or_eq ok) o_eq (se_ix (ir_ix ok) o_ix (se_var 0) (se_var 1) (fun _ _ => rfl)) (se_str [48]) (nomark _)) (sw_and1 (st_cmp op_gt o_gt (se_var 2) (se_bin or_add o_add (se_var 1) se_int) (nomark _))))) (sss_one ss_never) sss_nil)
  (sss_one (ss_ret (se_tup (sa_cons (se_ty c_int o_int (by rfl) G.z_int (by decide +kernel) (sa_cons (se_slice (se_var 0) (so_some (se_var 1)) (so_some (se_var 2))) sa_nil)) (sa_cons (se_var 2) sa_nil)))))))))
theorem s_read_value (G : Fx K mg) (S : Snd P w K mg base k O) (cdv : Value) (A : Around) (outer : List Env) (s : Shared) (H : Hp) (E : XK) (ok : Ok (wOf E) (k + 1) (cxD P w K mg base N_read_value "read_value" (defScope st_read_value) f cdv A outer s H E)) :
    SSs (wOf E) (cxD P w K mg base N_read_value "read_value" (defScope st_read_value) f cdv A outer s H E) (defBody st_read_value) (b_read_value O) := by
  unfold b_read_value
  exact (sss_cons (ss_bind (se_call ok S.f__digits_from (by rfl) (sa_cons (se_var 0) (sa_cons se_int sa_nil))) (pg_tup rfl (pgs_cons (pg_name (i := 2) ok.nd rfl (by first | exact .inl rfl | exact .inr rfl)) (pgs_cons (pg_name (i := 3) ok.nd rfl (by first | exact .inl rfl | exact .inr rfl)) pgs_nil))) (gb_tup (gbs_cons (gb_name 2) (gbs_cons (gb_name 3) gbs_nil))))
  (sss_cons (ss_set 1 ok se_int)
  (sss_cons (ss_if (st_pw (sw_and (st_cmp op_lt o_lt (se_var 3) (se_blt c_len o_len (by rfl) G.z_len (by decide +kernel) (sa_cons (se_var 0) sa_nil)) (nomark _)) (sw_and1 (st_cmp (or_eq ok) o_eq (se_ix (ir_ix ok) o_ix (se_var 0) (se_var 3) (fun _ _ => rfl)) (se_str [47]) (nomark _))))) (sss_cons (ss_set 4 ok (se_bin or_add o_add (se_var 3) se_int))
  (sss_cons (ss_if (st_pw (sw_and (st_cmp op_lt o_lt (se_var 4) (se_blt c_len o_len (by rfl) G.z_len (by decide +kernel) (sa_cons (se_var 0) sa_nil)) (nomark _)) (sw_and1 (st_cmp (or_eq ok) o_eq (se_ix (ir_ix ok) o_ix (se_var 0) (se_var 4) (fun _ _ => rfl)) (se_str [48]) (nomark _))))) (sss_one ss_never) sss_nil)
  (sss_one (ss_bind (se_call ok S.f__digits_from (by rfl) (sa_cons (se_var 0) (sa_cons (se_var 4) sa_nil))) (pg_tup rfl (pgs_cons (pg_name (i := 1) ok.nd rfl (by first | exact .inl rfl | exact .inr rfl)) (pgs_cons (pg_name (i := 3) ok.nd rfl (by first | exact .inl rfl | exact .inr rfl)) pgs_nil))) (gb_tup (gbs_cons (gb_name 1) (gbs_cons (gb_name 3) gbs_nil))))))) sss_nil)
  (sss_cons (ss_if (st_cmp op_lt o_lt (se_var 3) (se_blt c_len o_len (by rfl) G.z_len (by decide +kernel) (sa_cons (se_var 0) sa_nil)) (nomark _)) (sss_one ss_never) sss_nil)
  (sss_one (ss_ret (se_call ok S.f_fraction (by rfl) (sa_cons (se_var 2) (sa_cons (se_var 1) sa_nil)))))))))
theorem s__law_begun (G : Fx K mg) (S : Snd P w K mg base k O) (cdv : Value) (A : Around) (outer : List Env) (s : Shared) (H : Hp) (E : XK) (ok : Ok (wOf E) (k + 1) (cxD P w K mg base N__law_begun "_law_begun" (defScope st__law_begun) f cdv A outer s H E)) :
    SSs (wOf E) (cxD P w K mg base N__law_begun "_law_begun" (defScope st__law_begun) f cdv A outer s H E) (defBody st__law_begun) (b__law_begun O) := by
  unfold b__law_begun
  exact (sss_cons (ss_set 2 ok (se_bin or_add o_add (se_slice (se_var 0) (so_some (se_var 1)) so_none) (se_slice (se_var 0) so_none (so_some (se_var 1)))))
  (sss_cons (ss_setc 3 ok (si_any (se_var 0)) (blkOk_by (own := [("_law_cell", 5)]) (N := N__law_begun) (sc := defScope st__law_begun) (by decide +kernel)) (gb_name 5) (by decide) (fun _ _ _ _ _ => (pg_name (i := 5) ok.nd rfl (by first | exact .inl rfl | exact .inr rfl))) (fun _ _ _ _ _ ok2 => (sts_one (st_cmp op_ge o_ge (se_var 5) (se_bin op_pow o_pow se_int se_int) (nomark _)))) (fun _ _ _ _ _ ok2 => (se_var 5)) (sw_true rfl rfl rfl (by decide +kernel)))
  (sss_cons (ss_set 4 ok (se_bin or_add o_add se_int (se_bin or_mul o_mul se_int (se_var 1))))
  (sss_cons (ss_for ok (si_any (se_var 2)) (pg_name (i := 5) ok.nd rfl (by first | exact .inl rfl | exact .inr rfl)) (gb_name 5) (sss_one (ss_set 4 ok (se_bin op_mod o_mod (se_ty c_int o_int (by rfl) G.z_int (by decide +kernel) (sa_cons (se_bin or_add o_add (se_bin or_mul o_mul (se_var 4) se_int) (se_var 5)) sa_nil)) se_int))))
  (sss_one (ss_ret (se_dict (sps_cons (se_str [108, 101, 102, 116]) (se_if (st_cmp op_lt o_lt (se_var 1) (se_blt c_len o_len (by rfl) G.z_len (by decide +kernel) (sa_cons (se_var 3) sa_nil)) (nomark _)) (se_ix (ir_ix ok) o_ix (se_var 3) (se_var 1) (fun _ _ => rfl)) se_int) (sps_cons (se_str [115, 101, 101, 100]) (se_var 4) (sps_cons (se_str [99, 101, 108, 108, 115]) (se_bin or_add o_add (se_var 2) (se_lst (sa_cons (se_bin or_add o_add (se_bin or_mul o_mul se_int (se_var 1)) se_int) sa_nil))) (sps_cons (se_str [115, 112, 111, 116]) se_int sps_nil)))))))))))
theorem s__law_draw (G : Fx K mg) (S : Snd P w K mg base k O) (cdv : Value) (A : Around) (outer : List Env) (s : Shared) (H : Hp) (E : XK) (ok : Ok (wOf E) (k + 1) (cxD P w K mg base N__law_draw "_law_draw" (defScope st__law_draw) f cdv A outer s H E)) :
    SSs (wOf E) (cxD P w K mg base N__law_draw "_law_draw" (defScope st__law_draw) f cdv A outer s H E) (defBody st__law_draw) (b__law_draw O) := by
  unfold b__law_draw
  exact (sss_cons (ss_if (st_cmp op_gt o_gt (se_ix (ir_ix ok) o_ix (se_var 0) (se_str [108, 101, 102, 116]) (fun _ _ => rfl)) se_int (nomark _)) (sss_cons (ss_set 5 ok (se_bin op_mod o_mod (se_ty c_int o_int (by rfl) G.z_int (by decide +kernel) (sa_cons (se_ix (ir_ix ok) o_ix (se_var 0) (se_str [108, 101, 102, 116]) (fun _ _ => rfl)) sa_nil)) (se_var 1)))
  (sss_cons (ss_put ok (se_var 0) (se_str [108, 101, 102, 116]) (se_bin op_fdivW o_div (se_ix (ir_ix ok) o_ix (se_var 0) (se_str [108, 101, 102, 116]) (fun _ _ => rfl)) (se_var 1)))
  (sss_one (ss_ret (se_var 5))))) sss_nil)
  (sss_cons (ss_set 2 ok (se_ix (ir_ix ok) o_ix (se_var 0) (se_str [115, 112, 111, 116]) (fun _ _ => rfl)))
  (sss_cons (ss_put ok (se_var 0) (se_str [115, 112, 111, 116]) (se_bin or_add o_add (se_var 2) se_int))
  (sss_cons (ss_par2 6 7 ok (sa_cons (se_ix (ir_ix ok) o_ix (se_var 0) (se_str [99, 101, 108, 108, 115]) (fun _ _ => rfl)) (sa_cons (se_bin or_add o_add (se_ix (ir_ix ok) o_ix (se_var 0) (se_str [115, 101, 101, 100]) (fun _ _ => rfl)) (se_bin or_mul o_mul (se_bin or_mul o_mul se_int (se_var 2)) (se_var 2))) sa_nil)))
  (sss_cons (ss_set 3 ok (se_ix (ir_ix ok) o_ix (se_var 6) (se_bin op_mod o_mod (se_ty c_int o_int (by rfl) G.z_int (by decide +kernel) (sa_cons (se_var 2) sa_nil)) (se_blt c_len o_len (by rfl) G.z_len (by decide +kernel) (sa_cons (se_var 6) sa_nil))) (fun _ _ => rfl)))
  (sss_cons (ss_set 4 ok (se_bin op_mod o_mod (se_ty c_int o_int (by rfl) G.z_int (by decide +kernel) (sa_cons (se_bin or_add o_add (se_bin or_mul o_mul (se_var 3) (se_bin or_add o_add (se_bin or_mul o_mul se_int (se_var 2)) se_int)) (se_var 7)) sa_nil)) se_int))
  (sss_cons (ss_set 4 ok (se_bin op_mod o_mod (se_ty c_int o_int (by rfl) G.z_int (by decide +kernel) (sa_cons (se_bin or_add o_add (se_bin or_add o_add (se_bin or_mul o_mul (se_var 4) (se_var 4)) (se_bin or_mul o_mul se_int (se_var 2))) (se_ix (ir_ix ok) o_ix (se_var 0) (se_str [115, 101, 101, 100]) (fun _ _ => rfl))) sa_nil)) se_int))
  (sss_one (ss_ret (se_bin op_mod o_mod (se_bin op_fdivW o_div (se_bin op_mod o_mod (se_ty c_int o_int (by rfl) G.z_int (by decide +kernel) (sa_cons (se_bin or_add o_add (se_bin or_mul o_mul (se_var 4) se_int) (se_var 2)) sa_nil)) se_int) se_int) (se_var 1)))))))))))
theorem s__law_of (G : Fx K mg) (S : Snd P w K mg base k O) (cdv : Value) (A : Around) (outer : List Env) (s : Shared) (H : Hp) (E : XK) (ok : Ok (wOf E) (k + 1) (cxD P w K mg base N__law_of "_law_of" (defScope st__law_of) f cdv A outer s H E)) :
    SSs (wOf E) (cxD P w K mg base N__law_of "_law_of" (defScope st__law_of) f cdv A outer s H E) (defBody st__law_of) (b__law_of O) := by
  unfold b__law_of
  exact (sss_one (ss_ret (se_ix (ir_ix ok) o_ix (se_var 1) (se_call ok S.f__law_draw (by rfl) (sa_cons (se_var 0) (sa_cons (se_blt c_len o_len (by rfl) G.z_len (by decide +kernel) (sa_cons (se_var 1) sa_nil)) sa_nil))) (fun _ _ => rfl))))
theorem s__law_saying (G : Fx K mg) (S : Snd P w K mg base k O) (cdv : Value) (A : Around) (outer : List Env) (s : Shared) (H : Hp) (E : XK) (ok : Ok (wOf E) (k + 1) (cxD P w K mg base N__law_saying "_law_saying" (defScope st__law_saying) f cdv A outer s H E)) :
    SSs (wOf E) (cxD P w K mg base N__law_saying "_law_saying" (defScope st__law_saying) f cdv A outer s H E) (defBody st__law_saying) (b__law_saying O) := by
  unfold b__law_saying
  exact (sss_cons (ss_if (st_cmp (or_eq ok) o_eq (se_var 2) se_int (nomark _)) (sss_cons (ss_set 3 ok (se_call ok S.f__law_draw (by rfl) (sa_cons (se_var 0) (sa_cons se_int sa_nil))))
  (sss_one (ss_set 4 ok (se_if (st_cmp (or_eq ok) o_eq (se_var 3) se_int (nomark _)) (se_tup (sa_cons (se_str [121, 101, 115]) sa_nil)) (se_if (st_cmp (or_eq ok) o_eq (se_var 3) se_int (nomark _)) (se_tup (sa_cons (se_str [110, 111]) sa_nil)) (se_tup (sa_cons (se_str [117, 110, 107, 110, 111, 119, 110]) (sa_cons (se_call ok S.f__law_of (by rfl) (sa_cons (se_var 0) (sa_cons (se_var 1) sa_nil))) sa_nil)))))))) (sss_cons (ss_set 5 ok (se_call ok S.f__law_draw (by rfl) (sa_cons (se_var 0) (sa_cons (se_var 2) sa_nil))))
  (sss_cons (ss_set 6 ok (se_call ok S.f__law_of (by rfl) (sa_cons (se_var 0) (sa_cons (se_lst (sa_cons (se_str [112, 108, 117, 115]) (sa_cons (se_str [116, 105, 109, 101, 115]) (sa_cons (se_str [108, 101, 97, 100, 115]) (sa_cons (se_str [97, 110, 100]) (sa_cons (se_str [111, 114]) (sa_cons (se_str [115, 97, 109, 101]) (sa_cons (se_str [112, 108, 117, 115]) (sa_cons (se_str [116, 105, 109, 101, 115]) (sa_cons (se_str [108, 101, 97, 100, 115]) sa_nil)))))))))) sa_nil))))
  (sss_cons (ss_set 7 ok (se_call ok S.f__law_saying (by rfl) (sa_cons (se_var 0) (sa_cons (se_var 1) (sa_cons (se_var 5) sa_nil)))))
  (sss_one (ss_set 4 ok (se_tup (sa_cons (se_var 6) (sa_cons (se_var 7) (sa_cons (se_call ok S.f__law_saying (by rfl) (sa_cons (se_var 0) (sa_cons (se_var 1) (sa_cons (se_bin op_sub o_sub (se_bin op_sub o_sub (se_var 2) se_int) (se_var 5)) sa_nil)))) sa_nil))))))))))
  (sss_one (ss_ret (se_if (st_cmp (or_eq ok) o_eq (se_call ok S.f__law_draw (by rfl) (sa_cons (se_var 0) (sa_cons se_int sa_nil))) se_int (nomark _)) (se_tup (sa_cons (se_str [110, 111, 116]) (sa_cons (se_var 4) sa_nil))) (se_var 4)))))
theorem s__law_lowest (G : Fx K mg) (S : Snd P w K mg base k O) (cdv : Value) (A : Around) (outer : List Env) (s : Shared) (H : Hp) (E : XK) (ok : Ok (wOf E) (k + 1) (cxD P w K mg base N__law_lowest "_law_lowest" (defScope st__law_lowest) f cdv A outer s H E)) :
    SSs (wOf E) (cxD P w K mg base N__law_lowest "_law_lowest" (defScope st__law_lowest) f cdv A outer s H E) (defBody st__law_lowest) (b__law_lowest O) := by
  unfold b__law_lowest
  exact (sss_cons (ss_par2 2 3 ok (sa_cons (se_blt call_abs o_abs (by rfl) G.z_abs (by decide +kernel) (sa_cons (se_var 0) sa_nil)) (sa_cons (se_var 1) sa_nil)))
  (sss_cons (ss_while ok (st_cmp op_gt o_gt (se_var 3) se_int (nomark _)) (sss_one (ss_par2 2 3 ok (sa_cons (se_var 3) (sa_cons (se_bin op_mod o_mod (se_ty c_int o_int (by rfl) G.z_int (by decide +kernel) (sa_cons (se_var 2) sa_nil)) (se_var 3)) sa_nil)))))
  (sss_one (ss_ret (se_tup (sa_cons (se_bin op_fdivW o_div (se_var 0) (se_var 2)) (sa_cons (se_bin op_fdivW o_div (se_var 1) (se_var 2)) sa_nil)))))))
theorem s__law_name (G : Fx K mg) (S : Snd P w K mg base k O) (cdv : Value) (A : Around) (outer : List Env) (s : Shared) (H : Hp) (E : XK) (ok : Ok (wOf E) (k + 1) (cxD P w K mg base N__law_name "_law_name" (defScope st__law_name) f cdv A outer s H E)) :
    SSs (wOf E) (cxD P w K mg base N__law_name "_law_name" (defScope st__law_name) f cdv A outer s H E) (defBody st__law_name) (b__law_name O) := by
  unfold b__law_name
  exact (sss_cons (ss_set 1 ok (se_ix (ir_ix ok) o_ix (se_str [97, 98, 99, 100, 101, 102, 103, 104, 105, 106, 107, 108, 109, 110, 111, 112, 113, 114, 115, 116, 117, 118, 119, 120, 121, 122]) (se_call ok S.f__law_draw (by rfl) (sa_cons (se_var 0) (sa_cons se_int sa_nil))) (fun _ _ => rfl)))
  (sss_cons (ss_for ok (si_range1 (by rfl) G.z_range (sa_cons (se_call ok S.f__law_draw (by rfl) (sa_cons (se_var 0) (sa_cons se_int sa_nil))) sa_nil)) (pg_name (i := 2) ok.nd rfl (by first | exact .inl rfl | exact .inr rfl)) (gb_name 2) (sss_one (ss_set 1 ok (se_bin or_add o_add (se_var 1) (se_ix (ir_ix ok) o_ix (se_str [97, 98, 99, 100, 101, 102, 103, 104, 105, 106, 107, 108, 109, 110, 111, 112, 113, 114, 115, 116, 117, 118, 119, 120, 121, 122, 48, 49, 50, 51, 52, 53, 54, 55, 56, 57]) (se_call ok S.f__law_draw (by rfl) (sa_cons (se_var 0) (sa_cons se_int sa_nil))) (fun _ _ => rfl))))))
  (sss_cons (ss_set 3 ok (se_lst (sa_cons (se_str [121, 101, 115]) (sa_cons (se_str [110, 111]) (sa_cons (se_str [110, 111, 116]) (sa_cons (se_str [112, 108, 117, 115]) (sa_cons (se_str [116, 105, 109, 101, 115]) (sa_cons (se_str [108, 101, 97, 100, 115]) (sa_cons (se_str [97, 110, 100]) (sa_cons (se_str [111, 114]) (sa_cons (se_str [115, 97, 109, 101]) sa_nil)))))))))))
  (sss_one (ss_ret (se_if (st_cmp (or_notIn ok) o_notIn (se_var 1) (se_var 3) (by with_unfolding_all rfl)) (se_var 1) (se_bin or_add o_add (se_slice (se_var 1) so_none (so_some se_int)) (se_str [55]))))))))
theorem s__law_written (G : Fx K mg) (S : Snd P w K mg base k O) (cdv : Value) (A : Around) (outer : List Env) (s : Shared) (H : Hp) (E : XK) (ok : Ok (wOf E) (k + 1) (cxD P w K mg base N__law_written "_law_written" (defScope st__law_written) f cdv A outer s H E)) :
    SSs (wOf E) (cxD P w K mg base N__law_written "_law_written" (defScope st__law_written) f cdv A outer s H E) (defBody st__law_written) (b__law_written O) := by
  unfold b__law_written
  exact (sss_cons (ss_if (st_cmp (or_eq ok) o_eq (se_ix (ir_ix ok) o_ix (se_var 0) se_int (fun _ _ => rfl)) (se_str [117, 110, 107, 110, 111, 119, 110]) (nomark _)) (sss_one (ss_ret (se_ix (ir_ix ok) o_ix (se_var 0) se_int (fun _ _ => rfl)))) sss_nil)
  (sss_cons (ss_if (st_cmp (or_in ok) o_in (se_ix (ir_ix ok) o_ix (se_var 0) se_int (fun _ _ => rfl)) (se_tup (sa_cons (se_str [121, 101, 115]) (sa_cons (se_str [110, 111]) sa_nil))) (by with_unfolding_all rfl)) (sss_one (ss_ret (se_ix (ir_ix ok) o_ix (se_var 0) se_int (fun _ _ => rfl)))) sss_nil)
  (sss_cons (ss_set 1 ok (se_call ok S.f__law_written (by rfl) (sa_cons (se_ix (ir_ix ok) o_ix (se_var 0) se_int (fun _ _ => rfl)) sa_nil)))
  (sss_cons (ss_if (st_cmp (or_eq ok) o_eq (se_ix (ir_ix ok) o_ix (se_var 0) se_int (fun _ _ => rfl)) (se_str [110, 111, 116]) (nomark _)) (sss_one (ss_ret (se_bin or_add o_add (se_str [110, 111, 116, 32]) (se_var 1)))) sss_nil)
  (sss_one (ss_ret (se_bin or_add o_add (se_bin or_add o_add (se_bin or_add o_add (se_bin or_add o_add (se_bin or_add o_add (se_bin or_add o_add (se_str [40]) (se_var 1)) (se_str [32])) (se_ix (ir_ix ok) o_ix (se_var 0) se_int (fun _ _ => rfl))) (se_str [32])) (se_call ok S.f__law_written (by rfl) (sa_cons (se_ix (ir_ix ok) o_ix (se_var 0) se_int (fun _ _ => rfl)) sa_nil))) (se_str [41]))))))))
theorem s__law_blanks (G : Fx K mg) (S : Snd P w K mg base k O) (cdv : Value) (A : Around) (outer : List Env) (s : Shared) (H : Hp) (E : XK) (ok : Ok (wOf E) (k + 1) (cxD P w K mg base N__law_blanks "_law_blanks" (defScope st__law_blanks) f cdv A outer s H E)) :
    SSs (wOf E) (cxD P w K mg base N__law_blanks "_law_blanks" (defScope st__law_blanks) f cdv A outer s H E) (defBody st__law_blanks) (b__law_blanks O) := by
  unfold b__law_blanks
  exact (sss_one (ss_ret (se_bin or_mul o_mul (se_str [32]) (se_if (st_cmp (or_eq ok) o_eq (se_call ok S.f__law_draw (by rfl) (sa_cons (se_var 0) (sa_cons se_int sa_nil))) se_int (nomark _)) (se_call ok S.f__law_draw (by rfl) (sa_cons (se_var 0) (sa_cons (se_var 1) sa_nil))) se_int))))
theorem s__law_loose (G : Fx K mg) (S : Snd P w K mg base k O) (cdv : Value) (A : Around) (outer : List Env) (s : Shared) (H : Hp) (E : XK) (ok : Ok (wOf E) (k + 1) (cxD P w K mg base N__law_loose "_law_loose" (defScope st__law_loose) f cdv A outer s H E)) :
    SSs (wOf E) (cxD P w K mg base N__law_loose "_law_loose" (defScope st__law_loose) f cdv A outer s H E) (defBody st__law_loose) (b__law_loose O) := by
  unfold b__law_loose
  exact (sss_cons (ss_set 2 ok (se_call ok S.f__law_blanks (by rfl) (sa_cons (se_var 0) (sa_cons se_int sa_nil))))
  (sss_cons (ss_for ok (si_range1 (by rfl) G.z_range (sa_cons (se_blt c_len o_len (by rfl) G.z_len (by decide +kernel) (sa_cons (se_var 1) sa_nil)) sa_nil)) (pg_name (i := 3) ok.nd rfl (by first | exact .inl rfl | exact .inr rfl)) (gb_name 3) (sss_cons (ss_par2 4 5 ok (sa_cons (se_ix (ir_ix ok) o_ix (se_var 1) (se_var 3) (fun _ _ => rfl)) (sa_cons (se_tup (sa_cons (se_slice (se_var 1) (so_some (se_bin op_sub o_sub (se_var 3) se_int)) (so_some (se_var 3))) (sa_cons (se_slice (se_var 1) (so_some (se_bin or_add o_add (se_var 3) se_int)) (so_some (se_bin or_add o_add (se_var 3) se_int))) sa_nil))) sa_nil)))
  (sss_one (ss_if (st_cmp (or_in ok) o_in (se_var 4) (se_str [40, 41]) (by with_unfolding_all rfl)) (sss_one (ss_set 2 ok (se_bin or_add o_add (se_bin or_add o_add (se_bin or_add o_add (se_var 2) (se_call ok S.f__law_blanks (by rfl) (sa_cons (se_var 0) (sa_cons se_int sa_nil)))) (se_var 4)) (se_call ok S.f__law_blanks (by rfl) (sa_cons (se_var 0) (sa_cons se_int sa_nil)))))) (sss_one (ss_if (st_cmp (or_eq ok) o_eq (se_var 4) (se_str [32]) (nomark _)) (sss_cons (ss_set 6 ok (se_if (st_pw (sw_or (st_cmp (or_in ok) o_in (se_ix (ir_ix ok) o_ix (se_var 5) se_int (fun _ _ => rfl)) (se_str [40, 41]) (by with_unfolding_all rfl)) (sw_or1 (st_cmp (or_in ok) o_in (se_ix (ir_ix ok) o_ix (se_var 5) se_int (fun _ _ => rfl)) (se_str [40, 41]) (by with_unfolding_all rfl))))) se_int se_int))
  (sss_one (ss_set 2 ok (se_bin or_add o_add (se_bin or_add o_add (se_var 2) (se_bin or_mul o_mul (se_str [32]) (se_var 6))) (se_call ok S.f__law_blanks (by rfl) (sa_cons (se_var 0) (sa_cons se_int sa_nil))))))) (sss_one (ss_set 2 ok (se_bin or_add o_add (se_var 2) (se_var 4))))))))))
  (sss_one (ss_ret (se_bin or_add o_add (se_var 2) (se_call ok S.f__law_blanks (by rfl) (sa_cons (se_var 0) (sa_cons se_int sa_nil))))))))
theorem s__law_value (G : Fx K mg) (S : Snd P w K mg base k O) (cdv : Value) (A : Around) (outer : List Env) (s : Shared) (H : Hp) (E : XK) (ok : Ok (wOf E) (k + 1) (cxD P w K mg base N__law_value "_law_value" (defScope st__law_value) f cdv A outer s H E)) :
    SSs (wOf E) (cxD P w K mg base N__law_value "_law_value" (defScope st__law_value) f cdv A outer s H E) (defBody st__law_value) (b__law_value O) := by
  unfold b__law_value
  exact (sss_cons (ss_set 1 ok (se_bin or_add o_add se_int (se_call ok S.f__law_draw (by rfl) (sa_cons (se_var 0) (sa_cons (se_ix (ir_ix ok) o_ix (se_lst (sa_cons se_int (sa_cons se_int (sa_cons (se_bin op_pow o_pow se_int se_int) sa_nil)))) (se_call ok S.f__law_draw (by rfl) (sa_cons (se_var 0) (sa_cons se_int sa_nil))) (fun _ _ => rfl)) sa_nil)))))
  (sss_one (ss_ret (se_call ok S.f__law_lowest (by rfl) (sa_cons (se_call ok S.f__law_draw (by rfl) (sa_cons (se_var 0) (sa_cons (se_bin or_add o_add (se_var 1) se_int) sa_nil))) (sa_cons (se_var 1) sa_nil))))))
theorem s__law_value_written (G : Fx K mg) (S : Snd P w K mg base k O) (cdv : Value) (A : Around) (outer : List Env) (s : Shared) (H : Hp) (E : XK) (ok : Ok (wOf E) (k + 1) (cxD P w K mg base N__law_value_written "_law_value_written" (defScope st__law_value_written) f cdv A outer s H E)) :
    SSs (wOf E) (cxD P w K mg base N__law_value_written "_law_value_written" (defScope st__law_value_written) f cdv A outer s H E) (defBody st__law_value_written) (b__law_value_written O) := by
  unfold b__law_value_written
  exact (sss_one (ss_ret (se_if (st_cmp (or_eq ok) o_eq (se_ix (ir_ix ok) o_ix (se_var 0) se_int (fun _ _ => rfl)) se_int (nomark _)) (se_ty c_str o_str (by rfl) G.z_str (by decide +kernel) (sa_cons (se_ix (ir_ix ok) o_ix (se_var 0) se_int (fun _ _ => rfl)) sa_nil)) (se_bin or_add o_add (se_bin or_add o_add (se_ty c_str o_str (by rfl) G.z_str (by decide +kernel) (sa_cons (se_ix (ir_ix ok) o_ix (se_var 0) se_int (fun _ _ => rfl)) sa_nil)) (se_str [47])) (se_ty c_str o_str (by rfl) G.z_str (by decide +kernel) (sa_cons (se_ix (ir_ix ok) o_ix (se_var 0) se_int (fun _ _ => rfl)) sa_nil))))))
theorem s__law_saying_right (G : Fx K mg) (S : Snd P w K mg base k O) (cdv : Value) (A : Around) (outer : List Env) (s : Shared) (H : Hp) (E : XK) (ok : Ok (wOf E) (k + 1) (cxD P w K mg base N__law_saying_right "_law_saying_right" (defScope st__law_saying_right) f cdv A outer s H E)) :
    SSs (wOf E) (cxD P w K mg base N__law_saying_right "_law_saying_right" (defScope st__law_saying_right) f cdv A outer s H E) (defBody st__law_saying_right) (b__law_saying_right O) := by
  unfold b__law_saying_right
  exact (sss_cons (ss_set 2 ok (se_call ok S.f__law_saying (by rfl) (sa_cons (se_var 0) (sa_cons (se_var 1) (sa_cons (se_call ok S.f__law_draw (by rfl) (sa_cons (se_var 0) (sa_cons se_int sa_nil))) sa_nil)))))
  (sss_cons (ss_for ok (si_range1 (by rfl) G.z_range (sa_cons (se_call ok S.f__law_draw (by rfl) (sa_cons (se_var 0) (sa_cons se_int sa_nil))) sa_nil)) (pg_name (i := 3) ok.nd rfl (by first | exact .inl rfl | exact .inr rfl)) (gb_name 3) (sss_one (ss_set 2 ok (se_tup (sa_cons (se_str [110, 111, 116]) (sa_cons (se_var 2) sa_nil))))))
  (sss_cons (ss_set 4 ok (se_call ok S.f__law_written (by rfl) (sa_cons (se_var 2) sa_nil)))
  (sss_cons (ss_if (st_pw (sw_or (st_cmp (or_ne ok) o_ne (se_blt (c_repr ok) o_repr (by rfl) G.z_repr (by decide +kernel) (sa_cons (se_call ok S.f_saying_text (by rfl) (sa_cons (se_var 2) sa_nil)) sa_nil)) (se_blt (c_repr ok) o_repr (by rfl) G.z_repr (by decide +kernel) (sa_cons (se_var 4) sa_nil)) (nomark _)) (sw_or1 (st_cmp (or_ne ok) o_ne (se_blt (c_repr ok) o_repr (by rfl) G.z_repr (by decide +kernel) (sa_cons (se_call ok S.f_read_saying (by rfl) (sa_cons (se_var 4) sa_nil)) sa_nil)) (se_blt (c_repr ok) o_repr (by rfl) G.z_repr (by decide +kernel) (sa_cons (se_var 2) sa_nil)) (nomark _))))) (sss_one (ss_ret se_bl)) sss_nil)
  (sss_cons (ss_for ok (si_range1 (by rfl) G.z_range (sa_cons se_int sa_nil)) (pg_name (i := 3) ok.nd rfl (by first | exact .inl rfl | exact .inr rfl)) (gb_name 3) (sss_one (ss_if (st_cmp (or_ne ok) o_ne (se_blt (c_repr ok) o_repr (by rfl) G.z_repr (by decide +kernel) (sa_cons (se_call ok S.f_read_saying (by rfl) (sa_cons (se_call ok S.f__law_loose (by rfl) (sa_cons (se_var 0) (sa_cons (se_var 4) sa_nil))) sa_nil)) sa_nil)) (se_blt (c_repr ok) o_repr (by rfl) G.z_repr (by decide +kernel) (sa_cons (se_var 2) sa_nil)) (nomark _)) (sss_one (ss_ret se_bl)) sss_nil)))
  (sss_one (ss_ret se_bl)))))))
theorem s__law_values_right (G : Fx K mg) (S : Snd P w K mg base k O) (cdv : Value) (A : Around) (outer : List Env) (s : Shared) (H : Hp) (E : XK) (ok : Ok (wOf E) (k + 1) (cxD P w K mg base N__law_values_right "_law_values_right" (defScope st__law_values_right) f cdv A outer s H E)) :
    SSs (wOf E) (cxD P w K mg base N__law_values_right "_law_values_right" (defScope st__law_values_right) f cdv A outer s H E) (defBody st__law_values_right) (b__law_values_right O) := by
  unfold b__law_values_right
  exact (sss_cons (ss_set 2 ok (se_lst sa_nil))
  (sss_cons (ss_for ok (si_any (se_var 1)) (pg_name (i := 3) ok.nd rfl (by first | exact .inl rfl | exact .inr rfl)) (gb_name 3) (sss_cons (ss_set 5 ok (se_call ok S.f__law_value (by rfl) (sa_cons (se_var 0) sa_nil)))
  (sss_cons (ss_expr (se_bm PySem.F.plainAttrs_list PySem.F.slot_list_append PySem.F.type_list_append mt_append chk_lst o_append (se_var 2) (sa_cons (se_var 5) sa_nil)))
  (sss_cons (ss_par2 7 8 ok (sa_cons (se_call ok S.f__law_value_written (by rfl) (sa_cons (se_var 5) sa_nil)) (sa_cons (se_bin or_add o_add se_int (se_call ok S.f__law_draw (by rfl) (sa_cons (se_var 0) (sa_cons se_int sa_nil)))) sa_nil)))
  (sss_cons (ss_set 6 ok (se_bin or_add o_add (se_bin or_add o_add (se_ty c_str o_str (by rfl) G.z_str (by decide +kernel) (sa_cons (se_bin or_mul o_mul (se_ix (ir_ix ok) o_ix (se_var 5) se_int (fun _ _ => rfl)) (se_var 8)) sa_nil)) (se_str [47])) (se_ty c_str o_str (by rfl) G.z_str (by decide +kernel) (sa_cons (se_bin or_mul o_mul (se_ix (ir_ix ok) o_ix (se_var 5) se_int (fun _ _ => rfl)) (se_var 8)) sa_nil))))
  (sss_cons (ss_if (st_cmp (or_ne ok) o_ne (se_blt (c_repr ok) o_repr (by rfl) G.z_repr (by decide +kernel) (sa_cons (se_call ok S.f_value_text (by rfl) (sa_cons (se_var 5) sa_nil)) sa_nil)) (se_blt (c_repr ok) o_repr (by rfl) G.z_repr (by decide +kernel) (sa_cons (se_var 7) sa_nil)) (nomark _)) (sss_one (ss_ret se_bl)) sss_nil)
  (sss_one (ss_if (st_cmp (or_ne ok) o_ne (se_blt (c_repr ok) o_repr (by rfl) G.z_repr (by decide +kernel) (sa_cons (se_lst (sa_cons (se_call ok S.f_read_value (by rfl) (sa_cons (se_var 7) sa_nil)) (sa_cons (se_call ok S.f_read_value (by rfl) (sa_cons (se_var 6) sa_nil)) sa_nil))) sa_nil)) (se_blt (c_repr ok) o_repr (by rfl) G.z_repr (by decide +kernel) (sa_cons (se_lst (sa_cons (se_var 5) (sa_cons (se_var 5) sa_nil))) sa_nil)) (nomark _)) (sss_one (ss_ret se_bl)) sss_nil))))))))
  (sss_cons (ss_set 4 ok (se_bm PySem.F.plainAttrs_str PySem.F.slot_str_join PySem.F.type_str_join mt_join chk_str o_join (se_str [44, 32]) (sa_cons (se_comp ok (si_zip (by rfl) G.z_zip (sa_cons (se_var 1) (sa_cons (se_var 2) sa_nil))) (blkOk_by (own := [("_law_name_here", 3), ("_law_pair", 5)]) (N := N__law_values_right) (sc := defScope st__law_values_right) (by decide +kernel)) (gb_tup (gbs_cons (gb_name 3) (gbs_cons (gb_name 5) gbs_nil))) (by decide) (fun _ _ _ _ _ => (pg_tup rfl (pgs_cons (pg_name (i := 3) ok.nd rfl (by first | exact .inl rfl | exact .inr rfl)) (pgs_cons (pg_name (i := 5) ok.nd rfl (by first | exact .inl rfl | exact .inr rfl)) pgs_nil)))) (fun _ _ _ _ _ ok2 => sts_nil) (fun _ _ _ _ _ ok2 => (se_bin or_add o_add (se_bin or_add o_add (se_var 3) (se_str [61])) (se_call ok2 S.f__law_value_written (by rfl) (sa_cons (se_var 5) sa_nil))))) sa_nil)))
  (sss_one (ss_ret (se_and (se_cmp (or_eq ok) o_eq (se_blt (c_repr ok) o_repr (by rfl) G.z_repr (by decide +kernel) (sa_cons (se_call ok S.f_point_text (by rfl) (sa_cons (se_ty call_tuple_of o_tuple (by rfl) G.z_tuple (by decide +kernel) (sa_cons (se_var 1) sa_nil)) (sa_cons (se_ty call_tuple_of o_tuple (by rfl) G.z_tuple (by decide +kernel) (sa_cons (se_var 2) sa_nil)) sa_nil))) sa_nil)) (se_blt (c_repr ok) o_repr (by rfl) G.z_repr (by decide +kernel) (sa_cons (se_var 4) sa_nil)) (nomark _)) (se_one (se_cmp (or_eq ok) o_eq (se_blt (c_repr ok) o_repr (by rfl) G.z_repr (by decide +kernel) (sa_cons (se_call ok S.f_point_text (by rfl) (sa_cons (se_tup sa_nil) (sa_cons (se_tup sa_nil) sa_nil))) sa_nil)) (se_blt (c_repr ok) o_repr (by rfl) G.z_repr (by decide +kernel) (sa_cons (se_str []) sa_nil)) (nomark _)))))))))
theorem s_law (G : Fx K mg) (S : Snd P w K mg base k O) (cdv : Value) (A : Around) (outer : List Env) (s : Shared) (H : Hp) (E : XK) (ok : Ok (wOf E) (k + 1) (cxD P w K mg base N_law "law" (defScope st_law) f cdv A outer s H E)) :
    SSs (wOf E) (cxD P w K mg base N_law "law" (defScope st_law) f cdv A outer s H E) (defBody st_law) (b_law O) := by
  unfold b_law
  exact (sss_cons (ss_for ok (si_range1 (by rfl) G.z_range (sa_cons (se_bin or_add o_add se_int (se_ty c_int o_int (by rfl) G.z_int (by decide +kernel) (sa_cons (se_cmp op_gt o_gt (se_blt c_len o_len (by rfl) G.z_len (by decide +kernel) (sa_cons (se_var 0) sa_nil)) se_int (nomark _)) sa_nil))) sa_nil)) (pg_name (i := 1) ok.nd rfl (by first | exact .inl rfl | exact .inr rfl)) (gb_name 1) (sss_cons (ss_par2 3 4 ok (sa_cons (se_call ok S.f__law_begun (by rfl) (sa_cons (se_var 0) (sa_cons (se_var 1) sa_nil))) (sa_cons (se_lst sa_nil) sa_nil)))
  (sss_cons (ss_for ok (si_range1 (by rfl) G.z_range (sa_cons (se_bin or_add o_add se_int (se_call ok S.f__law_draw (by rfl) (sa_cons (se_var 3) (sa_cons se_int sa_nil)))) sa_nil)) (pg_name (i := 2) ok.nd rfl (by first | exact .inl rfl | exact .inr rfl)) (gb_name 2) (sss_cons (ss_set 5 ok (se_call ok S.f__law_name (by rfl) (sa_cons (se_var 3) sa_nil)))
  (sss_one (ss_if (st_cmp (or_notIn ok) o_notIn (se_var 5) (se_var 4) (by with_unfolding_all rfl)) (sss_one (ss_expr (se_bm PySem.F.plainAttrs_list PySem.F.slot_list_append PySem.F.type_list_append mt_append chk_lst o_append (se_var 4) (sa_cons (se_var 5) sa_nil)))) sss_nil))))
  (sss_one (ss_if (st_pw (sw_or (st_not (st_val (se_call ok S.f__law_saying_right (by rfl) (sa_cons (se_var 3) (sa_cons (se_var 4) sa_nil))))) (sw_or1 (st_not (st_val (se_call ok S.f__law_values_right (by rfl) (sa_cons (se_var 3) (sa_cons (se_var 4) sa_nil)))))))) (sss_one (ss_ret se_bl)) sss_nil)))))
  (sss_one (ss_ret se_bl)))
theorem snd (G : Fx K mg) (D : Ds K mg) : ∀ n, Snd P w K mg base (2 * n) (M n)
  | 0 => ⟨glo_of D.f_is_name fun _ _ _ => fnG_stuck, glo_of D.f_common fun _ _ _ => fnG_stuck, glo_of D.f_lowest fun _ _ _ => fnG_stuck, glo_of D.f_fraction fun _ _ _ => fnG_stuck, glo_of D.f_saying_text fun _ _ _ => fnG_stuck, glo_of D.f_value_text fun _ _ _ => fnG_stuck, glo_of D.f_point_text fun _ _ _ => fnG_stuck, glo_of D.f__word_from fun _ _ _ => fnG_stuck, glo_of D.f__tokens fun _ _ _ => fnG_stuck, gmak_of D.i_Reader fun _ _ _ => fnG_stuck, gmet_of D.m_Reader_now fun _ _ _ => fnG_stuck, gmet_of D.m_Reader_place fun _ _ _ => fnG_stuck, gmet_of D.m_Reader_take fun _ _ _ => fnG_stuck, gmet_of D.m_Reader_item fun _ _ _ => fnG_stuck, gmet_of D.m_Reader_pair fun _ _ _ => fnG_stuck, glo_of D.f_read_saying fun _ _ _ => fnG_stuck, glo_of D.f__digits_from fun _ _ _ => fnG_stuck, glo_of D.f_read_value fun _ _ _ => fnG_stuck, glo_of D.f__law_begun fun _ _ _ => fnG_stuck, glo_of D.f__law_draw fun _ _ _ => fnG_stuck, glo_of D.f__law_of fun _ _ _ => fnG_stuck, glo_of D.f__law_saying fun _ _ _ => fnG_stuck, glo_of D.f__law_lowest fun _ _ _ => fnG_stuck, glo_of D.f__law_name fun _ _ _ => fnG_stuck, glo_of D.f__law_written fun _ _ _ => fnG_stuck, glo_of D.f__law_blanks fun _ _ _ => fnG_stuck, glo_of D.f__law_loose fun _ _ _ => fnG_stuck, glo_of D.f__law_value fun _ _ _ => fnG_stuck, glo_of D.f__law_value_written fun _ _ _ => fnG_stuck, glo_of D.f__law_saying_right fun _ _ _ => fnG_stuck, glo_of D.f__law_values_right fun _ _ _ => fnG_stuck, glo_of D.f_law fun _ _ _ => fnG_stuck⟩
  | n + 1 => ⟨glo_of D.f_is_name fun _ _ F => fnG_of F sc_is_name (s_is_name G (snd G D n)),
    glo_of D.f_common fun _ _ F => fnG_of F sc_common (s_common G (snd G D n)),
    glo_of D.f_lowest fun _ _ F => fnG_of F sc_lowest (s_lowest G (snd G D n)),
    glo_of D.f_fraction fun _ _ F => fnG_of F sc_fraction (s_fraction G (snd G D n)),
    glo_of D.f_saying_text fun _ _ F => fnG_of F sc_saying_text (s_saying_text G (snd G D n)),
    glo_of D.f_value_text fun _ _ F => fnG_of F sc_value_text (s_value_text G (snd G D n)),
    glo_of D.f_point_text fun _ _ F => fnG_of F sc_point_text (s_point_text G (snd G D n)),
    glo_of D.f__word_from fun _ _ F => fnG_of F sc__word_from (s__word_from G (snd G D n)),
    glo_of D.f__tokens fun _ _ F => fnG_of F sc__tokens (s__tokens G (snd G D n)),
    gmak_of D.i_Reader fun _ _ F => fnG_of F sc_Reader___init__ (s_Reader___init__ G (snd G D n)),
    gmet_of D.m_Reader_now fun _ _ F => fnG_of F sc_Reader_now (s_Reader_now G (snd G D n)),
    gmet_of D.m_Reader_place fun _ _ F => fnG_of F sc_Reader_place (s_Reader_place G (snd G D n)),
    gmet_of D.m_Reader_take fun _ _ F => fnG_of F sc_Reader_take (s_Reader_take G (snd G D n)),
    gmet_of D.m_Reader_item fun _ _ F => fnG_of F sc_Reader_item (s_Reader_item G (snd G D n)),
    gmet_of D.m_Reader_pair fun _ _ F => fnG_of F sc_Reader_pair (s_Reader_pair G (snd G D n)),
    glo_of D.f_read_saying fun _ _ F => fnG_of F sc_read_saying (s_read_saying G (snd G D n)),
    glo_of D.f__digits_from fun _ _ F => fnG_of F sc__digits_from (s__digits_from G (snd G D n)),
    glo_of D.f_read_value fun _ _ F => fnG_of F sc_read_value (s_read_value G (snd G D n)),
    glo_of D.f__law_begun fun _ _ F => fnG_of F sc__law_begun (s__law_begun G (snd G D n)),
    glo_of D.f__law_draw fun _ _ F => fnG_of F sc__law_draw (s__law_draw G (snd G D n)),
    glo_of D.f__law_of fun _ _ F => fnG_of F sc__law_of (s__law_of G (snd G D n)),
    glo_of D.f__law_saying fun _ _ F => fnG_of F sc__law_saying (s__law_saying G (snd G D n)),
    glo_of D.f__law_lowest fun _ _ F => fnG_of F sc__law_lowest (s__law_lowest G (snd G D n)),
    glo_of D.f__law_name fun _ _ F => fnG_of F sc__law_name (s__law_name G (snd G D n)),
    glo_of D.f__law_written fun _ _ F => fnG_of F sc__law_written (s__law_written G (snd G D n)),
    glo_of D.f__law_blanks fun _ _ F => fnG_of F sc__law_blanks (s__law_blanks G (snd G D n)),
    glo_of D.f__law_loose fun _ _ F => fnG_of F sc__law_loose (s__law_loose G (snd G D n)),
    glo_of D.f__law_value fun _ _ F => fnG_of F sc__law_value (s__law_value G (snd G D n)),
    glo_of D.f__law_value_written fun _ _ F => fnG_of F sc__law_value_written (s__law_value_written G (snd G D n)),
    glo_of D.f__law_saying_right fun _ _ F => fnG_of F sc__law_saying_right (s__law_saying_right G (snd G D n)),
    glo_of D.f__law_values_right fun _ _ F => fnG_of F sc__law_values_right (s__law_values_right G (snd G D n)),
    glo_of D.f_law fun _ _ F => fnG_of F sc_law (s_law G (snd G D n))⟩
end
structure Fx0 (K : PySem.W.Frag) (mg : Str → Option Value) : Prop where
  z_abs : mg "abs" = none
  z_all : mg "all" = none
  z_int : mg "int" = none
  z_isinstance : mg "isinstance" = none
  z_len : mg "len" = none
  z_max : mg "max" = none
  z_range : mg "range" = none
  z_repr : mg "repr" = none
  z_str : mg "str" = none
  z_tuple : mg "tuple" = none
  z_zip : mg "zip" = none
  k_DIGITS : GC mg "DIGITS" (V.str (tx [48, 49, 50, 51, 52, 53, 54, 55, 56, 57]))
  k_FIRST_SIGNS : GC mg "FIRST_SIGNS" (V.str (tx [97, 98, 99, 100, 101, 102, 103, 104, 105, 106, 107, 108, 109, 110, 111, 112, 113, 114, 115, 116, 117, 118, 119, 120, 121, 122]))
  k_LOWER : GC mg "LOWER" (V.str (tx [97, 98, 99, 100, 101, 102, 103, 104, 105, 106, 107, 108, 109, 110, 111, 112, 113, 114, 115, 116, 117, 118, 119, 120, 121, 122]))
  k_MOST_DEPTH : GC mg "MOST_DEPTH" (V.int 60)
  k_MOST_DIGITS : GC mg "MOST_DIGITS" (V.int 20)
  k_MOST_LETTERS : GC mg "MOST_LETTERS" (V.int 8)
  k_MOST_OPEN : GC mg "MOST_OPEN" (V.int 60)
  k_MOST_SIGNS : GC mg "MOST_SIGNS" (V.int 4000)
  k_MOST_WORDS : GC mg "MOST_WORDS" (V.int 1000)
  k_NAME_SIGNS : GC mg "NAME_SIGNS" (V.str (tx [97, 98, 99, 100, 101, 102, 103, 104, 105, 106, 107, 108, 109, 110, 111, 112, 113, 114, 115, 116, 117, 118, 119, 120, 121, 122, 48, 49, 50, 51, 52, 53, 54, 55, 56, 57]))
  k_SINGLE : GC mg "SINGLE" (V.str (tx [40, 41]))
  k_WORD_SIGNS : GC mg "WORD_SIGNS" (V.str (tx [97, 98, 99, 100, 101, 102, 103, 104, 105, 106, 107, 108, 109, 110, 111, 112, 113, 114, 115, 116, 117, 118, 119, 120, 121, 122, 48, 49, 50, 51, 52, 53, 54, 55, 56, 57]))
  t_PAIRS : GT K mg "PAIRS" ([[112, 108, 117, 115], [116, 105, 109, 101, 115], [108, 101, 97, 100, 115], [97, 110, 100], [111, 114], [115, 97, 109, 101]].map D.str)
  fl_Reader_at : GFld K mg "Reader" "at"
  fl_Reader_length : GFld K mg "Reader" "length"
  fl_Reader_opened : GFld K mg "Reader" "opened"
  fl_Reader_pieces : GFld K mg "Reader" "pieces"

theorem fx_of {K J : PySem.W.Frag} {mg : Str → Option Value} (hs : Sub K J) (F : Fx0 K mg) (t_NO_NAMES : GT J mg "NO_NAMES" ([[121, 101, 115], [110, 111], [110, 111, 116], [112, 108, 117, 115], [116, 105, 109, 101, 115], [108, 101, 97, 100, 115], [97, 110, 100], [111, 114], [115, 97, 109, 101]].map D.str)) : Fx J mg :=
  { z_abs := F.z_abs,
    z_all := F.z_all,
    z_int := F.z_int,
    z_isinstance := F.z_isinstance,
    z_len := F.z_len,
    z_max := F.z_max,
    z_range := F.z_range,
    z_repr := F.z_repr,
    z_str := F.z_str,
    z_tuple := F.z_tuple,
    z_zip := F.z_zip,
    k_DIGITS := F.k_DIGITS,
    k_FIRST_SIGNS := F.k_FIRST_SIGNS,
    k_LOWER := F.k_LOWER,
    k_MOST_DEPTH := F.k_MOST_DEPTH,
    k_MOST_DIGITS := F.k_MOST_DIGITS,
    k_MOST_LETTERS := F.k_MOST_LETTERS,
    k_MOST_OPEN := F.k_MOST_OPEN,
    k_MOST_SIGNS := F.k_MOST_SIGNS,
    k_MOST_WORDS := F.k_MOST_WORDS,
    k_NAME_SIGNS := F.k_NAME_SIGNS,
    k_SINGLE := F.k_SINGLE,
    k_WORD_SIGNS := F.k_WORD_SIGNS,
    t_PAIRS := gt_up hs F.t_PAIRS,
    fl_Reader_at := gfld_up hs F.fl_Reader_at,
    fl_Reader_length := gfld_up hs F.fl_Reader_length,
    fl_Reader_opened := gfld_up hs F.fl_Reader_opened,
    fl_Reader_pieces := gfld_up hs F.fl_Reader_pieces, t_NO_NAMES := t_NO_NAMES }
theorem ds_up {K J : PySem.W.Frag} {mg : Str → Option Value} (hs : Sub K J) (D : Ds K mg) : Ds J mg :=
  ⟨df_up hs D.f_is_name, df_up hs D.f_common, df_up hs D.f_lowest, df_up hs D.f_fraction, df_up hs D.f_saying_text, df_up hs D.f_value_text, df_up hs D.f_point_text, df_up hs D.f__word_from, df_up hs D.f__tokens, di_up hs D.i_Reader, dm_up hs D.m_Reader_now, dm_up hs D.m_Reader_place, dm_up hs D.m_Reader_take, dm_up hs D.m_Reader_item, dm_up hs D.m_Reader_pair, df_up hs D.f_read_saying, df_up hs D.f__digits_from, df_up hs D.f_read_value, df_up hs D.f__law_begun, df_up hs D.f__law_draw, df_up hs D.f__law_of, df_up hs D.f__law_saying, df_up hs D.f__law_lowest, df_up hs D.f__law_name, df_up hs D.f__law_written, df_up hs D.f__law_blanks, df_up hs D.f__law_loose, df_up hs D.f__law_value, df_up hs D.f__law_value_written, df_up hs D.f__law_saying_right, df_up hs D.f__law_values_right, df_up hs D.f_law⟩
abbrev lv : List (Str × PySem.W.WData) := [("NO_NAMES", PySem.W.WData.tuple ([[121, 101, 115], [110, 111], [110, 111, 116], [112, 108, 117, 115], [116, 105, 109, 101, 115], [108, 101, 97, 100, 115], [97, 110, 100], [111, 114], [115, 97, 109, 101]].map fun s => .str (tx s)))]
theorem all_mk {l : PySem.W.OpenLaw} {w : World} {K : PySem.W.Frag} {mg : Str → Option Value} {h : Heap} {fa : Addr} (NN : Nat) (KX : K.In h) (L : PySem.W.LooseAre lv mg h) (hmg : mg "law" = some (.ref fa)) (D : Ds K mg) (F : Fx0 K mg) :
    ∃ (J : PySem.W.Frag) (fd : FuncData), J.In h ∧ Binds J fd ["_law_script"] [] ∧ ∀ base : Heap, J.In base → base.Ns mainGlobals mg → FnG l.prog w J mg base (2 * NN) fa fd ["_law_script"] (M NN .law) := by
  obtain ⟨J, hs, hJ, t⟩ := gt_loose (x := "NO_NAMES") KX L (by decide) (List.mem_singleton.mpr rfl)
  have Fj := fx_of hs F t
  have Dj := ds_up hs D
  obtain ⟨f, fd, Ff, hm, b⟩ := Dj.f_law.ex
  cases hmg.symm.trans hm
  refine ⟨_, fd, hJ, b, fun base _ _ => ?_⟩
  cases NN with
  | zero => exact fnG_stuck
  | succ n => exact fnG_of Ff sc_law (s_law Fj (snd Fj Dj n))
end K65
set_option Elab.async false
set_option linter.all false
set_option maxRecDepth 100000
set_option autoImplicit false
namespace K65
open Mir
def dk (l s : Int) (c : Nat) (t : Int) : List (D × D) := [(.str [108, 101, 102, 116], .int l), (.str [115, 101, 101, 100], .int s), (.str [99, 101, 108, 108, 115], .loc c), (.str [115, 112, 111, 116], .int t)]
structure S (m c : Nat) (cs : List Int) (b : Nat) (h : MH) : Prop where
  ex : ∃ l s t : Int, h[m]? = some (.dic (dk l s c t)) ∧ 0 ≤ l ∧ 0 ≤ s ∧ s < 2147483647 ∧ 0 ≤ t ∧ t ≤ b
  cc : h[c]? = some (.lst (cs.map .int))
  ne : cs ≠ []
  sm : ∀ z ∈ cs, z.natAbs < 2 ^ 1048577
  mc : m ≠ c
theorem atI_mod {α : Type} (xs : List α) (hx : xs ≠ []) (t : Int) (ht : 0 ≤ t) : ∃ x ∈ xs, L2.atI xs (t % (xs.length : Int)) = some x := by
  have hl : 0 < xs.length := List.length_pos_iff.mpr hx
  have h1 := Int.emod_nonneg t (show (xs.length : Int) ≠ 0 by omega)
  have h2 := Int.emod_lt_of_pos t (show 0 < (xs.length : Int) by omega)
  refine ⟨xs[(t % (xs.length : Int)).toNat]'(by omega), List.getElem_mem _, ?_⟩
  rw [atI_nn h1]
  exact List.getElem?_eq_getElem (by omega)
theorem lk1 (l s : Int) (c : Nat) (t : Int) : (dk l s c t).lookup (.str [108, 101, 102, 116]) = some (.int l) := rfl
theorem lk2 (l s : Int) (c : Nat) (t : Int) : (dk l s c t).lookup (.str [115, 101, 101, 100]) = some (.int s) := rfl
theorem lk3 (l s : Int) (c : Nat) (t : Int) : (dk l s c t).lookup (.str [99, 101, 108, 108, 115]) = some (.loc c) := rfl
theorem lk4 (l s : Int) (c : Nat) (t : Int) : (dk l s c t).lookup (.str [115, 112, 111, 116]) = some (.int t) := rfl
theorem pk1 (l s : Int) (c : Nat) (t v : Int) : putD (dk l s c t) (.str [108, 101, 102, 116]) (.int v) = dk v s c t := rfl
theorem pk4 (l s : Int) (c : Nat) (t v : Int) : putD (dk l s c t) (.str [115, 112, 111, 116]) (.int v) = dk l s c v := rfl
theorem lenk (l s : Int) (c : Nat) (t : Int) : (dk l s c t).length = 4 := rfl
theorem draw (n : Nat) {m c : Nat} {cs : List Int} {b : Nat} {h : MH} {below : Int} (hs : S m c cs b h) (h0 : 0 < below) (h1 : below.natAbs.log2 < 9000) (hb : b ≤ 1000000000) :
    ∃ (r : Int) (h' : MH), 0 ≤ r ∧ r < below ∧ M (n + 1) ._law_draw [.loc m, .int below] h = .ok (.int r) h' ∧ S m c cs (b + 1) h' ∧ h'.length = h.length ∧ ∀ i, i ≠ m → h'[i]? = h[i]? := by
  obtain ⟨l, s, t, e, hl, hs0, hs1, ht0, ht1⟩ := hs.ex
  have hm : m < h.length := (List.getElem?_eq_some_iff.mp e).1
  have e' : h[m] = .dic (dk l s c t) := (List.getElem?_eq_some_iff.mp e).2
  rw [M__law_draw]
  by_cases hz : 0 < l
  · refine ⟨l % below, h.set m (.dic (dk (l / below) s c t)), Int.emod_nonneg _ (by omega), Int.emod_lt_of_pos _ h0, ?_, ?_, by simp, fun i hi => List.getElem?_set_ne (Ne.symm hi)⟩
    · refine fnM_of rfl ?_ rfl (by simp)
      unfold b__law_draw
      have hmm : (h.set m (.dic (dk (l / below) s c t)))[m]? = some (.dic (dk (l / below) s c t)) := by simp [hm]
      simp [fnM, runB, eLit, eVar, eBin, eUn, aNil, aCons, eApp, eTup, eLst, eIf, eAnd, eOr, eNot, eChain, tVal, Mir.tAnd, Mir.tOr, Mir.tNot, Mir.tYes, sCons, sNil, sExpr, sSet, sRet, sRetN, sIf, sPass, sBreak, sCont, sBind, sPar, sAug, Mir.sPut, Mir.sFld, Mir.sFldAug, mFld, pNil, pCons, sFor, iAny, mIter, iZip, bName, bTup, bsCons, bsNil, mAdd, mAddI, mSub, mMul, mDiv, mMod, mPow, mNeg, mLt, mLe, mGt, mGe, mEq, mNe, eqD, mIsN, mNotN, mIx, mIn, mNotIn, inD, fLen, fAbs, fMax2, fMin2, fInt, fStr, itemsD, isKey, boolsD, eSlice, oNone, oSome, mSl, eMth, eMeth, methK, eMake, eFmt, eJoin, jGo, mIsi, tyN, isT, e, lk1, pk1, lenk, isKey, hz, h0, h1, hmm, fInt]
    · refine ⟨⟨l / below, s, t, by simp [hm], Int.ediv_nonneg hl (by omega), hs0, hs1, ht0, by omega⟩, ?_, hs.ne, hs.sm, hs.mc⟩
      rw [List.getElem?_set_ne hs.mc]
      exact hs.cc
  · have hc : c < h.length := (List.getElem?_eq_some_iff.mp hs.cc).1
    obtain ⟨x, hx, ex⟩ := atI_mod (cs.map D.int) (by simpa using hs.ne) t ht0
    obtain ⟨z, hz1, rfl⟩ := List.mem_map.mp hx
    have hzb := hs.sm z hz1
    rw [List.length_map] at ex
    have hcp : 0 < cs.length := List.length_pos_iff.mpr hs.ne
    have hcc : (h.set m (.dic (dk l s c (t + 1))))[c]? = some (.lst (cs.map .int)) := by rw [List.getElem?_set_ne hs.mc]; exact hs.cc
    have hmm : (h.set m (.dic (dk l s c (t + 1))))[m]? = some (.dic (dk l s c (t + 1))) := by simp [hm]
    have o1 : mulOk 40503 t = true := mulOk_log (a := 100) (b := 100) (by decide) (by omega) (by decide)
    have b1 : (40503 * t).natAbs < 2 ^ 100 := by omega
    have o2 : mulOk (40503 * t) t = true := mulOk_log (a := 100) (b := 100) b1 (by omega) (by decide)
    have o3 : mulOk 2 t = true := mulOk_log (a := 100) (b := 100) (by decide) (by omega) (by decide)
    have o4 : mulOk z (2 * t + 3) = true := mulOk_log (a := 1048577) (b := 100) hzb (by omega) (by decide)
    generalize hA : s + 40503 * t * t = A
    generalize hB : (z * (2 * t + 3) + A) % 2147483647 = B
    have B0 : 0 ≤ B := by rw [← hB]; exact Int.emod_nonneg _ (by decide)
    have B1 : B < 2147483647 := by rw [← hB]; exact Int.emod_lt_of_pos _ (by decide)
    have o5 : mulOk B B = true := mulOk_log (a := 100) (b := 100) (by omega) (by omega) (by decide)
    have o6 : mulOk 69621 t = true := mulOk_log (a := 100) (b := 100) (by decide) (by omega) (by decide)
    generalize hC : (B * B + 69621 * t + s) % 2147483629 = C
    have C0 : 0 ≤ C := by rw [← hC]; exact Int.emod_nonneg _ (by decide)
    have C1 : C < 2147483629 := by rw [← hC]; exact Int.emod_lt_of_pos _ (by decide)
    have o7 : mulOk C 48271 = true := mulOk_log (a := 100) (b := 100) (by omega) (by decide) (by decide)
    refine ⟨(C * 48271 + t) % 2147483647 / 11 % below, h.set m (.dic (dk l s c (t + 1))), Int.emod_nonneg _ (by omega), Int.emod_lt_of_pos _ h0, ?_, ?_, by simp, fun i hi => List.getElem?_set_ne (Ne.symm hi)⟩
    · refine fnM_of rfl ?_ rfl (by simp)
      unfold b__law_draw
      simp [fnM, runB, eLit, eVar, eBin, eUn, aNil, aCons, eApp, eTup, eLst, eIf, eAnd, eOr, eNot, eChain, tVal, Mir.tAnd, Mir.tOr, Mir.tNot, Mir.tYes, sCons, sNil, sExpr, sSet, sRet, sRetN, sIf, sPass, sBreak, sCont, sBind, sPar, sAug, Mir.sPut, Mir.sFld, Mir.sFldAug, mFld, pNil, pCons, sFor, iAny, mIter, iZip, bName, bTup, bsCons, bsNil, mAdd, mAddI, mSub, mMul, mDiv, mMod, mPow, mNeg, mLt, mLe, mGt, mGe, mEq, mNe, eqD, mIsN, mNotN, mIx, mIn, mNotIn, inD, fLen, fAbs, fMax2, fMin2, fInt, fStr, itemsD, isKey, boolsD, eSlice, oNone, oSome, mSl, eMth, eMeth, methK, eMake, eFmt, eJoin, jGo, mIsi, tyN, isT, e, lk1, lk2, lk3, lk4, pk4, lenk, isKey, hz, h0, h1, hcc, hmm, ex, o1, o2, o3, o4, o5, o6, o7, hA, hB, hC, hcp, (by decide : Nat.log2 11 < 9000)]
    · refine ⟨⟨l, s, t + 1, by simp [hm], hl, hs0, hs1, by omega, by omega⟩, hcc, hs.ne, hs.sm, hs.mc⟩
end K65
set_option Elab.async false
set_option linter.all false
set_option autoImplicit false
/-! k65: sayings, their texts and tokens; no program in sight. -/
namespace K65
inductive Sy where
  | yes
  | no
  | unk (w : List Nat)
  | not (s : Sy)
  | bin (mk : List Nat) (a b : Sy)
def wYes : List Nat := [121, 101, 115]
def wNo : List Nat := [110, 111]
def wNot : List Nat := [110, 111, 116]
def marks : List (List Nat) := [[112, 108, 117, 115], [116, 105, 109, 101, 115], [108, 101, 97, 100, 115], [97, 110, 100], [111, 114], [115, 97, 109, 101]]
def noNames : List (List Nat) := wYes :: wNo :: wNot :: marks
def lower : List Nat := [97, 98, 99, 100, 101, 102, 103, 104, 105, 106, 107, 108, 109, 110, 111, 112, 113, 114, 115, 116, 117, 118, 119, 120, 121, 122]
def wsigns : List Nat := [97, 98, 99, 100, 101, 102, 103, 104, 105, 106, 107, 108, 109, 110, 111, 112, 113, 114, 115, 116, 117, 118, 119, 120, 121, 122, 48, 49, 50, 51, 52, 53, 54, 55, 56, 57]
/-- a name -/
structure Nm (w : List Nat) : Prop where
  hd : ∃ c r, w = c :: r ∧ c ∈ lower
  all : ∀ c ∈ w, c ∈ wsigns
  le : w.length ≤ 8
  no : w ∉ noNames
/-- a word -/
structure Wd (w : List Nat) : Prop where
  hd : ∃ c r, w = c :: r ∧ c ∈ lower
  all : ∀ c ∈ w, c ∈ wsigns
theorem Nm.wd {w : List Nat} (h : Nm w) : Wd w := ⟨h.hd, h.all⟩
theorem Wd.of {w : List Nat} (h : w.head?.any (fun c => lower.contains c) = true) (h2 : w.all (fun c => wsigns.contains c) = true) : Wd w := by
  refine ⟨?_, fun c hc => ?_⟩
  · cases w with
    | nil => cases h
    | cons c r => exact ⟨c, r, rfl, List.contains_iff_mem.mp h⟩
  · exact List.contains_iff_mem.mp (List.all_eq_true.mp h2 c hc)
theorem wd_no : ∀ w ∈ noNames, Wd w := by
  intro w hw
  have e : (noNames.all fun w => w.head?.any (fun c => lower.contains c) && w.all (fun c => wsigns.contains c)) = true := by decide
  have q := List.all_eq_true.mp e w hw
  rw [Bool.and_eq_true] at q
  exact Wd.of q.1 q.2
namespace Sy
def written : Sy → List Nat
  | yes => wYes
  | no => wNo
  | unk w => w
  | not s => [110, 111, 116, 32] ++ s.written
  | bin mk a b => [40] ++ a.written ++ [32] ++ mk ++ [32] ++ b.written ++ [41]
def toks : Sy → List (List Nat)
  | yes => [wYes]
  | no => [wNo]
  | unk w => [w]
  | not s => wNot :: s.toks
  | bin mk a b => [40] :: (a.toks ++ (mk :: (b.toks ++ [[41]])))
def good : Sy → Prop
  | yes => True
  | no => True
  | unk w => Nm w
  | not s => s.good
  | bin mk a b => mk ∈ marks ∧ a.good ∧ b.good
/-- how deep -/
def dep : Sy → Nat
  | yes | no | unk _ => 0
  | not s => s.dep + 1
  | bin _ a b => max a.dep b.dep + 1
def bd : Sy → Nat
  | yes | no | unk _ => 0
  | not s => s.bd
  | bin _ a b => max a.bd b.bd + 1
/-- words -/
def wc : Sy → Nat
  | yes | no | unk _ => 1
  | not s => s.wc + 1
  | bin _ a b => a.wc + b.wc + 1
end Sy
theorem Sy.written_bin (mk : List Nat) (a b : Sy) : (Sy.bin mk a b).written = [40] ++ a.written ++ [32] ++ mk ++ [32] ++ b.written ++ [41] := rfl
theorem Sy.toks_bin (mk : List Nat) (a b : Sy) : (Sy.bin mk a b).toks = [40] :: (a.toks ++ (mk :: (b.toks ++ [[41]]))) := rfl
def fl (acc : List Nat) : List (List Nat) := if acc = [] then [] else [acc]
def tk : List Nat → List Nat → List (List Nat)
  | acc, [] => fl acc
  | acc, c :: r => if c = 32 then fl acc ++ tk [] r else if c = 40 ∨ c = 41 then fl acc ++ [c] :: tk [] r else tk (acc ++ [c]) r
theorem ws_no {c : Nat} (h : c ∈ wsigns) : c ≠ 32 ∧ c ≠ 40 ∧ c ≠ 41 := by
  have e : (wsigns.all fun c => decide (c ≠ 32 ∧ c ≠ 40 ∧ c ≠ 41)) = true := by decide
  exact of_decide_eq_true (List.all_eq_true.mp e c h)
theorem tk_word : ∀ (w : List Nat) (acc r : List Nat), (∀ c ∈ w, c ∈ wsigns) → tk acc (w ++ r) = tk (acc ++ w) r
  | [], acc, r, _ => by simp
  | c :: w, acc, r, h => by
    obtain ⟨h1, h2, h3⟩ := ws_no (h c (by simp))
    show tk acc (c :: (w ++ r)) = _
    rw [tk, if_neg h1, if_neg (by omega), tk_word w (acc ++ [c]) r (fun d hd => h d (by simp [hd]))]
    simp
/-- the text ends here, or a sign comes that ends a word -/
def Sep (r : List Nat) : Prop := r = [] ∨ ∃ c r', r = c :: r' ∧ (c = 32 ∨ c = 40 ∨ c = 41)
theorem tk_end {w r : List Nat} (hw : w ≠ []) (h : Sep r) : tk w r = w :: tk [] r := by
  have f : fl w = [w] := by unfold fl; rw [if_neg hw]
  rcases h with rfl | ⟨c, r', rfl, h⟩
  · rw [tk, tk, f]; rfl
  · rw [tk, tk, f]
    by_cases h1 : c = 32
    · rw [if_pos h1, if_pos h1]; rfl
    · rw [if_neg h1, if_neg h1, if_pos (by omega), if_pos (by omega)]; rfl
theorem tk_wd {w r : List Nat} (hw : Wd w) (h : Sep r) : tk [] (w ++ r) = w :: tk [] r := by
  rw [tk_word w [] r hw.all, List.nil_append]
  obtain ⟨c, r', e, _⟩ := hw.hd
  exact tk_end (by rw [e]; simp) h
theorem tk_sp (acc r : List Nat) : tk acc (32 :: r) = fl acc ++ tk [] r := by rw [tk, if_pos rfl]
theorem tk_sp0 (r : List Nat) : tk [] (32 :: r) = tk [] r := by rw [tk_sp]; rfl
theorem tk_op (r : List Nat) : tk [] (40 :: r) = [40] :: tk [] r := by rw [tk, if_neg (by decide), if_pos (.inl rfl)]; rfl
theorem tk_cl (r : List Nat) : tk [] (41 :: r) = [41] :: tk [] r := by rw [tk, if_neg (by decide), if_pos (.inr rfl)]; rfl
theorem mk_wd {mk : List Nat} (h : mk ∈ marks) : Wd mk := wd_no mk (by unfold noNames; simp [h])
theorem tk_written : ∀ (s : Sy) (r : List Nat), s.good → Sep r → tk [] (s.written ++ r) = s.toks ++ tk [] r
  | .yes, r, _, h => tk_wd (wd_no _ (by decide)) h
  | .no, r, _, h => tk_wd (wd_no _ (by decide)) h
  | .unk w, r, g, h => tk_wd (Nm.wd g) h
  | .not s, r, g, h => by
    have e : tk [] (wNot ++ (32 :: (s.written ++ r))) = wNot :: tk [] (32 :: (s.written ++ r)) := tk_wd (wd_no _ (by decide)) (.inr ⟨_, _, rfl, .inl rfl⟩)
    show tk [] (wNot ++ (32 :: (s.written ++ r))) = wNot :: (s.toks ++ tk [] r)
    rw [e, tk_sp0, tk_written s r g h]
  | .bin mk a b, r, g, h => by
    obtain ⟨g1, g2, g3⟩ := g
    have e : (Sy.bin mk a b).written ++ r = 40 :: (a.written ++ (32 :: (mk ++ (32 :: (b.written ++ (41 :: r)))))) := by
      rw [Sy.written_bin]
      simp
    rw [e, tk_op, tk_written a _ g2 (.inr ⟨_, _, rfl, .inl rfl⟩), tk_sp0, tk_wd (mk_wd g1) (.inr ⟨_, _, rfl, .inl rfl⟩), tk_sp0, tk_written b _ g3 (.inr ⟨_, _, rfl, .inr (.inr rfl)⟩), tk_cl]
    rw [Sy.toks_bin]
    simp
theorem tk_text (s : Sy) (g : s.good) : tk [] s.written = s.toks := by
  have := tk_written s [] g (.inl rfl)
  rw [List.append_nil] at this
  rw [this]
  show s.toks ++ fl [] = _
  simp [fl]
/-! loosening -/
abbrev brk (c : Nat) : Prop := c = 40 ∨ c = 41
inductive Lo : Option Nat → List Nat → List Nat → Prop where
  | nil {p : Option Nat} : Lo p [] []
  | par {p : Option Nat} {c : Nat} {r o : List Nat} (i j : Nat) (hc : brk c) (h : Lo (some c) r o) : Lo p (c :: r) (List.replicate i 32 ++ c :: (List.replicate j 32 ++ o))
  | sp {p : Option Nat} {r o : List Nat} (k : Nat) (hk : 1 ≤ k ∨ (∀ c, p = some c → brk c) ∨ r = [] ∨ ∃ c r', r = c :: r' ∧ brk c) (h : Lo (some 32) r o) : Lo p (32 :: r) (List.replicate k 32 ++ o)
  | wd {p : Option Nat} {c : Nat} {r o : List Nat} (hc : c ≠ 32 ∧ ¬ brk c) (h : Lo (some c) r o) : Lo p (c :: r) (c :: o)
theorem tk_blanks : ∀ (n : Nat) (r : List Nat), tk [] (List.replicate n 32 ++ r) = tk [] r
  | 0, r => rfl
  | n + 1, r => by
    rw [List.replicate_succ, List.cons_append, tk_sp0, tk_blanks n r]
theorem tk_blanks1 (n : Nat) (acc r : List Nat) (h : 1 ≤ n) : tk acc (List.replicate n 32 ++ r) = fl acc ++ tk [] r := by
  obtain ⟨k, rfl⟩ : ∃ k, n = k + 1 := ⟨n - 1, by omega⟩
  rw [List.replicate_succ, List.cons_append, tk_sp, tk_blanks]
theorem tk_brk {c : Nat} (hc : brk c) (acc r : List Nat) : tk acc (c :: r) = fl acc ++ [c] :: tk [] r := by
  rw [tk, if_neg (by unfold brk at hc; omega), if_pos hc]
theorem tk_bb {c : Nat} (hc : brk c) (n : Nat) (acc r : List Nat) : tk acc (List.replicate n 32 ++ c :: r) = fl acc ++ [c] :: tk [] r := by
  cases n with
  | zero => exact tk_brk hc acc r
  | succ n => rw [tk_blanks1 _ _ _ (by omega), tk_brk hc]; rfl
theorem tk_lo : ∀ {p : Option Nat} {t o : List Nat}, Lo p t o → ∀ acc : List Nat, (acc ≠ [] → ∃ c, p = some c ∧ ¬ brk c) → tk acc o = tk acc t := by
  intro p t o h
  induction h with
  | nil => intro acc _; rfl
  | par i j hc h ih =>
    intro acc _
    rw [tk_bb hc, tk_blanks, ih [] (fun z => absurd rfl z), tk_brk hc]
  | wd hc h ih =>
    intro acc _
    obtain ⟨h1, h2⟩ := hc
    rw [tk, tk, if_neg h1, if_neg h1, if_neg h2, if_neg h2]
    exact ih _ fun _ => ⟨_, rfl, h2⟩
  | @sp p r o k hk h ih =>
    intro acc ha
    have ih0 := ih [] (fun z => absurd rfl z)
    rw [tk_sp]
    by_cases k1 : 1 ≤ k
    · rw [tk_blanks1 _ _ _ k1, ih0]
    · have k0 : k = 0 := by omega
      subst k0
      show tk acc o = _
      by_cases a0 : acc = []
      · subst a0
        rw [ih0]; rfl
      · rcases hk with hk | hk | hk | ⟨c, r', rfl, hc⟩
        · exact absurd hk k1
        · obtain ⟨c, e, nc⟩ := ha a0
          exact absurd (hk c e) nc
        · subst hk
          cases h
          rw [tk]
          show fl acc = fl acc ++ fl []
          simp [fl]
        · cases h with
          | par i j hc' h' =>
            rw [tk_bb hc, tk_blanks] at ih0 ⊢
            rw [tk_brk hc] at ih0 ⊢
            show fl acc ++ [c] :: tk [] _ = fl acc ++ (fl [] ++ [c] :: tk [] r')
            simp only [fl] at ih0 ⊢
            simp at ih0 ⊢
            exact ih0
          | sp k' _ _ => exact absurd hc (by unfold brk; omega)
          | wd hc' _ => exact absurd hc hc'.2
theorem tk_tail : ∀ (x acc : List Nat) (n : Nat), tk acc (x ++ List.replicate n 32) = tk acc x
  | [], acc, 0 => by simp
  | [], acc, n + 1 => by
    have := tk_blanks1 (n + 1) acc [] (by omega)
    rw [List.append_nil] at this
    rw [List.nil_append, this]
    show fl acc ++ fl [] = fl acc
    simp [fl]
  | c :: x, acc, n => by
    rw [List.cons_append, tk, tk, tk_tail x [] n, tk_tail x (acc ++ [c]) n]
theorem tk_loose {t o : List Nat} (h : Lo none t o) (i j : Nat) : tk [] (List.replicate i 32 ++ o ++ List.replicate j 32) = tk [] t := by
  rw [tk_tail, tk_blanks]
  exact tk_lo h [] fun z => absurd rfl z
/-! a text as it is taken to pieces -/
theorem tk_take : ∀ (r acc : List Nat), (∀ c ∈ r, c = 32 ∨ brk c ∨ c ∈ wsigns) → acc ++ r.takeWhile (fun c => wsigns.contains c) ≠ [] → tk acc r = (acc ++ r.takeWhile fun c => wsigns.contains c) :: tk [] (r.dropWhile fun c => wsigns.contains c)
  | [], acc, _, h => by
    simp only [List.takeWhile_nil, List.append_nil] at h ⊢
    exact tk_end h (.inl rfl)
  | c :: r, acc, hr, h => by
    by_cases hc : wsigns.contains c = true
    · obtain ⟨h1, h2, h3⟩ := ws_no (List.contains_iff_mem.mp hc)
      rw [List.takeWhile_cons, List.dropWhile_cons, if_pos hc, if_pos hc, tk, if_neg h1, if_neg (by omega), tk_take r (acc ++ [c]) (fun d hd => hr d (by simp [hd])) (by simp)]
      simp
    · rw [List.takeWhile_cons, List.dropWhile_cons, if_neg hc, if_neg hc] at *
      rw [List.append_nil] at h ⊢
      refine tk_end h (.inr ⟨c, r, rfl, ?_⟩)
      rcases hr c (by simp) with q | q | q
      · exact .inl q
      · exact .inr q
      · exact absurd (List.contains_iff_mem.mpr q) hc
end K65
set_option Elab.async false
set_option linter.all false
set_option maxRecDepth 100000
set_option autoImplicit false
namespace K65
open Mir
def wUnk : List Nat := [117, 110, 107, 110, 111, 119, 110]
def Sy.toD : Sy → D
  | .yes => .tup [.str wYes]
  | .no => .tup [.str wNo]
  | .unk w => .tup [.str wUnk, .str w]
  | .not s => .tup [.str wNot, s.toD]
  | .bin mk a b => .tup [.str mk, a.toD, b.toD]
/-- the heap behind so many draws -/
structure Ev (m : Nat) (h h' : MH) : Prop where
  le : h.length ≤ h'.length
  at_ : ∀ i, i < h.length → i ≠ m → h'[i]? = h[i]?
theorem Ev.refl (m : Nat) (h : MH) : Ev m h h := ⟨Nat.le_refl _, fun _ _ _ => rfl⟩
theorem Ev.trans {m : Nat} {a b c : MH} (x : Ev m a b) (y : Ev m b c) : Ev m a c :=
  ⟨Nat.le_trans x.le y.le, fun i hi hm => by rw [y.at_ i (Nat.lt_of_lt_of_le hi x.le) hm, x.at_ i hi hm]⟩
theorem Ev.push (m : Nat) (h : MH) (o : List MO) (hm : m < h.length) : Ev m h (h ++ o) := ⟨by simp, fun i hi _ => List.getElem?_append_left hi⟩
theorem Ev.get {m k : Nat} {h h' : MH} {o : MO} (x : Ev m h h') (e : h[k]? = some o) (hm : k ≠ m) : h'[k]? = some o := by
  rw [x.at_ k (List.getElem?_eq_some_iff.mp e).1 hm, e]
theorem S.lt {m c : Nat} {cs : List Int} {b : Nat} {h : MH} (s : S m c cs b h) : m < h.length ∧ c < h.length :=
  let ⟨_, _, _, e, _⟩ := s.ex
  ⟨(List.getElem?_eq_some_iff.mp e).1, (List.getElem?_eq_some_iff.mp s.cc).1⟩
theorem S.mono {m c : Nat} {cs : List Int} {b b' : Nat} {h : MH} (s : S m c cs b h) (hb : b ≤ b') : S m c cs b' h :=
  let ⟨l, s', t, e, h1, h2, h3, h4, h5⟩ := s.ex
  ⟨⟨l, s', t, e, h1, h2, h3, h4, by omega⟩, s.cc, s.ne, s.sm, s.mc⟩
theorem S.same {m c : Nat} {cs : List Int} {b : Nat} {h h' : MH} (s : S m c cs b h) (hm : h'[m]? = h[m]?) (hc : h'[c]? = h[c]?) : S m c cs b h' :=
  ⟨let ⟨l, s', t, e, r⟩ := s.ex; ⟨l, s', t, by rw [hm]; exact e, r⟩, by rw [hc]; exact s.cc, s.ne, s.sm, s.mc⟩
theorem S.push {m c : Nat} {cs : List Int} {b : Nat} {h : MH} (s : S m c cs b h) (o : List MO) : S m c cs b (h ++ o) :=
  s.same (List.getElem?_append_left s.lt.1) (List.getElem?_append_left s.lt.2)
/-- it comes to a value, and draws at most so often -/
def Go (m c : Nat) (cs : List Int) (h : MH) (b' : Nat) (r : R D) (P : D → Prop) : Prop := ∃ d h', r = .ok d h' ∧ P d ∧ S m c cs b' h' ∧ Ev m h h'
theorem go_fn {m c : Nat} {cs : List Int} {b b' : Nat} {h h' : MH} {P N : Nat} {bd : MS} {ds : List D} {d : D} {Q : D → Prop} (hs : S m c cs b h) (hl : ds.length = P) (hr : runB bd N ds h = .ok d h') (hd : notLoc d = true) (hp : Q d) (s' : S m c cs b' h') (v : Ev m h h') :
    Go m c cs h b' (fnM P N bd ds h) Q := by
  obtain ⟨h2, e, le, same⟩ := fnM_ev hl hr hd v.le
  exact ⟨d, h2, e, hp, s'.same (same _ hs.lt.1) (same _ hs.lt.2), ⟨le, fun i hi hm => by rw [same i hi, v.at_ i hi hm]⟩⟩
theorem log_small {b : Int} (h0 : 0 ≤ b) (h : b < 100000000000000000000000) : b.natAbs.log2 < 9000 := by
  by_cases z : b.natAbs = 0
  · rw [z]; decide
  · exact (Nat.log2_lt z).mpr (Nat.lt_of_lt_of_le (show b.natAbs < 2 ^ 100 by omega) (Nat.pow_le_pow_right (by decide) (by decide)))
theorem draw' (n : Nat) {m c : Nat} {cs : List Int} {b : Nat} {h : MH} {below : Int} (hs : S m c cs b h) (h0 : 0 < below) (h1 : below < 100000000000000000000000) (hb : b ≤ 1000000000) :
    ∃ (r : Int) (h' : MH), M (n + 1) ._law_draw [.loc m, .int below] h = .ok (.int r) h' ∧ 0 ≤ r ∧ r < below ∧ S m c cs (b + 1) h' ∧ Ev m h h' := by
  obtain ⟨r, h', a1, a2, a3, a4, a5, a6⟩ := draw n hs h0 (log_small (by omega) h1) hb
  exact ⟨r, h', a3, a1, a2, a4, by omega, fun i _ hi => a6 i hi⟩
/-- one of a list -/
theorem of_list (n : Nat) {m c k : Nat} {cs : List Int} {b : Nat} {h : MH} {xs : List D} (hs : S m c cs b h) (hk : h[k]? = some (.lst xs)) (hkm : k ≠ m) (hx : xs ≠ []) (hl : xs.length ≤ 1000) (hf : xs.all notLoc = true) (hb : b ≤ 1000000000) :
    Go m c cs h (b + 1) (M (n + 2) ._law_of [.loc m, .loc k] h) fun d => d ∈ xs := by
  have hp := List.length_pos_iff.mpr hx
  obtain ⟨r, h', e, r0, r1, s1, v1⟩ := draw' n (below := (xs.length : Int)) hs (by omega) (by omega) hb
  have hk' := v1.get hk hkm
  have hr : r.toNat < xs.length := by omega
  have ha : L2.atI xs r = some xs[r.toNat] := by
    rw [atI_nn r0]
    exact List.getElem?_eq_getElem hr
  rw [M__law_of]
  refine go_fn (d := xs[r.toNat]) hs rfl ?_ (List.all_eq_true.mp hf _ (List.getElem_mem _)) (List.getElem_mem _) s1 v1
  unfold b__law_of
  simp [fnM, runB, eLit, eVar, eBin, eUn, aNil, aCons, eApp, eTup, eLst, eIf, eAnd, eOr, eNot, eChain, tVal, Mir.tAnd, Mir.tOr, Mir.tNot, Mir.tYes, sCons, sNil, sExpr, sSet, sRet, sRetN, sIf, sPass, sBreak, sCont, sBind, sPar, sAug, Mir.sPut, Mir.sFld, Mir.sFldAug, mFld, pNil, pCons, sFor, iAny, mIter, iZip, bName, bTup, bsCons, bsNil, mAdd, mAddI, mSub, mMul, mDiv, mMod, mPow, mNeg, mLt, mLe, mGt, mGe, mEq, mNe, eqD, mIsN, mNotN, mIx, mIn, mNotIn, inD, fLen, fAbs, fMax2, fMin2, fInt, fStr, itemsD, isKey, boolsD, eSlice, oNone, oSome, mSl, eMth, eMeth, methK, eMake, eFmt, eJoin, jGo, mIsi, tyN, isT, hk, e, hk', ha]
/-- blanks -/
theorem blanks (n : Nat) {m c : Nat} {cs : List Int} {b : Nat} {h : MH} {most : Int} (hs : S m c cs b h) (h0 : 0 < most) (h1 : most ≤ 10) (hb : b + 2 ≤ 1000000000) :
    Go m c cs h (b + 2) (M (n + 2) ._law_blanks [.loc m, .int most] h) fun d => ∃ k : Nat, (k : Int) < most ∧ d = .str (List.replicate k 32) := by
  obtain ⟨r, h1', e, r0, r1, s1, v1⟩ := draw' n (below := 2) hs (by omega) (by omega) (by omega)
  rw [M__law_blanks]
  by_cases hr : r = 0
  · obtain ⟨q, h2, e2, q0, q1, s2, v2⟩ := draw' n (below := most) s1 h0 (by omega) (by omega)
    refine go_fn (d := .str (List.replicate q.toNat 32)) (h' := h2) hs rfl ?_ rfl ⟨_, by omega, rfl⟩ s2 (v1.trans v2)
    have c1 : q.toNat ≤ 100000 := by omega
    have c2 : q < 100000 := by omega
    have c3 : -100000 < q := by omega
    unfold b__law_blanks
    simp [fnM, runB, eLit, eVar, eBin, eUn, aNil, aCons, eApp, eTup, eLst, eIf, eAnd, eOr, eNot, eChain, tVal, Mir.tAnd, Mir.tOr, Mir.tNot, Mir.tYes, sCons, sNil, sExpr, sSet, sRet, sRetN, sIf, sPass, sBreak, sCont, sBind, sPar, sAug, Mir.sPut, Mir.sFld, Mir.sFldAug, mFld, pNil, pCons, sFor, iAny, mIter, iZip, bName, bTup, bsCons, bsNil, mAdd, mAddI, mSub, mMul, mDiv, mMod, mPow, mNeg, mLt, mLe, mGt, mGe, mEq, mNe, eqD, mIsN, mNotN, mIx, mIn, mNotIn, inD, fLen, fAbs, fMax2, fMin2, fInt, fStr, itemsD, isKey, boolsD, eSlice, oNone, oSome, mSl, eMth, eMeth, methK, eMake, eFmt, eJoin, jGo, mIsi, tyN, isT, e, hr, e2, c1, c2, c3]
  · refine go_fn (d := .str []) (h' := h1') hs rfl ?_ rfl ⟨0, h0, rfl⟩ (s1.mono (by omega)) v1
    unfold b__law_blanks
    simp [fnM, runB, eLit, eVar, eBin, eUn, aNil, aCons, eApp, eTup, eLst, eIf, eAnd, eOr, eNot, eChain, tVal, Mir.tAnd, Mir.tOr, Mir.tNot, Mir.tYes, sCons, sNil, sExpr, sSet, sRet, sRetN, sIf, sPass, sBreak, sCont, sBind, sPar, sAug, Mir.sPut, Mir.sFld, Mir.sFldAug, mFld, pNil, pCons, sFor, iAny, mIter, iZip, bName, bTup, bsCons, bsNil, mAdd, mAddI, mSub, mMul, mDiv, mMod, mPow, mNeg, mLt, mLe, mGt, mGe, mEq, mNe, eqD, mIsN, mNotN, mIx, mIn, mNotIn, inD, fLen, fAbs, fMax2, fMin2, fInt, fStr, itemsD, isKey, boolsD, eSlice, oNone, oSome, mSl, eMth, eMeth, methK, eMake, eFmt, eJoin, jGo, mIsi, tyN, isT, e, hr]
end K65
set_option Elab.async false
set_option linter.all false
set_option maxRecDepth 100000
set_option autoImplicit false
namespace K65
open Mir
structure SyIn (x y z w sz : Nat) (s : Sy) : Prop where
  good : s.good
  dep : s.dep ≤ 2 * sz + x
  bd : s.bd ≤ sz
  wc : s.wc ≤ 4 * sz + y
  len : s.written.length ≤ 25 * sz + z
abbrev SyOk (sz : Nat) (s : Sy) : Prop := SyIn 1 2 12 0 sz s
theorem mark_len {mk : List Nat} (h : mk ∈ marks) : mk.length ≤ 5 := by
  have e : (marks.all fun w => decide (w.length ≤ 5)) = true := by decide
  exact of_decide_eq_true (List.all_eq_true.mp e mk h)
theorem toD_loc (s : Sy) : notLoc s.toD = true := by cases s <;> rfl
def mk9 : List D := [.str [112, 108, 117, 115], .str [116, 105, 109, 101, 115], .str [108, 101, 97, 100, 115], .str [97, 110, 100], .str [111, 114], .str [115, 97, 109, 101], .str [112, 108, 117, 115], .str [116, 105, 109, 101, 115], .str [108, 101, 97, 100, 115]]
theorem mk9_in {d : D} (h : d ∈ mk9) : ∃ mk, d = .str mk ∧ mk ∈ marks := by
  simp only [mk9, List.mem_cons, List.not_mem_nil, or_false] at h
  rcases h with rfl | rfl | rfl | rfl | rfl | rfl | rfl | rfl | rfl <;> exact ⟨_, rfl, by decide⟩
/-- the last draw: not, or as it is -/
theorem saying : ∀ (sz n : Nat) {m c k : Nat} {cs : List Int} {b : Nat} {h : MH} {names : List (List Nat)}, sz ≤ 20 → S m c cs b h → h[k]? = some (.lst (names.map .str)) → k ≠ m → names ≠ [] → names.length ≤ 1000 → (∀ w ∈ names, Nm w) → b + (6 * sz + 3) ≤ 1000000000 →
    Go m c cs h (b + (6 * sz + 3)) (M (n + sz + 3) ._law_saying [.loc m, .loc k, .int sz] h) fun d => ∃ s : Sy, d = s.toD ∧ SyOk sz s := by
  intro sz
  induction sz using Nat.strongRecOn with
  | _ sz ih =>
  intro n m c k cs b h names hsz hs hk hkm hne hl hnm hb
  have hm9 : ∀ (hh : MH), (hh ++ [MO.lst mk9])[hh.length]? = some (MO.lst mk9) := fun hh => by simp
  rw [show n + sz + 3 = (n + sz + 2) + 1 from rfl, M__law_saying]
  have fin : ∀ (s : Sy) (h2 : MH) (b2 : Nat), SyIn 0 1 8 0 sz s → S m c cs b2 h2 → Ev m h h2 → b2 + 1 ≤ b + (6 * sz + 3) →
      (∀ (q : Int) (h3 : MH), M (n + sz + 2) ._law_draw [.loc m, .int 5] h2 = .ok (.int q) h3 → runB (b__law_saying (M (n + sz + 2))) 8 [.loc m, .loc k, .int sz] h = .ok (if q = 0 then (Sy.not s).toD else s.toD) h3) →
      Go m c cs h (b + (6 * sz + 3)) (fnM 3 8 (b__law_saying (M (n + sz + 2))) [.loc m, .loc k, .int sz] h) fun d => ∃ s : Sy, d = s.toD ∧ SyOk sz s := by
    intro s h2 b2 hi s2 v2 hb2 hrun
    obtain ⟨q, h3, e3, q0, q1, s3, v3⟩ := draw' (n + sz + 1) (below := 5) s2 (by omega) (by omega) (by omega)
    have hr := hrun q h3 e3
    obtain ⟨g1, g2, g3, g4, g5⟩ := hi
    by_cases hq : q = 0
    · rw [if_pos hq] at hr
      refine go_fn hs rfl hr (toD_loc _) ⟨.not s, rfl, g1, ?_, g3, ?_, ?_⟩ (s3.mono hb2) (v2.trans v3)
      · show s.dep + 1 ≤ _; omega
      · show s.wc + 1 ≤ _; omega
      · show ([110, 111, 116, 32] ++ s.written).length ≤ _
        rw [List.length_append]
        show 4 + _ ≤ _
        omega
    · rw [if_neg hq] at hr
      exact go_fn hs rfl hr (toD_loc _) ⟨s, rfl, g1, by omega, g3, by omega, by omega⟩ (s3.mono hb2) (v2.trans v3)
  by_cases hz : sz = 0
  · subst hz
    obtain ⟨r, h1, e1, r0, r1, s1, v1⟩ := draw' (n + 0 + 1) (below := 9) hs (by omega) (by omega) (by omega)
    have k1 := v1.get hk hkm
    by_cases r0' : r = 0
    · refine fin .yes h1 (b + 1) ⟨trivial, by decide, by decide, by decide, by decide⟩ s1 v1 (by omega) fun q h3 e3 => ?_
      unfold b__law_saying
      by_cases hq : q = 0 <;> simp [fnM, runB, eLit, eVar, eBin, eUn, aNil, aCons, eApp, eTup, eLst, eIf, eAnd, eOr, eNot, eChain, tVal, Mir.tAnd, Mir.tOr, Mir.tNot, Mir.tYes, sCons, sNil, sExpr, sSet, sRet, sRetN, sIf, sPass, sBreak, sCont, sBind, sPar, sAug, Mir.sPut, Mir.sFld, Mir.sFldAug, mFld, pNil, pCons, sFor, iAny, mIter, iZip, bName, bTup, bsCons, bsNil, mAdd, mAddI, mSub, mMul, mDiv, mMod, mPow, mNeg, mLt, mLe, mGt, mGe, mEq, mNe, eqD, mIsN, mNotN, mIx, mIn, mNotIn, inD, fLen, fAbs, fMax2, fMin2, fInt, fStr, itemsD, isKey, boolsD, eSlice, oNone, oSome, mSl, eMth, eMeth, methK, eMake, eFmt, eJoin, jGo, mIsi, tyN, isT, e1, e3, r0', hq, Sy.toD, wYes, wNot]
    · by_cases r1' : r = 1
      · refine fin .no h1 (b + 1) ⟨trivial, by decide, by decide, by decide, by decide⟩ s1 v1 (by omega) fun q h3 e3 => ?_
        unfold b__law_saying
        by_cases hq : q = 0 <;> simp [fnM, runB, eLit, eVar, eBin, eUn, aNil, aCons, eApp, eTup, eLst, eIf, eAnd, eOr, eNot, eChain, tVal, Mir.tAnd, Mir.tOr, Mir.tNot, Mir.tYes, sCons, sNil, sExpr, sSet, sRet, sRetN, sIf, sPass, sBreak, sCont, sBind, sPar, sAug, Mir.sPut, Mir.sFld, Mir.sFldAug, mFld, pNil, pCons, sFor, iAny, mIter, iZip, bName, bTup, bsCons, bsNil, mAdd, mAddI, mSub, mMul, mDiv, mMod, mPow, mNeg, mLt, mLe, mGt, mGe, mEq, mNe, eqD, mIsN, mNotN, mIx, mIn, mNotIn, inD, fLen, fAbs, fMax2, fMin2, fInt, fStr, itemsD, isKey, boolsD, eSlice, oNone, oSome, mSl, eMth, eMeth, methK, eMake, eFmt, eJoin, jGo, mIsi, tyN, isT, e1, e3, r1', hq, Sy.toD, wNo, wNot]
      · obtain ⟨d, h2, e2, p2, s2, v2⟩ := of_list (n + 0) s1 k1 hkm (by simpa using hne) (by simpa using hl) (by simp [notLoc]) (by omega)
        obtain ⟨w, hw, rfl⟩ := List.mem_map.mp p2
        refine fin (.unk w) h2 (b + 2) ⟨hnm w hw, by simp [Sy.dep], by simp [Sy.bd], by simp [Sy.wc], (hnm w hw).le⟩ s2 (v1.trans v2) (by omega) fun q h3 e3 => ?_
        unfold b__law_saying
        by_cases hq : q = 0 <;> simp [fnM, runB, eLit, eVar, eBin, eUn, aNil, aCons, eApp, eTup, eLst, eIf, eAnd, eOr, eNot, eChain, tVal, Mir.tAnd, Mir.tOr, Mir.tNot, Mir.tYes, sCons, sNil, sExpr, sSet, sRet, sRetN, sIf, sPass, sBreak, sCont, sBind, sPar, sAug, Mir.sPut, Mir.sFld, Mir.sFldAug, mFld, pNil, pCons, sFor, iAny, mIter, iZip, bName, bTup, bsCons, bsNil, mAdd, mAddI, mSub, mMul, mDiv, mMod, mPow, mNeg, mLt, mLe, mGt, mGe, mEq, mNe, eqD, mIsN, mNotN, mIx, mIn, mNotIn, inD, fLen, fAbs, fMax2, fMin2, fInt, fStr, itemsD, isKey, boolsD, eSlice, oNone, oSome, mSl, eMth, eMeth, methK, eMake, eFmt, eJoin, jGo, mIsi, tyN, isT, e1, e2, e3, r0', r1', hq, Sy.toD, wUnk, wNot]
  · obtain ⟨r, h1, e1, r0, r1, s1, v1⟩ := draw' (n + sz + 1) (below := (sz : Int)) hs (by omega) (by omega) (by omega)
    obtain ⟨l, rfl⟩ : ∃ l : Nat, r = (l : Int) := ⟨r.toNat, by omega⟩
    have hlz : l < sz := by omega
    have k1 := v1.get hk hkm
    have m1 : m < h1.length := s1.lt.1
    have v1' : Ev m h (h1 ++ [MO.lst mk9]) := v1.trans (Ev.push m h1 _ m1)
    obtain ⟨d, h2, e2, p2, s2, v2⟩ := of_list (n + sz) (s1.push [MO.lst mk9]) (hm9 h1) (by omega) (by simp [mk9]) (by simp [mk9]) (by simp [mk9, notLoc]) (by omega)
    obtain ⟨mk, rfl, hmk⟩ := mk9_in p2
    have k2 := v2.get ((Ev.push m h1 [MO.lst mk9] m1).get k1 hkm) hkm
    obtain ⟨d3, h3, e3, ⟨a, rfl, ga⟩, s3, v3⟩ := ih l hlz (n + (sz - 1 - l)) (by omega) s2 k2 hkm hne hl hnm (by omega)
    have k3 := v3.get k2 hkm
    obtain ⟨d4, h4, e4, ⟨bb, rfl, gb⟩, s4, v4⟩ := ih (sz - 1 - l) (by omega) (n + l) (by omega) s3 k3 hkm hne hl hnm (by omega)
    rw [show n + (sz - 1 - l) + l + 3 = n + sz + 2 by omega] at e3
    rw [show n + l + (sz - 1 - l) + 3 = n + sz + 2 by omega, show ((sz - 1 - l : Nat) : Int) = (sz : Int) - 1 - (l : Int) by omega] at e4
    obtain ⟨a1, a2, a3, a4, a5⟩ := ga
    obtain ⟨b1, b2, b3, b4, b5⟩ := gb
    have hml := mark_len hmk
    refine fin (.bin mk a bb) h4 (b + 1 + 1 + (6 * l + 3) + (6 * (sz - 1 - l) + 3)) ⟨⟨hmk, a1, b1⟩, ?_, ?_, ?_, ?_⟩ s4 (((v1'.trans v2).trans v3).trans v4) (by omega) fun q h5 e5 => ?_
    · show max a.dep bb.dep + 1 ≤ _; omega
    · show max a.bd bb.bd + 1 ≤ _; omega
    · show a.wc + bb.wc + 1 ≤ _; omega
    · rw [Sy.written_bin]
      simp only [List.length_append, List.length_cons, List.length_nil]
      omega
    · unfold b__law_saying
      have hz' : ¬ (sz : Int) = 0 := by omega
      unfold mk9 at e2
      by_cases hq : q = 0 <;> simp [fnM, runB, eLit, eVar, eBin, eUn, aNil, aCons, eApp, eTup, eLst, eIf, eAnd, eOr, eNot, eChain, tVal, Mir.tAnd, Mir.tOr, Mir.tNot, Mir.tYes, sCons, sNil, sExpr, sSet, sRet, sRetN, sIf, sPass, sBreak, sCont, sBind, sPar, sAug, Mir.sPut, Mir.sFld, Mir.sFldAug, mFld, pNil, pCons, sFor, iAny, mIter, iZip, bName, bTup, bsCons, bsNil, mAdd, mAddI, mSub, mMul, mDiv, mMod, mPow, mNeg, mLt, mLe, mGt, mGe, mEq, mNe, eqD, mIsN, mNotN, mIx, mIn, mNotIn, inD, fLen, fAbs, fMax2, fMin2, fInt, fStr, itemsD, isKey, boolsD, eSlice, oNone, oSome, mSl, eMth, eMeth, methK, eMake, eFmt, eJoin, jGo, mIsi, tyN, isT, e1, e2, e3, e4, e5, hz, hz', hq, Sy.toD, wNot]
end K65
set_option Elab.async false
set_option linter.all false
set_option maxRecDepth 100000
set_option autoImplicit false
namespace K65
open Mir
theorem mark_ne {mk : List Nat} (h : mk ∈ marks) : mk ≠ wUnk ∧ mk ≠ wYes ∧ mk ≠ wNo ∧ mk ≠ wNot ∧ mk ≠ [] := by
  have e : (marks.all fun mk => decide (mk ≠ wUnk ∧ mk ≠ wYes ∧ mk ≠ wNo ∧ mk ≠ wNot ∧ mk ≠ [])) = true := by decide
  exact of_decide_eq_true (List.all_eq_true.mp e mk h)
theorem written_not (s : Sy) : (Sy.not s).written = 110 :: 111 :: 116 :: 32 :: s.written := rfl
theorem written_ok : ∀ (s : Sy) (n : Nat) (h : MH), s.good → s.written.length ≤ 50000 → M (n + s.dep + 1) ._law_written [s.toD] h = .ok (.str s.written) h
  | .yes, n, h, _, _ => by
    rw [M__law_written]
    refine fnM_of rfl ?_ rfl rfl
    unfold b__law_written
    simp [fnM, runB, eLit, eVar, eBin, eUn, aNil, aCons, eApp, eTup, eLst, eIf, eAnd, eOr, eNot, eChain, tVal, Mir.tAnd, Mir.tOr, Mir.tNot, Mir.tYes, sCons, sNil, sExpr, sSet, sRet, sRetN, sIf, sPass, sBreak, sCont, sBind, sPar, sAug, Mir.sPut, Mir.sFld, Mir.sFldAug, mFld, pNil, pCons, sFor, iAny, mIter, iZip, bName, bTup, bsCons, bsNil, mAdd, mAddI, mSub, mMul, mDiv, mMod, mPow, mNeg, mLt, mLe, mGt, mGe, mEq, mNe, eqD, mIsN, mNotN, mIx, mIn, mNotIn, inD, fLen, fAbs, fMax2, fMin2, fInt, fStr, itemsD, isKey, boolsD, eSlice, oNone, oSome, mSl, eMth, eMeth, methK, eMake, eFmt, eJoin, jGo, mIsi, tyN, isT, Sy.toD, Sy.written, wYes, atI_0, inP, flatD, eqF]
  | .no, n, h, _, _ => by
    rw [M__law_written]
    refine fnM_of rfl ?_ rfl rfl
    unfold b__law_written
    simp [fnM, runB, eLit, eVar, eBin, eUn, aNil, aCons, eApp, eTup, eLst, eIf, eAnd, eOr, eNot, eChain, tVal, Mir.tAnd, Mir.tOr, Mir.tNot, Mir.tYes, sCons, sNil, sExpr, sSet, sRet, sRetN, sIf, sPass, sBreak, sCont, sBind, sPar, sAug, Mir.sPut, Mir.sFld, Mir.sFldAug, mFld, pNil, pCons, sFor, iAny, mIter, iZip, bName, bTup, bsCons, bsNil, mAdd, mAddI, mSub, mMul, mDiv, mMod, mPow, mNeg, mLt, mLe, mGt, mGe, mEq, mNe, eqD, mIsN, mNotN, mIx, mIn, mNotIn, inD, fLen, fAbs, fMax2, fMin2, fInt, fStr, itemsD, isKey, boolsD, eSlice, oNone, oSome, mSl, eMth, eMeth, methK, eMake, eFmt, eJoin, jGo, mIsi, tyN, isT, Sy.toD, Sy.written, wNo, atI_0, inP, flatD, eqF]
  | .unk w, n, h, _, _ => by
    rw [M__law_written]
    refine fnM_of rfl ?_ rfl rfl
    unfold b__law_written
    simp [fnM, runB, eLit, eVar, eBin, eUn, aNil, aCons, eApp, eTup, eLst, eIf, eAnd, eOr, eNot, eChain, tVal, Mir.tAnd, Mir.tOr, Mir.tNot, Mir.tYes, sCons, sNil, sExpr, sSet, sRet, sRetN, sIf, sPass, sBreak, sCont, sBind, sPar, sAug, Mir.sPut, Mir.sFld, Mir.sFldAug, mFld, pNil, pCons, sFor, iAny, mIter, iZip, bName, bTup, bsCons, bsNil, mAdd, mAddI, mSub, mMul, mDiv, mMod, mPow, mNeg, mLt, mLe, mGt, mGe, mEq, mNe, eqD, mIsN, mNotN, mIx, mIn, mNotIn, inD, fLen, fAbs, fMax2, fMin2, fInt, fStr, itemsD, isKey, boolsD, eSlice, oNone, oSome, mSl, eMth, eMeth, methK, eMake, eFmt, eJoin, jGo, mIsi, tyN, isT, Sy.toD, Sy.written, wUnk, atI_0, atI_1, inP, flatD, eqF]
  | .not s, n, h, g, hl => by
    have hl' : s.written.length + 4 ≤ 50000 := by rw [written_not] at hl; simpa using hl
    have e := written_ok s n h g (by omega)
    have hd : (Sy.not s).dep = s.dep + 1 := rfl
    have l1 : 4 + s.written.length ≤ 100000 := by omega
    rw [hd, show n + (s.dep + 1) + 1 = n + s.dep + 1 + 1 from rfl, M__law_written]
    refine fnM_of rfl ?_ rfl rfl
    unfold b__law_written
    ((try simp [fnM, runB, eLit, eVar, eBin, eUn, aNil, aCons, eApp, eTup, eLst, eIf, eAnd, eOr, eNot, eChain, tVal, Mir.tAnd, Mir.tOr, Mir.tNot, Mir.tYes, sCons, sNil, sExpr, sSet, sRet, sRetN, sIf, sPass, sBreak, sCont, sBind, sPar, sAug, Mir.sPut, Mir.sFld, Mir.sFldAug, mFld, pNil, pCons, sFor, iAny, mIter, iZip, bName, bTup, bsCons, bsNil, mAdd, mAddI, mSub, mMul, mDiv, mMod, mPow, mNeg, mLt, mLe, mGt, mGe, mEq, mNe, eqD, mIsN, mNotN, mIx, mIn, mNotIn, inD, fLen, fAbs, fMax2, fMin2, fInt, fStr, itemsD, isKey, boolsD, eSlice, oNone, oSome, mSl, eMth, eMeth, methK, eMake, eFmt, eJoin, jGo, mIsi, tyN, isT, Sy.toD, written_not, wNot, atI_0, atI_1, inP, flatD, eqF, e]); repeat (rw [if_pos (by (try simp only [List.length_append, List.length_cons, List.length_nil, List.length_replicate]); omega)]; try simp [fnM, runB, eLit, eVar, eBin, eUn, aNil, aCons, eApp, eTup, eLst, eIf, eAnd, eOr, eNot, eChain, tVal, Mir.tAnd, Mir.tOr, Mir.tNot, Mir.tYes, sCons, sNil, sExpr, sSet, sRet, sRetN, sIf, sPass, sBreak, sCont, sBind, sPar, sAug, Mir.sPut, Mir.sFld, Mir.sFldAug, mFld, pNil, pCons, sFor, iAny, mIter, iZip, bName, bTup, bsCons, bsNil, mAdd, mAddI, mSub, mMul, mDiv, mMod, mPow, mNeg, mLt, mLe, mGt, mGe, mEq, mNe, eqD, mIsN, mNotN, mIx, mIn, mNotIn, inD, fLen, fAbs, fMax2, fMin2, fInt, fStr, itemsD, isKey, boolsD, eSlice, oNone, oSome, mSl, eMth, eMeth, methK, eMake, eFmt, eJoin, jGo, mIsi, tyN, isT, Sy.toD, written_not, wNot, atI_0, atI_1, inP, flatD, eqF, e]))
  | .bin mk a b, n, h, g, hl => by
    obtain ⟨g1, g2, g3⟩ := g
    obtain ⟨n1, n2, n3, n4, _⟩ := mark_ne g1
    have hl' : a.written.length + mk.length + b.written.length + 4 ≤ 50000 := by
      rw [Sy.written_bin] at hl
      simp only [List.length_append, List.length_cons, List.length_nil] at hl
      omega
    have e1 := written_ok a (n + (max a.dep b.dep - a.dep)) h g2 (by omega)
    have e2 := written_ok b (n + (max a.dep b.dep - b.dep)) h g3 (by omega)
    rw [show n + (max a.dep b.dep - a.dep) + a.dep + 1 = n + max a.dep b.dep + 1 by omega] at e1
    rw [show n + (max a.dep b.dep - b.dep) + b.dep + 1 = n + max a.dep b.dep + 1 by omega] at e2
    have hd : (Sy.bin mk a b).dep = max a.dep b.dep + 1 := rfl
    rw [hd, show n + (max a.dep b.dep + 1) + 1 = n + max a.dep b.dep + 1 + 1 from rfl, M__law_written]
    simp only [wUnk, wYes, wNo, wNot] at n1 n2 n3 n4
    refine fnM_of rfl ?_ rfl rfl
    unfold b__law_written
    ((try simp [fnM, runB, eLit, eVar, eBin, eUn, aNil, aCons, eApp, eTup, eLst, eIf, eAnd, eOr, eNot, eChain, tVal, Mir.tAnd, Mir.tOr, Mir.tNot, Mir.tYes, sCons, sNil, sExpr, sSet, sRet, sRetN, sIf, sPass, sBreak, sCont, sBind, sPar, sAug, Mir.sPut, Mir.sFld, Mir.sFldAug, mFld, pNil, pCons, sFor, iAny, mIter, iZip, bName, bTup, bsCons, bsNil, mAdd, mAddI, mSub, mMul, mDiv, mMod, mPow, mNeg, mLt, mLe, mGt, mGe, mEq, mNe, eqD, mIsN, mNotN, mIx, mIn, mNotIn, inD, fLen, fAbs, fMax2, fMin2, fInt, fStr, itemsD, isKey, boolsD, eSlice, oNone, oSome, mSl, eMth, eMeth, methK, eMake, eFmt, eJoin, jGo, mIsi, tyN, isT, Sy.toD, Sy.written_bin, atI_0, atI_1, atI_2, inP, flatD, eqF, e1, e2, n1, n2, n3, n4, n2.symm, n3.symm]); repeat (rw [if_pos (by (try simp only [List.length_append, List.length_cons, List.length_nil, List.length_replicate]); omega)]; try simp [fnM, runB, eLit, eVar, eBin, eUn, aNil, aCons, eApp, eTup, eLst, eIf, eAnd, eOr, eNot, eChain, tVal, Mir.tAnd, Mir.tOr, Mir.tNot, Mir.tYes, sCons, sNil, sExpr, sSet, sRet, sRetN, sIf, sPass, sBreak, sCont, sBind, sPar, sAug, Mir.sPut, Mir.sFld, Mir.sFldAug, mFld, pNil, pCons, sFor, iAny, mIter, iZip, bName, bTup, bsCons, bsNil, mAdd, mAddI, mSub, mMul, mDiv, mMod, mPow, mNeg, mLt, mLe, mGt, mGe, mEq, mNe, eqD, mIsN, mNotN, mIx, mIn, mNotIn, inD, fLen, fAbs, fMax2, fMin2, fInt, fStr, itemsD, isKey, boolsD, eSlice, oNone, oSome, mSl, eMth, eMeth, methK, eMake, eFmt, eJoin, jGo, mIsi, tyN, isT, Sy.toD, Sy.written_bin, atI_0, atI_1, atI_2, inP, flatD, eqF, e1, e2, n1, n2, n3, n4, n2.symm, n3.symm]))
theorem saying_text_ok : ∀ (s : Sy) (n : Nat) (h : MH), s.good → s.written.length ≤ 50000 → M (n + s.dep + 1) .saying_text [s.toD] h = .ok (.str s.written) h
  | .yes, n, h, _, _ => by
    rw [M_saying_text]
    refine fnM_of rfl ?_ rfl rfl
    unfold b_saying_text
    simp [fnM, runB, eLit, eVar, eBin, eUn, aNil, aCons, eApp, eTup, eLst, eIf, eAnd, eOr, eNot, eChain, tVal, Mir.tAnd, Mir.tOr, Mir.tNot, Mir.tYes, sCons, sNil, sExpr, sSet, sRet, sRetN, sIf, sPass, sBreak, sCont, sBind, sPar, sAug, Mir.sPut, Mir.sFld, Mir.sFldAug, mFld, pNil, pCons, sFor, iAny, mIter, iZip, bName, bTup, bsCons, bsNil, mAdd, mAddI, mSub, mMul, mDiv, mMod, mPow, mNeg, mLt, mLe, mGt, mGe, mEq, mNe, eqD, mIsN, mNotN, mIx, mIn, mNotIn, inD, fLen, fAbs, fMax2, fMin2, fInt, fStr, itemsD, isKey, boolsD, eSlice, oNone, oSome, mSl, eMth, eMeth, methK, eMake, eFmt, eJoin, jGo, mIsi, tyN, isT, Sy.toD, Sy.written, wYes, atI_0]
  | .no, n, h, _, _ => by
    rw [M_saying_text]
    refine fnM_of rfl ?_ rfl rfl
    unfold b_saying_text
    simp [fnM, runB, eLit, eVar, eBin, eUn, aNil, aCons, eApp, eTup, eLst, eIf, eAnd, eOr, eNot, eChain, tVal, Mir.tAnd, Mir.tOr, Mir.tNot, Mir.tYes, sCons, sNil, sExpr, sSet, sRet, sRetN, sIf, sPass, sBreak, sCont, sBind, sPar, sAug, Mir.sPut, Mir.sFld, Mir.sFldAug, mFld, pNil, pCons, sFor, iAny, mIter, iZip, bName, bTup, bsCons, bsNil, mAdd, mAddI, mSub, mMul, mDiv, mMod, mPow, mNeg, mLt, mLe, mGt, mGe, mEq, mNe, eqD, mIsN, mNotN, mIx, mIn, mNotIn, inD, fLen, fAbs, fMax2, fMin2, fInt, fStr, itemsD, isKey, boolsD, eSlice, oNone, oSome, mSl, eMth, eMeth, methK, eMake, eFmt, eJoin, jGo, mIsi, tyN, isT, Sy.toD, Sy.written, wNo, atI_0]
  | .unk w, n, h, _, _ => by
    rw [M_saying_text]
    refine fnM_of rfl ?_ rfl rfl
    unfold b_saying_text
    simp [fnM, runB, eLit, eVar, eBin, eUn, aNil, aCons, eApp, eTup, eLst, eIf, eAnd, eOr, eNot, eChain, tVal, Mir.tAnd, Mir.tOr, Mir.tNot, Mir.tYes, sCons, sNil, sExpr, sSet, sRet, sRetN, sIf, sPass, sBreak, sCont, sBind, sPar, sAug, Mir.sPut, Mir.sFld, Mir.sFldAug, mFld, pNil, pCons, sFor, iAny, mIter, iZip, bName, bTup, bsCons, bsNil, mAdd, mAddI, mSub, mMul, mDiv, mMod, mPow, mNeg, mLt, mLe, mGt, mGe, mEq, mNe, eqD, mIsN, mNotN, mIx, mIn, mNotIn, inD, fLen, fAbs, fMax2, fMin2, fInt, fStr, itemsD, isKey, boolsD, eSlice, oNone, oSome, mSl, eMth, eMeth, methK, eMake, eFmt, eJoin, jGo, mIsi, tyN, isT, Sy.toD, Sy.written, wUnk, atI_0, atI_1]
  | .not s, n, h, g, hl => by
    have hl' : s.written.length + 4 ≤ 50000 := by rw [written_not] at hl; simpa using hl
    have e := saying_text_ok s n h g (by omega)
    have hd : (Sy.not s).dep = s.dep + 1 := rfl
    rw [hd, show n + (s.dep + 1) + 1 = n + s.dep + 1 + 1 from rfl, M_saying_text]
    refine fnM_of rfl ?_ rfl rfl
    unfold b_saying_text
    ((try simp [fnM, runB, eLit, eVar, eBin, eUn, aNil, aCons, eApp, eTup, eLst, eIf, eAnd, eOr, eNot, eChain, tVal, Mir.tAnd, Mir.tOr, Mir.tNot, Mir.tYes, sCons, sNil, sExpr, sSet, sRet, sRetN, sIf, sPass, sBreak, sCont, sBind, sPar, sAug, Mir.sPut, Mir.sFld, Mir.sFldAug, mFld, pNil, pCons, sFor, iAny, mIter, iZip, bName, bTup, bsCons, bsNil, mAdd, mAddI, mSub, mMul, mDiv, mMod, mPow, mNeg, mLt, mLe, mGt, mGe, mEq, mNe, eqD, mIsN, mNotN, mIx, mIn, mNotIn, inD, fLen, fAbs, fMax2, fMin2, fInt, fStr, itemsD, isKey, boolsD, eSlice, oNone, oSome, mSl, eMth, eMeth, methK, eMake, eFmt, eJoin, jGo, mIsi, tyN, isT, Sy.toD, written_not, wNot, atI_0, atI_1, e]); repeat (rw [if_pos (by (try simp only [List.length_append, List.length_cons, List.length_nil, List.length_replicate]); omega)]; try simp [fnM, runB, eLit, eVar, eBin, eUn, aNil, aCons, eApp, eTup, eLst, eIf, eAnd, eOr, eNot, eChain, tVal, Mir.tAnd, Mir.tOr, Mir.tNot, Mir.tYes, sCons, sNil, sExpr, sSet, sRet, sRetN, sIf, sPass, sBreak, sCont, sBind, sPar, sAug, Mir.sPut, Mir.sFld, Mir.sFldAug, mFld, pNil, pCons, sFor, iAny, mIter, iZip, bName, bTup, bsCons, bsNil, mAdd, mAddI, mSub, mMul, mDiv, mMod, mPow, mNeg, mLt, mLe, mGt, mGe, mEq, mNe, eqD, mIsN, mNotN, mIx, mIn, mNotIn, inD, fLen, fAbs, fMax2, fMin2, fInt, fStr, itemsD, isKey, boolsD, eSlice, oNone, oSome, mSl, eMth, eMeth, methK, eMake, eFmt, eJoin, jGo, mIsi, tyN, isT, Sy.toD, written_not, wNot, atI_0, atI_1, e]))
  | .bin mk a b, n, h, g, hl => by
    obtain ⟨g1, g2, g3⟩ := g
    obtain ⟨n1, n2, n3, n4, _⟩ := mark_ne g1
    have hl' : a.written.length + mk.length + b.written.length + 4 ≤ 50000 := by
      rw [Sy.written_bin] at hl
      simp only [List.length_append, List.length_cons, List.length_nil] at hl
      omega
    have e1 := saying_text_ok a (n + (max a.dep b.dep - a.dep)) h g2 (by omega)
    have e2 := saying_text_ok b (n + (max a.dep b.dep - b.dep)) h g3 (by omega)
    rw [show n + (max a.dep b.dep - a.dep) + a.dep + 1 = n + max a.dep b.dep + 1 by omega] at e1
    rw [show n + (max a.dep b.dep - b.dep) + b.dep + 1 = n + max a.dep b.dep + 1 by omega] at e2
    have hd : (Sy.bin mk a b).dep = max a.dep b.dep + 1 := rfl
    rw [hd, show n + (max a.dep b.dep + 1) + 1 = n + max a.dep b.dep + 1 + 1 from rfl, M_saying_text]
    simp only [wUnk, wYes, wNo, wNot] at n1 n2 n3 n4
    refine fnM_of rfl ?_ rfl rfl
    unfold b_saying_text
    ((try simp [fnM, runB, eLit, eVar, eBin, eUn, aNil, aCons, eApp, eTup, eLst, eIf, eAnd, eOr, eNot, eChain, tVal, Mir.tAnd, Mir.tOr, Mir.tNot, Mir.tYes, sCons, sNil, sExpr, sSet, sRet, sRetN, sIf, sPass, sBreak, sCont, sBind, sPar, sAug, Mir.sPut, Mir.sFld, Mir.sFldAug, mFld, pNil, pCons, sFor, iAny, mIter, iZip, bName, bTup, bsCons, bsNil, mAdd, mAddI, mSub, mMul, mDiv, mMod, mPow, mNeg, mLt, mLe, mGt, mGe, mEq, mNe, eqD, mIsN, mNotN, mIx, mIn, mNotIn, inD, fLen, fAbs, fMax2, fMin2, fInt, fStr, itemsD, isKey, boolsD, eSlice, oNone, oSome, mSl, eMth, eMeth, methK, eMake, eFmt, eJoin, jGo, mIsi, tyN, isT, Sy.toD, Sy.written_bin, atI_0, atI_1, atI_2, e1, e2, n1, n2, n3, n4]); repeat (rw [if_pos (by (try simp only [List.length_append, List.length_cons, List.length_nil, List.length_replicate]); omega)]; try simp [fnM, runB, eLit, eVar, eBin, eUn, aNil, aCons, eApp, eTup, eLst, eIf, eAnd, eOr, eNot, eChain, tVal, Mir.tAnd, Mir.tOr, Mir.tNot, Mir.tYes, sCons, sNil, sExpr, sSet, sRet, sRetN, sIf, sPass, sBreak, sCont, sBind, sPar, sAug, Mir.sPut, Mir.sFld, Mir.sFldAug, mFld, pNil, pCons, sFor, iAny, mIter, iZip, bName, bTup, bsCons, bsNil, mAdd, mAddI, mSub, mMul, mDiv, mMod, mPow, mNeg, mLt, mLe, mGt, mGe, mEq, mNe, eqD, mIsN, mNotN, mIx, mIn, mNotIn, inD, fLen, fAbs, fMax2, fMin2, fInt, fStr, itemsD, isKey, boolsD, eSlice, oNone, oSome, mSl, eMth, eMeth, methK, eMake, eFmt, eJoin, jGo, mIsi, tyN, isT, Sy.toD, Sy.written_bin, atI_0, atI_1, atI_2, e1, e2, n1, n2, n3, n4]))
end K65
set_option Elab.async false
set_option linter.all false
set_option maxRecDepth 100000
set_option autoImplicit false
namespace K65
open Mir PySem
def Sy.py : Sy → PyData
  | .yes => .tuple [.str (tx wYes)]
  | .no => .tuple [.str (tx wNo)]
  | .unk w => .tuple [.str (tx wUnk), .str (tx w)]
  | .not s => .tuple [.str (tx wNot), s.py]
  | .bin mk a b => .tuple [.str (tx mk), a.py, b.py]
theorem toPy_str (n : Nat) (h : MH) (s : List Nat) : toPy n h (.str s) = some (.str (tx s)) := by cases n <;> rfl
theorem toPy_sy : ∀ (s : Sy) (n : Nat) (h : MH), toPy (n + s.dep + 1) h s.toD = some s.py
  | .yes, n, h => by simp [Sy.toD, Sy.py, toPy, toPy_str]
  | .no, n, h => by simp [Sy.toD, Sy.py, toPy, toPy_str]
  | .unk w, n, h => by simp [Sy.toD, Sy.py, toPy, toPy_str]
  | .not s, n, h => by
    have e := toPy_sy s n h
    rw [show n + (Sy.not s).dep + 1 = (n + s.dep + 1) + 1 from rfl]
    simp [Sy.toD, Sy.py, toPy, toPy_str, e]
  | .bin mk a b, n, h => by
    have e1 := toPy_sy a (n + (max a.dep b.dep - a.dep)) h
    have e2 := toPy_sy b (n + (max a.dep b.dep - b.dep)) h
    rw [show n + (max a.dep b.dep - a.dep) + a.dep + 1 = n + max a.dep b.dep + 1 by omega] at e1
    rw [show n + (max a.dep b.dep - b.dep) + b.dep + 1 = n + max a.dep b.dep + 1 by omega] at e2
    rw [show n + (Sy.bin mk a b).dep + 1 = (n + max a.dep b.dep + 1) + 1 from rfl]
    simp [Sy.toD, Sy.py, toPy, toPy_str, e1, e2]
theorem showable_sy : ∀ s : Sy, s.py.showable = true
  | .yes => rfl
  | .no => rfl
  | .unk w => rfl
  | .not s => by simp [Sy.py, PyData.showable, PyData.showableAll, showable_sy s]
  | .bin mk a b => by simp [Sy.py, PyData.showable, PyData.showableAll, showable_sy a, showable_sy b]
theorem hasDict_sy : ∀ s : Sy, s.py.hasDict = false
  | .yes => rfl
  | .no => rfl
  | .unk w => rfl
  | .not s => by simp [Sy.py, PyData.hasDict, PyData.hasDictAll, hasDict_sy s]
  | .bin mk a b => by simp [Sy.py, PyData.hasDict, PyData.hasDictAll, hasDict_sy a, hasDict_sy b]
theorem depth_sy : ∀ s : Sy, s.py.depth = s.dep + 1
  | .yes => rfl
  | .no => rfl
  | .unk w => rfl
  | .not s => by
    have := depth_sy s
    simp [Sy.py, PyData.depth, PyData.depthAll, this, Sy.dep]
  | .bin mk a b => by
    have := depth_sy a
    have := depth_sy b
    simp [Sy.py, PyData.depth, PyData.depthAll, *, Sy.dep]
theorem ws_small {c : Nat} (h : c ∈ wsigns) : c < 16 ^ 8 := by
  have e : (wsigns.all fun c => decide (c < 16 ^ 8)) = true := by decide
  exact of_decide_eq_true (List.all_eq_true.mp e c h)
theorem repr_len {w : List Nat} (h : ∀ c ∈ w, c < 16 ^ 8) : (reprText (tx w)).length ≤ 10 * w.length + 2 := by
  have := StrLaws.reprText_len (tx w) (by simpa using h)
  rw [tx_len] at this
  exact this
theorem tup_len (ts : List Str) : (tupleText ts).length ≤ (ts.map (·.length)).sum + ts.length * 2 + 3 := by
  unfold tupleText
  rw [strLen_append, strLen_append]
  have e1 : ((("(" : String) : Str)).length = 1 := rfl
  have e3 : (((if ts.length == 1 then ",)" else ")" : String) : Str)).length ≤ 2 := by split <;> decide
  have e2 := StrLaws.join_length_le ", " ts
  have e4 : ((", " : String) : Str).length = 2 := rfl
  rw [e4] at e2
  rw [e1]
  omega
theorem wd_small {w : List Nat} (h : Wd w) : ∀ c ∈ w, c < 16 ^ 8 := fun c hc => ws_small (h.all c hc)
theorem shown_sy : ∀ s : Sy, s.good → s.py.shown.length ≤ 220 * s.wc
  | .yes, _ => by decide +kernel
  | .no, _ => by decide +kernel
  | .unk w, g => by
    have l := Nm.le g
    have r := repr_len (wd_small (Nm.wd g))
    have u : (reprText (tx wUnk)).length ≤ 20 := by decide +kernel
    have t := tup_len [reprText (tx wUnk), reprText (tx w)]
    show (tupleText [reprText (tx wUnk), reprText (tx w)]).length ≤ 220 * 1
    simp only [List.map_cons, List.map_nil, List.sum_cons, List.sum_nil, List.length_cons, List.length_nil] at t
    omega
  | .not s, g => by
    have ih := shown_sy s g
    have u : (reprText (tx wNot)).length ≤ 20 := by decide +kernel
    have t := tup_len [reprText (tx wNot), s.py.shown]
    show (tupleText [reprText (tx wNot), s.py.shown]).length ≤ 220 * (s.wc + 1)
    simp only [List.map_cons, List.map_nil, List.sum_cons, List.sum_nil, List.length_cons, List.length_nil] at t
    omega
  | .bin mk a b, g => by
    obtain ⟨g1, g2, g3⟩ := g
    have i1 := shown_sy a g2
    have i2 := shown_sy b g3
    have l := mark_len g1
    have r := repr_len (wd_small (mk_wd g1))
    have t := tup_len [reprText (tx mk), a.py.shown, b.py.shown]
    show (tupleText [reprText (tx mk), a.py.shown, b.py.shown]).length ≤ 220 * (a.wc + b.wc + 1)
    simp only [List.map_cons, List.map_nil, List.sum_cons, List.sum_nil, List.length_cons, List.length_nil] at t
    omega
theorem repr_sy (s : Sy) (h : MH) (g : s.good) (hd : s.dep ≤ 62) (hw : s.wc ≤ 1000) : ∃ r, reprOf s.toD h = some r := by
  have e := toPy_sy s (65 - s.dep) h
  rw [show 65 - s.dep + s.dep + 1 = 66 by omega] at e
  have l := shown_sy s g
  have d := depth_sy s
  have sl : (220000 : Nat) ≤ sizeLine := by decide
  refine ⟨s.py.shown.cps.toList, ?_⟩
  unfold reprOf
  rw [e]
  dsimp only
  rw [if_pos ⟨showable_sy s, by omega, by omega, hasDict_sy s⟩]
theorem repr_str (w : List Nat) (h : MH) (hw : ∀ c ∈ w, c < 16 ^ 8) (hl : w.length ≤ 100000) : ∃ r, reprOf (.str w) h = some r := by
  have r := repr_len hw
  have sl : (2000000 : Nat) ≤ sizeLine := by decide
  refine ⟨(PyData.str (tx w)).shown.cps.toList, ?_⟩
  unfold reprOf
  rw [toPy_str]
  dsimp only
  rw [if_pos ⟨rfl, by show (reprText (tx w)).length ≤ _; omega, Nat.zero_le _, rfl⟩]
end K65
set_option Elab.async false
set_option linter.all false
set_option maxRecDepth 100000
set_option autoImplicit false
namespace K65
open Mir
def prev (text : List Nat) (k : Nat) : Option Nat := if k = 0 then none else text[k - 1]?
theorem near0 (text : List Nat) (k : Nat) (hk : k < text.length) : cutL text (some ((k : Int) - 1)) (some (k : Int)) = (prev text k).toList := by
  unfold prev
  by_cases h0 : k = 0
  · subst h0
    rw [if_pos rfl]
    show (text.drop _).take (HT.sIx _ _ (some ((0 : Nat) : Int)) - _) = []
    rw [HT.sIx_nat]
    simp
  · rw [if_neg h0, show ((k : Int) - 1) = ((k - 1 : Nat) : Int) by omega, cut_nat _ _ _ (by omega), show k - (k - 1) = 1 by omega, List.drop_eq_getElem_cons (by omega), List.getElem?_eq_getElem (by omega)]
    rfl
theorem near1 (text : List Nat) (k : Nat) : cutL text (some ((k : Int) + 1)) (some ((k : Int) + 2)) = (text[k + 1]?).toList := by
  rw [show ((k : Int) + 1) = ((k + 1 : Nat) : Int) by omega, show ((k : Int) + 2) = ((k + 2 : Nat) : Int) by omega, cut_nat _ _ _ (by omega), show k + 2 - (k + 1) = 1 by omega]
  by_cases h : k + 1 < text.length
  · rw [List.drop_eq_getElem_cons h, List.getElem?_eq_getElem h]; rfl
  · rw [List.drop_eq_nil_of_le (by omega), List.getElem?_eq_none (by omega)]; rfl
/-- what stands nearby is nothing, or a bracket -/
def nb (o : Option Nat) : Bool := match o with
  | none => true
  | some c => decide (c = 40 ∨ c = 41)
theorem within_nb (o : Option Nat) : within o.toList [40, 41] = nb o := by
  cases o with
  | none => exact within0 _
  | some c =>
    show within [c] [40, 41] = _
    rw [within1]
    simp [nb]
theorem Lo.mem {p : Option Nat} {t o : List Nat} (h : Lo p t o) : ∀ x ∈ o, x = 32 ∨ x ∈ t := by
  induction h with
  | nil => intro x hx; cases hx
  | par i j hc h ih =>
    intro x hx
    simp only [List.mem_append, List.mem_cons, List.mem_replicate] at hx ⊢
    rcases hx with ⟨_, hx⟩ | hx | ⟨_, hx⟩ | hx
    · exact .inl hx
    · exact .inr (.inl hx)
    · exact .inl hx
    · exact (ih x hx).imp id .inr
  | sp k hk h ih =>
    intro x hx
    simp only [List.mem_append, List.mem_cons, List.mem_replicate] at hx ⊢
    rcases hx with ⟨_, hx⟩ | hx
    · exact .inl hx
    · exact (ih x hx).imp id .inr
  | wd hc h ih =>
    intro x hx
    simp only [List.mem_cons] at hx ⊢
    rcases hx with hx | hx
    · exact .inr (.inl hx)
    · exact (ih x hx).imp id .inr
structure LI (m c : Nat) (cs : List Int) (text : List Nat) (h0 : MH) (b i : Nat) (k : Nat) (ρ : En) (h : MH) : Prop where
  ex : ∃ (po : List Nat) (x3 x4 x5 x6 : Option D), ρ = [some (.loc m), some (.str text), some (.str (List.replicate i 32 ++ po)), x3, x4, x5, x6] ∧ (∀ o', Lo (prev text k) (text.drop k) o' → Lo none text (po ++ o')) ∧ po.length ≤ 5 * k
  s : S m c cs (b + 4 * k) h
  v : Ev m h0 h
theorem loose (n : Nat) {m c : Nat} {cs : List Int} {b : Nat} {h : MH} {text : List Nat} (hs : S m c cs b h) (hl : text.length ≤ 700) (hb : b + 4 * text.length + 4 ≤ 1000000000) :
    Go m c cs h (b + (4 * text.length + 4)) (M (n + 3) ._law_loose [.loc m, .str text] h) fun d => ∃ t', d = .str t' ∧ t'.length ≤ 5 * text.length + 6 ∧ tk [] t' = tk [] text ∧ (∀ x ∈ t', x = 32 ∨ x ∈ text) := by
  obtain ⟨d1, h1, e1, ⟨i, hi, rfl⟩, s1, v1⟩ := blanks (n + 0) (most := 4) hs (by omega) (by omega) (by omega)
  rw [M__law_loose]
  have lp := for_rng (i := 3) (lo := 0) (n := text.length) (LI m c cs text h (b + 2) i)
    (body := (sCons (sPar [4, 5] (aCons (eBin mIx (eVar 1) (eVar 3)) (aCons (eTup (aCons (eSlice (eVar 1) (oSome (eBin mSub (eVar 3) (eLit (.int 1)))) (oSome (eVar 3))) (aCons (eSlice (eVar 1) (oSome (eBin mAdd (eVar 3) (eLit (.int 1)))) (oSome (eBin mAdd (eVar 3) (eLit (.int 2))))) aNil))) aNil)))
  (sIf (tVal (eBin mIn (eVar 4) (eLit (.str [40, 41])))) (sSet 2 (eBin mAdd (eBin mAdd (eBin mAdd (eVar 2) (eApp (M (n + 2) ._law_blanks) (aCons (eVar 0) (aCons (eLit (.int 3)) aNil)))) (eVar 4)) (eApp (M (n + 2) ._law_blanks) (aCons (eVar 0) (aCons (eLit (.int 3)) aNil))))) (sIf (tVal (eBin mEq (eVar 4) (eLit (.str [32])))) (sCons (sSet 6 (eIf (tOr (tVal (eBin mIn (eBin mIx (eVar 5) (eLit (.int 0))) (eLit (.str [40, 41])))) (tVal (eBin mIn (eBin mIx (eVar 5) (eLit (.int 1))) (eLit (.str [40, 41]))))) (eLit (.int 0)) (eLit (.int 1))))
  (sSet 2 (eBin mAdd (eBin mAdd (eVar 2) (eBin mMul (eLit (.str [32])) (eVar 6))) (eApp (M (n + 2) ._law_blanks) (aCons (eVar 0) (aCons (eLit (.int 4)) aNil)))))) (sSet 2 (eBin mAdd (eVar 2) (eVar 4))))))) ?_
    (ρ := [some (.loc m), some (.str text), some (.str (List.replicate i 32)), none, none, none, none]) (h := h1) ⟨⟨[], none, none, none, none, by simp, fun o' q => q, by simp⟩, s1, v1⟩
  · obtain ⟨ρ', h2, e2, ⟨⟨po, x3, x4, x5, x6, rfl, hlo, hpo⟩, s2, v2⟩⟩ := lp
    obtain ⟨d3, h3, e3, ⟨j, hj, rfl⟩, s3, v3⟩ := blanks (n + 0) (most := 4) s2 (by omega) (by omega) (by omega)
    have hlo' := hlo [] (by rw [List.drop_length]; exact .nil)
    rw [List.append_nil] at hlo'
    refine go_fn (d := .str (List.replicate i 32 ++ po ++ List.replicate j 32)) (h' := h3) hs rfl ?_ rfl ⟨_, rfl, ?_, tk_loose hlo' i j, ?_⟩ (s3.mono (by omega)) (v2.trans v3)
    · unfold b__law_loose
      have l1 : text.length ≤ 100000 := by omega
      have r1 : iRange1 (aCons (eApp fLen (aCons (eVar 1) aNil)) aNil) [some (.loc m), some (.str text), some (.str (List.replicate i 32)), none, none, none, none] h1 = .ok ⟨rng 0 text.length, []⟩ h1 := iRange1_nat (i := (text.length : Int)) (by simp [fnM, runB, eLit, eVar, eBin, eUn, aNil, aCons, eApp, eTup, eLst, eIf, eAnd, eOr, eNot, eChain, tVal, Mir.tAnd, Mir.tOr, Mir.tNot, Mir.tYes, sCons, sNil, sExpr, sSet, sRet, sRetN, sIf, sPass, sBreak, sCont, sBind, sPar, sAug, Mir.sPut, Mir.sFld, Mir.sFldAug, mFld, pNil, pCons, sFor, iAny, mIter, iZip, bName, bTup, bsCons, bsNil, mAdd, mAddI, mSub, mMul, mDiv, mMod, mPow, mNeg, mLt, mLe, mGt, mGe, mEq, mNe, eqD, mIsN, mNotN, mIx, mIn, mNotIn, inD, fLen, fAbs, fMax2, fMin2, fInt, fStr, itemsD, isKey, boolsD, eSlice, oNone, oSome, mSl, eMth, eMeth, methK, eMake, eFmt, eJoin, jGo, mIsi, tyN, isT, l1]) rfl (by omega)
      ((try simp [fnM, runB, eLit, eVar, eBin, eUn, aNil, aCons, eApp, eTup, eLst, eIf, eAnd, eOr, eNot, eChain, tVal, Mir.tAnd, Mir.tOr, Mir.tNot, Mir.tYes, sCons, sNil, sExpr, sSet, sRet, sRetN, sIf, sPass, sBreak, sCont, sBind, sPar, sAug, Mir.sPut, Mir.sFld, Mir.sFldAug, mFld, pNil, pCons, sFor, iAny, mIter, iZip, bName, bTup, bsCons, bsNil, mAdd, mAddI, mSub, mMul, mDiv, mMod, mPow, mNeg, mLt, mLe, mGt, mGe, mEq, mNe, eqD, mIsN, mNotN, mIx, mIn, mNotIn, inD, fLen, fAbs, fMax2, fMin2, fInt, fStr, itemsD, isKey, boolsD, eSlice, oNone, oSome, mSl, eMth, eMeth, methK, eMake, eFmt, eJoin, jGo, mIsi, tyN, isT, e1, e2, e3, r1]); repeat (rw [if_pos (by (try simp only [List.length_append, List.length_cons, List.length_nil, List.length_replicate]); omega)]; try simp [fnM, runB, eLit, eVar, eBin, eUn, aNil, aCons, eApp, eTup, eLst, eIf, eAnd, eOr, eNot, eChain, tVal, Mir.tAnd, Mir.tOr, Mir.tNot, Mir.tYes, sCons, sNil, sExpr, sSet, sRet, sRetN, sIf, sPass, sBreak, sCont, sBind, sPar, sAug, Mir.sPut, Mir.sFld, Mir.sFldAug, mFld, pNil, pCons, sFor, iAny, mIter, iZip, bName, bTup, bsCons, bsNil, mAdd, mAddI, mSub, mMul, mDiv, mMod, mPow, mNeg, mLt, mLe, mGt, mGe, mEq, mNe, eqD, mIsN, mNotN, mIx, mIn, mNotIn, inD, fLen, fAbs, fMax2, fMin2, fInt, fStr, itemsD, isKey, boolsD, eSlice, oNone, oSome, mSl, eMth, eMeth, methK, eMake, eFmt, eJoin, jGo, mIsi, tyN, isT, e1, e2, e3, r1]))
    · simp only [List.length_append, List.length_replicate]
      omega
    · intro x hx
      simp only [List.mem_append, List.mem_replicate] at hx
      rcases hx with (⟨_, hx⟩ | hx) | ⟨_, hx⟩
      · exact .inl hx
      · exact hlo'.mem x hx
      · exact .inl hx
  · rintro k ρ hh hk ⟨⟨po, x3, x4, x5, x6, rfl, hlo, hpo⟩, s2, v2⟩
    have hc : text[k]? = some text[k] := List.getElem?_eq_getElem hk
    have hd : text.drop k = text[k] :: text.drop (k + 1) := List.drop_eq_getElem_cons hk
    have ha : L2.atI text (k : Int) = some text[k] := by rw [atI_nn (by omega)]; simpa using hc
    have pv : prev text (k + 1) = some text[k] := by unfold prev; rw [if_neg (by omega)]; simpa using hc
    have n0 := near0 text k hk
    have n1 := near1 text k
    generalize text[k] = x at hc hd ha pv
    have l1 : text.length ≤ 100000 := by omega
    by_cases hp : x = 40 ∨ x = 41
    · obtain ⟨d3, h3, e3, ⟨i3, hi3, rfl⟩, s3, v3⟩ := blanks (n + 0) (most := 3) s2 (by omega) (by omega) (by omega)
      obtain ⟨d4, h4, e4, ⟨i4, hi4, rfl⟩, s4, v4⟩ := blanks (n + 0) (most := 3) s3 (by omega) (by omega) (by omega)
      refine ⟨[some (.loc m), some (.str text), some (.str (List.replicate i 32 ++ (po ++ (List.replicate i3 32 ++ x :: List.replicate i4 32)))), some (.int k), some (.str [x]), some (.tup [.str (prev text k).toList, .str (text[k + 1]?).toList]), x6], h4, ?_, ⟨po ++ (List.replicate i3 32 ++ x :: List.replicate i4 32), _, _, _, _, rfl, ?_, ?_⟩, s4.mono (by omega), (v2.trans v3).trans v4⟩
      · ((try simp [fnM, runB, eLit, eVar, eBin, eUn, aNil, aCons, eApp, eTup, eLst, eIf, eAnd, eOr, eNot, eChain, tVal, Mir.tAnd, Mir.tOr, Mir.tNot, Mir.tYes, sCons, sNil, sExpr, sSet, sRet, sRetN, sIf, sPass, sBreak, sCont, sBind, sPar, sAug, Mir.sPut, Mir.sFld, Mir.sFldAug, mFld, pNil, pCons, sFor, iAny, mIter, iZip, bName, bTup, bsCons, bsNil, mAdd, mAddI, mSub, mMul, mDiv, mMod, mPow, mNeg, mLt, mLe, mGt, mGe, mEq, mNe, eqD, mIsN, mNotN, mIx, mIn, mNotIn, inD, fLen, fAbs, fMax2, fMin2, fInt, fStr, itemsD, isKey, boolsD, eSlice, oNone, oSome, mSl, eMth, eMeth, methK, eMake, eFmt, eJoin, jGo, mIsi, tyN, isT, e3, e4, ha, n0, n1, l1, within1, hp]); repeat (rw [if_pos (by (try simp only [List.length_append, List.length_cons, List.length_nil, List.length_replicate]); omega)]; try simp [fnM, runB, eLit, eVar, eBin, eUn, aNil, aCons, eApp, eTup, eLst, eIf, eAnd, eOr, eNot, eChain, tVal, Mir.tAnd, Mir.tOr, Mir.tNot, Mir.tYes, sCons, sNil, sExpr, sSet, sRet, sRetN, sIf, sPass, sBreak, sCont, sBind, sPar, sAug, Mir.sPut, Mir.sFld, Mir.sFldAug, mFld, pNil, pCons, sFor, iAny, mIter, iZip, bName, bTup, bsCons, bsNil, mAdd, mAddI, mSub, mMul, mDiv, mMod, mPow, mNeg, mLt, mLe, mGt, mGe, mEq, mNe, eqD, mIsN, mNotN, mIx, mIn, mNotIn, inD, fLen, fAbs, fMax2, fMin2, fInt, fStr, itemsD, isKey, boolsD, eSlice, oNone, oSome, mSl, eMth, eMeth, methK, eMake, eFmt, eJoin, jGo, mIsi, tyN, isT, e3, e4, ha, n0, n1, l1, within1, hp]))
      · intro o' ho
        rw [pv] at ho
        have := hlo _ (by rw [hd]; exact .par i3 i4 hp ho)
        simpa using this
      · simp only [List.length_append, List.length_replicate, List.length_cons]
        omega
    · have hp1 : x ≠ 40 := fun z => hp (.inl z)
      have hp2 : x ≠ 41 := fun z => hp (.inr z)
      by_cases hx : x = 32
      · obtain ⟨d3, h3, e3, ⟨i3, hi3, rfl⟩, s3, v3⟩ := blanks (n + 0) (most := 4) s2 (by omega) (by omega) (by omega)
        have w0 := within_nb (prev text k)
        have w1 := within_nb text[k + 1]?
        by_cases hn : (nb (prev text k) || nb text[k + 1]?) = true
        · refine ⟨[some (.loc m), some (.str text), some (.str (List.replicate i 32 ++ (po ++ List.replicate i3 32))), some (.int k), some (.str [x]), some (.tup [.str (prev text k).toList, .str (text[k + 1]?).toList]), some (.int 0)], h3, ?_, ⟨po ++ List.replicate i3 32, _, _, _, _, rfl, ?_, ?_⟩, s3.mono (by omega), v2.trans v3⟩
          · rw [Bool.or_eq_true] at hn
            by_cases hq : nb (prev text k) = true
            · ((try simp [fnM, runB, eLit, eVar, eBin, eUn, aNil, aCons, eApp, eTup, eLst, eIf, eAnd, eOr, eNot, eChain, tVal, Mir.tAnd, Mir.tOr, Mir.tNot, Mir.tYes, sCons, sNil, sExpr, sSet, sRet, sRetN, sIf, sPass, sBreak, sCont, sBind, sPar, sAug, Mir.sPut, Mir.sFld, Mir.sFldAug, mFld, pNil, pCons, sFor, iAny, mIter, iZip, bName, bTup, bsCons, bsNil, mAdd, mAddI, mSub, mMul, mDiv, mMod, mPow, mNeg, mLt, mLe, mGt, mGe, mEq, mNe, eqD, mIsN, mNotN, mIx, mIn, mNotIn, inD, fLen, fAbs, fMax2, fMin2, fInt, fStr, itemsD, isKey, boolsD, eSlice, oNone, oSome, mSl, eMth, eMeth, methK, eMake, eFmt, eJoin, jGo, mIsi, tyN, isT, e3, ha, n0, n1, l1, within1, hp1, hp2, hx, w0, w1, hq, atI_0, atI_1]); repeat (rw [if_pos (by (try simp only [List.length_append, List.length_cons, List.length_nil, List.length_replicate]); omega)]; try simp [fnM, runB, eLit, eVar, eBin, eUn, aNil, aCons, eApp, eTup, eLst, eIf, eAnd, eOr, eNot, eChain, tVal, Mir.tAnd, Mir.tOr, Mir.tNot, Mir.tYes, sCons, sNil, sExpr, sSet, sRet, sRetN, sIf, sPass, sBreak, sCont, sBind, sPar, sAug, Mir.sPut, Mir.sFld, Mir.sFldAug, mFld, pNil, pCons, sFor, iAny, mIter, iZip, bName, bTup, bsCons, bsNil, mAdd, mAddI, mSub, mMul, mDiv, mMod, mPow, mNeg, mLt, mLe, mGt, mGe, mEq, mNe, eqD, mIsN, mNotN, mIx, mIn, mNotIn, inD, fLen, fAbs, fMax2, fMin2, fInt, fStr, itemsD, isKey, boolsD, eSlice, oNone, oSome, mSl, eMth, eMeth, methK, eMake, eFmt, eJoin, jGo, mIsi, tyN, isT, e3, ha, n0, n1, l1, within1, hp1, hp2, hx, w0, w1, hq, atI_0, atI_1]))
            · have hq2 : nb text[k + 1]? = true := hn.resolve_left hq
              ((try simp [fnM, runB, eLit, eVar, eBin, eUn, aNil, aCons, eApp, eTup, eLst, eIf, eAnd, eOr, eNot, eChain, tVal, Mir.tAnd, Mir.tOr, Mir.tNot, Mir.tYes, sCons, sNil, sExpr, sSet, sRet, sRetN, sIf, sPass, sBreak, sCont, sBind, sPar, sAug, Mir.sPut, Mir.sFld, Mir.sFldAug, mFld, pNil, pCons, sFor, iAny, mIter, iZip, bName, bTup, bsCons, bsNil, mAdd, mAddI, mSub, mMul, mDiv, mMod, mPow, mNeg, mLt, mLe, mGt, mGe, mEq, mNe, eqD, mIsN, mNotN, mIx, mIn, mNotIn, inD, fLen, fAbs, fMax2, fMin2, fInt, fStr, itemsD, isKey, boolsD, eSlice, oNone, oSome, mSl, eMth, eMeth, methK, eMake, eFmt, eJoin, jGo, mIsi, tyN, isT, e3, ha, n0, n1, l1, within1, hp1, hp2, hx, w0, w1, hq, hq2, atI_0, atI_1]); repeat (rw [if_pos (by (try simp only [List.length_append, List.length_cons, List.length_nil, List.length_replicate]); omega)]; try simp [fnM, runB, eLit, eVar, eBin, eUn, aNil, aCons, eApp, eTup, eLst, eIf, eAnd, eOr, eNot, eChain, tVal, Mir.tAnd, Mir.tOr, Mir.tNot, Mir.tYes, sCons, sNil, sExpr, sSet, sRet, sRetN, sIf, sPass, sBreak, sCont, sBind, sPar, sAug, Mir.sPut, Mir.sFld, Mir.sFldAug, mFld, pNil, pCons, sFor, iAny, mIter, iZip, bName, bTup, bsCons, bsNil, mAdd, mAddI, mSub, mMul, mDiv, mMod, mPow, mNeg, mLt, mLe, mGt, mGe, mEq, mNe, eqD, mIsN, mNotN, mIx, mIn, mNotIn, inD, fLen, fAbs, fMax2, fMin2, fInt, fStr, itemsD, isKey, boolsD, eSlice, oNone, oSome, mSl, eMth, eMeth, methK, eMake, eFmt, eJoin, jGo, mIsi, tyN, isT, e3, ha, n0, n1, l1, within1, hp1, hp2, hx, w0, w1, hq, hq2, atI_0, atI_1]))
          · intro o' ho
            rw [pv] at ho
            subst hx
            have := hlo _ (by
              rw [hd]
              refine .sp i3 ?_ ho
              rw [Bool.or_eq_true] at hn
              rcases hn with hn | hn
              · refine .inr (.inl fun c hc => ?_)
                rw [hc] at hn
                exact of_decide_eq_true hn
              · by_cases hk1 : k + 1 < text.length
                · rw [List.getElem?_eq_getElem hk1] at hn
                  exact .inr (.inr (.inr ⟨_, _, List.drop_eq_getElem_cons hk1, of_decide_eq_true hn⟩))
                · exact .inr (.inr (.inl (List.drop_eq_nil_of_le (by omega)))))
            simpa using this
          · simp only [List.length_append, List.length_replicate]
            omega
        · have hq1 : nb (prev text k) = false := by
            cases z : nb (prev text k) <;> simp_all
          have hq2 : nb text[k + 1]? = false := by
            cases z : nb text[k + 1]? <;> simp_all
          refine ⟨[some (.loc m), some (.str text), some (.str (List.replicate i 32 ++ (po ++ List.replicate (1 + i3) 32))), some (.int k), some (.str [x]), some (.tup [.str (prev text k).toList, .str (text[k + 1]?).toList]), some (.int 1)], h3, ?_, ⟨po ++ List.replicate (1 + i3) 32, _, _, _, _, rfl, ?_, ?_⟩, s3.mono (by omega), v2.trans v3⟩
          · have r1 : List.replicate (1 + i3) 32 = 32 :: List.replicate i3 32 := by rw [Nat.add_comm]; rfl
            ((try simp [fnM, runB, eLit, eVar, eBin, eUn, aNil, aCons, eApp, eTup, eLst, eIf, eAnd, eOr, eNot, eChain, tVal, Mir.tAnd, Mir.tOr, Mir.tNot, Mir.tYes, sCons, sNil, sExpr, sSet, sRet, sRetN, sIf, sPass, sBreak, sCont, sBind, sPar, sAug, Mir.sPut, Mir.sFld, Mir.sFldAug, mFld, pNil, pCons, sFor, iAny, mIter, iZip, bName, bTup, bsCons, bsNil, mAdd, mAddI, mSub, mMul, mDiv, mMod, mPow, mNeg, mLt, mLe, mGt, mGe, mEq, mNe, eqD, mIsN, mNotN, mIx, mIn, mNotIn, inD, fLen, fAbs, fMax2, fMin2, fInt, fStr, itemsD, isKey, boolsD, eSlice, oNone, oSome, mSl, eMth, eMeth, methK, eMake, eFmt, eJoin, jGo, mIsi, tyN, isT, e3, ha, n0, n1, l1, within1, hp1, hp2, hx, w0, w1, hq1, hq2, atI_0, atI_1, r1]); repeat (rw [if_pos (by (try simp only [List.length_append, List.length_cons, List.length_nil, List.length_replicate]); omega)]; try simp [fnM, runB, eLit, eVar, eBin, eUn, aNil, aCons, eApp, eTup, eLst, eIf, eAnd, eOr, eNot, eChain, tVal, Mir.tAnd, Mir.tOr, Mir.tNot, Mir.tYes, sCons, sNil, sExpr, sSet, sRet, sRetN, sIf, sPass, sBreak, sCont, sBind, sPar, sAug, Mir.sPut, Mir.sFld, Mir.sFldAug, mFld, pNil, pCons, sFor, iAny, mIter, iZip, bName, bTup, bsCons, bsNil, mAdd, mAddI, mSub, mMul, mDiv, mMod, mPow, mNeg, mLt, mLe, mGt, mGe, mEq, mNe, eqD, mIsN, mNotN, mIx, mIn, mNotIn, inD, fLen, fAbs, fMax2, fMin2, fInt, fStr, itemsD, isKey, boolsD, eSlice, oNone, oSome, mSl, eMth, eMeth, methK, eMake, eFmt, eJoin, jGo, mIsi, tyN, isT, e3, ha, n0, n1, l1, within1, hp1, hp2, hx, w0, w1, hq1, hq2, atI_0, atI_1, r1]))
          · intro o' ho
            rw [pv] at ho
            subst hx
            have := hlo _ (by rw [hd]; exact .sp (1 + i3) (.inl (by omega)) ho)
            simpa using this
          · simp only [List.length_append, List.length_replicate]
            omega
      · refine ⟨[some (.loc m), some (.str text), some (.str (List.replicate i 32 ++ (po ++ [x]))), some (.int k), some (.str [x]), some (.tup [.str (prev text k).toList, .str (text[k + 1]?).toList]), x6], hh, ?_, ⟨po ++ [x], _, _, _, _, rfl, ?_, ?_⟩, s2.mono (by omega), v2⟩
        · ((try simp [fnM, runB, eLit, eVar, eBin, eUn, aNil, aCons, eApp, eTup, eLst, eIf, eAnd, eOr, eNot, eChain, tVal, Mir.tAnd, Mir.tOr, Mir.tNot, Mir.tYes, sCons, sNil, sExpr, sSet, sRet, sRetN, sIf, sPass, sBreak, sCont, sBind, sPar, sAug, Mir.sPut, Mir.sFld, Mir.sFldAug, mFld, pNil, pCons, sFor, iAny, mIter, iZip, bName, bTup, bsCons, bsNil, mAdd, mAddI, mSub, mMul, mDiv, mMod, mPow, mNeg, mLt, mLe, mGt, mGe, mEq, mNe, eqD, mIsN, mNotN, mIx, mIn, mNotIn, inD, fLen, fAbs, fMax2, fMin2, fInt, fStr, itemsD, isKey, boolsD, eSlice, oNone, oSome, mSl, eMth, eMeth, methK, eMake, eFmt, eJoin, jGo, mIsi, tyN, isT, ha, n0, n1, l1, within1, hp1, hp2, hx]); repeat (rw [if_pos (by (try simp only [List.length_append, List.length_cons, List.length_nil, List.length_replicate]); omega)]; try simp [fnM, runB, eLit, eVar, eBin, eUn, aNil, aCons, eApp, eTup, eLst, eIf, eAnd, eOr, eNot, eChain, tVal, Mir.tAnd, Mir.tOr, Mir.tNot, Mir.tYes, sCons, sNil, sExpr, sSet, sRet, sRetN, sIf, sPass, sBreak, sCont, sBind, sPar, sAug, Mir.sPut, Mir.sFld, Mir.sFldAug, mFld, pNil, pCons, sFor, iAny, mIter, iZip, bName, bTup, bsCons, bsNil, mAdd, mAddI, mSub, mMul, mDiv, mMod, mPow, mNeg, mLt, mLe, mGt, mGe, mEq, mNe, eqD, mIsN, mNotN, mIx, mIn, mNotIn, inD, fLen, fAbs, fMax2, fMin2, fInt, fStr, itemsD, isKey, boolsD, eSlice, oNone, oSome, mSl, eMth, eMeth, methK, eMake, eFmt, eJoin, jGo, mIsi, tyN, isT, ha, n0, n1, l1, within1, hp1, hp2, hx]))
        · intro o' ho
          rw [pv] at ho
          have := hlo _ (by rw [hd]; exact .wd ⟨hx, hp⟩ ho)
          simpa using this
        · simp only [List.length_append, List.length_cons, List.length_nil]
          omega
end K65
set_option Elab.async false
set_option linter.all false
set_option maxRecDepth 100000
set_option autoImplicit false
namespace K65
open Mir
abbrev isW (c : Nat) : Bool := wsigns.contains c
theorem take_tw (r : List Nat) : r.take (r.takeWhile isW).length = r.takeWhile isW := (List.prefix_iff_eq_take.mp (List.takeWhile_prefix isW)).symm
theorem drop_tw (r : List Nat) : r.drop (r.takeWhile isW).length = r.dropWhile isW := by
  have h : r.takeWhile isW ++ r.dropWhile isW = r := List.takeWhile_append_dropWhile
  have := congrArg (List.drop (r.takeWhile isW).length) h
  rw [List.drop_left] at this
  exact this.symm
theorem at_drop {text r : List Nat} {q x : Nat} (h : text.drop q = x :: r) : q < text.length ∧ L2.atI text (q : Int) = some x ∧ text.drop (q + 1) = r := by
  have hq : q < text.length := by
    apply Classical.byContradiction
    intro z
    rw [List.drop_eq_nil_of_le (by omega)] at h
    cases h
  rw [List.drop_eq_getElem_cons hq] at h
  injection h with h1 h2
  refine ⟨hq, ?_, h2⟩
  rw [atI_nn (by omega)]
  simp [List.getElem?_eq_getElem hq, h1]
noncomputable def wT : MT := tAnd (tVal (eBin mLt (eVar 2) (eApp fLen (aCons (eVar 0) aNil)))) (tVal (eBin mIn (eBin mIx (eVar 0) (eVar 2)) (eLit (.str wsigns))))
noncomputable def wB : MS := sAug 2 mAddI (eLit (.int 1))
theorem word_loop (text : List Nat) (p : D) (h : MH) (hl : text.length ≤ 100000) : ∀ (r : List Nat) (q : Nat), text.drop q = r → sWhile wT wB [some (.str text), some p, some (.int q)] h = .nx [some (.str text), some p, some (.int ((q + (r.takeWhile isW).length : Nat) : Int))] h
  | [], q, e => by
    have hq : text.length ≤ q := by
      apply Classical.byContradiction
      intro z
      rw [List.drop_eq_getElem_cons (by omega)] at e
      cases e
    have hq' : ¬ q < text.length := by omega
    rw [sWhile_eq]
    have t : wT [some (.str text), some p, some (.int q)] h = .ok false h := by
      unfold wT
      simp [fnM, runB, eLit, eVar, eBin, eUn, aNil, aCons, eApp, eTup, eLst, eIf, eAnd, eOr, eNot, eChain, tVal, Mir.tAnd, Mir.tOr, Mir.tNot, Mir.tYes, sCons, sNil, sExpr, sSet, sRet, sRetN, sIf, sPass, sBreak, sCont, sBind, sPar, sAug, Mir.sPut, Mir.sFld, Mir.sFldAug, mFld, pNil, pCons, sFor, iAny, mIter, iZip, bName, bTup, bsCons, bsNil, mAdd, mAddI, mSub, mMul, mDiv, mMod, mPow, mNeg, mLt, mLe, mGt, mGe, mEq, mNe, eqD, mIsN, mNotN, mIx, mIn, mNotIn, inD, fLen, fAbs, fMax2, fMin2, fInt, fStr, itemsD, isKey, boolsD, eSlice, oNone, oSome, mSl, eMth, eMeth, methK, eMake, eFmt, eJoin, jGo, mIsi, tyN, isT, hl, hq']
    rw [t]
    simp
  | x :: r, q, e => by
    obtain ⟨hq, ha, hd⟩ := at_drop e
    rw [sWhile_eq]
    have t : wT [some (.str text), some p, some (.int q)] h = .ok (isW x) h := by
      unfold wT
      simp [fnM, runB, eLit, eVar, eBin, eUn, aNil, aCons, eApp, eTup, eLst, eIf, eAnd, eOr, eNot, eChain, tVal, Mir.tAnd, Mir.tOr, Mir.tNot, Mir.tYes, sCons, sNil, sExpr, sSet, sRet, sRetN, sIf, sPass, sBreak, sCont, sBind, sPar, sAug, Mir.sPut, Mir.sFld, Mir.sFldAug, mFld, pNil, pCons, sFor, iAny, mIter, iZip, bName, bTup, bsCons, bsNil, mAdd, mAddI, mSub, mMul, mDiv, mMod, mPow, mNeg, mLt, mLe, mGt, mGe, mEq, mNe, eqD, mIsN, mNotN, mIx, mIn, mNotIn, inD, fLen, fAbs, fMax2, fMin2, fInt, fStr, itemsD, isKey, boolsD, eSlice, oNone, oSome, mSl, eMth, eMeth, methK, eMake, eFmt, eJoin, jGo, mIsi, tyN, isT, hl, hq, ha, within1, isW]
    rw [t]
    cases hx : isW x with
    | false =>
      rw [List.takeWhile_cons, if_neg (by rw [hx]; exact Bool.false_ne_true)]
      simp
    | true =>
      have b : wB [some (.str text), some p, some (.int q)] h = .nx [some (.str text), some p, some (.int ((q + 1 : Nat) : Int))] h := by
        unfold wB
        simp [fnM, runB, eLit, eVar, eBin, eUn, aNil, aCons, eApp, eTup, eLst, eIf, eAnd, eOr, eNot, eChain, tVal, Mir.tAnd, Mir.tOr, Mir.tNot, Mir.tYes, sCons, sNil, sExpr, sSet, sRet, sRetN, sIf, sPass, sBreak, sCont, sBind, sPar, sAug, Mir.sPut, Mir.sFld, Mir.sFldAug, mFld, pNil, pCons, sFor, iAny, mIter, iZip, bName, bTup, bsCons, bsNil, mAdd, mAddI, mSub, mMul, mDiv, mMod, mPow, mNeg, mLt, mLe, mGt, mGe, mEq, mNe, eqD, mIsN, mNotN, mIx, mIn, mNotIn, inD, fLen, fAbs, fMax2, fMin2, fInt, fStr, itemsD, isKey, boolsD, eSlice, oNone, oSome, mSl, eMth, eMeth, methK, eMake, eFmt, eJoin, jGo, mIsi, tyN, isT]
      simp only [toS_ok, if_true]
      rw [b]
      simp only [turn_nx]
      rw [word_loop text p h hl r (q + 1) hd, List.takeWhile_cons, if_pos hx, List.length_cons]
      rw [show q + 1 + (List.takeWhile isW r).length = q + ((List.takeWhile isW r).length + 1) by omega]
theorem word_from (n : Nat) (text : List Nat) (q : Nat) (h : MH) (hl : text.length ≤ 100000) : M (n + 1) ._word_from [.str text, .int q] h = .ok (.str ((text.drop q).takeWhile isW)) h := by
  rw [M__word_from]
  refine fnM_of rfl ?_ rfl rfl
  have w := word_loop text (.int q) h hl (text.drop q) q rfl
  have c := cut_nat text q (q + ((text.drop q).takeWhile isW).length) (by omega)
  rw [show q + ((text.drop q).takeWhile isW).length - q = ((text.drop q).takeWhile isW).length by omega, take_tw] at c
  rw [Int.natCast_add] at c
  unfold b__word_from
  unfold wT wB wsigns at w
  simp [fnM, runB, eLit, eVar, eBin, eUn, aNil, aCons, eApp, eTup, eLst, eIf, eAnd, eOr, eNot, eChain, tVal, Mir.tAnd, Mir.tOr, Mir.tNot, Mir.tYes, sCons, sNil, sExpr, sSet, sRet, sRetN, sIf, sPass, sBreak, sCont, sBind, sPar, sAug, Mir.sPut, Mir.sFld, Mir.sFldAug, mFld, pNil, pCons, sFor, iAny, mIter, iZip, bName, bTup, bsCons, bsNil, mAdd, mAddI, mSub, mMul, mDiv, mMod, mPow, mNeg, mLt, mLe, mGt, mGe, mEq, mNe, eqD, mIsN, mNotN, mIx, mIn, mNotIn, inD, fLen, fAbs, fMax2, fMin2, fInt, fStr, itemsD, isKey, boolsD, eSlice, oNone, oSome, mSl, eMth, eMeth, methK, eMake, eFmt, eJoin, jGo, mIsi, tyN, isT, w, hl, c]
/-! pieces -/
inductive Pz : List (List Nat) → List D → Prop where
  | nil : Pz [] []
  | cons {w : List Nat} {pl : Int} {ws : List (List Nat)} {ds : List D} (h : Pz ws ds) : Pz (w :: ws) (.tup [.str w, .int pl] :: ds)
theorem Pz.length {ws : List (List Nat)} {ds : List D} (h : Pz ws ds) : ws.length = ds.length := by
  induction h with
  | nil => rfl
  | cons h ih => simp [ih]
theorem Pz.get {ws : List (List Nat)} {ds : List D} (h : Pz ws ds) : ∀ (i : Nat) (w : List Nat), ws[i]? = some w → ∃ pl : Int, ds[i]? = some (.tup [.str w, .int pl]) := by
  induction h with
  | nil => intro i w e; cases e
  | @cons w0 pl ws ds h ih =>
    intro i w e
    cases i with
    | zero =>
      have : w0 = w := by simpa using e
      subst this
      exact ⟨pl, rfl⟩
    | succ i => exact ih i w (by simpa using e)
theorem Pz.mem {ws : List (List Nat)} {ds : List D} (h : Pz ws ds) : ∀ d ∈ ds, ∃ (w : List Nat) (pl : Int), d = .tup [.str w, .int pl] := by
  induction h with
  | nil => intro d hd; cases hd
  | @cons w0 pl ws ds h ih =>
    intro d hd
    rcases List.mem_cons.mp hd with rfl | hd
    · exact ⟨w0, pl, rfl⟩
    · exact ih d hd

noncomputable def tT : MT := tVal (eBin mLt (eVar 2) (eApp fLen (aCons (eVar 0) aNil)))
noncomputable def tB (n : Nat) : MS := (sCons (sIf (tVal (eBin mEq (eBin mIx (eVar 0) (eVar 2)) (eLit (.str [32])))) (sCons (sAug 2 mAddI (eLit (.int 1)))
  sCont) sNil)
  (sCons (sIf (tVal (eBin mIn (eBin mIx (eVar 0) (eVar 2)) (eLit (.str lower)))) (sSet 3 (eApp (M (n + 1) ._word_from) (aCons (eVar 0) (aCons (eVar 2) aNil)))) (sIf (tVal (eBin mIn (eBin mIx (eVar 0) (eVar 2)) (eLit (.str [40, 41])))) (sSet 3 (eBin mIx (eVar 0) (eVar 2))) sNever))
  (sCons (sExpr (eMth isLst yAppend (eVar 1) (aCons (eTup (aCons (eVar 3) (aCons (eVar 2) aNil))) aNil)))
  (sAug 2 mAddI (eApp fLen (aCons (eVar 3) aNil))))))
/-- the signs that a text of sayings has -/
def Sg (c : Nat) : Prop := c = 32 ∨ brk c ∨ c ∈ wsigns
/-- a word begins with a letter -/
def Hd (w : List Nat) : Prop := ∃ c r, w = c :: r ∧ (brk c ∨ c ∈ lower)
theorem low_no {c : Nat} (h : c ∈ lower) : c ∈ wsigns ∧ c ≠ 32 ∧ c ≠ 40 ∧ c ≠ 41 := by
  have e : (lower.all fun c => decide (c ∈ wsigns ∧ c ≠ 32 ∧ c ≠ 40 ∧ c ≠ 41)) = true := by decide
  exact of_decide_eq_true (List.all_eq_true.mp e c h)
theorem tok_loop (n : Nat) (text : List Nat) (h : MH) (hl : text.length ≤ 100000) : ∀ (N : Nat) (r : List Nat) (q : Nat) (ds : List D) (x3 : Option D), r.length ≤ N → text.drop q = r → (∀ c ∈ r, Sg c) → (∀ w ∈ tk [] r, Hd w) → ds.length ≤ q → q ≤ text.length →
    ∃ ds' x2' x3', sWhile tT (tB n) [some (.str text), some (.loc h.length), some (.int q), x3] (h ++ [.lst ds]) = .nx [some (.str text), some (.loc h.length), x2', x3'] (h ++ [.lst (ds ++ ds')]) ∧ Pz (tk [] r) ds' := by
  have fin : ∀ (q : Nat) (ds : List D) (x3 : Option D), text.drop q = [] → ∃ ds' x2' x3', sWhile tT (tB n) [some (.str text), some (.loc h.length), some (.int q), x3] (h ++ [.lst ds]) = .nx [some (.str text), some (.loc h.length), x2', x3'] (h ++ [.lst (ds ++ ds')]) ∧ Pz (tk [] []) ds' := by
    intro q ds x3 e
    have hq : ¬ q < text.length := by
      intro z
      rw [List.drop_eq_getElem_cons z] at e
      cases e
    refine ⟨[], some (.int q), x3, ?_, .nil⟩
    rw [sWhile_eq]
    have t : tT [some (.str text), some (.loc h.length), some (.int q), x3] (h ++ [.lst ds]) = .ok false (h ++ [.lst ds]) := by
      unfold tT
      simp [fnM, runB, eLit, eVar, eBin, eUn, aNil, aCons, eApp, eTup, eLst, eIf, eAnd, eOr, eNot, eChain, tVal, Mir.tAnd, Mir.tOr, Mir.tNot, Mir.tYes, sCons, sNil, sExpr, sSet, sRet, sRetN, sIf, sPass, sBreak, sCont, sBind, sPar, sAug, Mir.sPut, Mir.sFld, Mir.sFldAug, mFld, pNil, pCons, sFor, iAny, mIter, iZip, bName, bTup, bsCons, bsNil, mAdd, mAddI, mSub, mMul, mDiv, mMod, mPow, mNeg, mLt, mLe, mGt, mGe, mEq, mNe, eqD, mIsN, mNotN, mIx, mIn, mNotIn, inD, fLen, fAbs, fMax2, fMin2, fInt, fStr, itemsD, isKey, boolsD, eSlice, oNone, oSome, mSl, eMth, eMeth, methK, eMake, eFmt, eJoin, jGo, mIsi, tyN, isT, hl, hq]
    rw [t]
    simp
  intro N
  induction N with
  | zero =>
    intro r q ds x3 hr e _ _ _ _
    have : r = [] := List.length_eq_zero_iff.mp (by omega)
    subst this
    exact fin q ds x3 e
  | succ N ih =>
    intro r q ds x3 hr e hg hw hds hql
    cases r with
    | nil => exact fin q ds x3 e
    | cons x r =>
      obtain ⟨hq, ha, hd⟩ := at_drop e
      have t : tT [some (.str text), some (.loc h.length), some (.int q), x3] (h ++ [.lst ds]) = .ok true (h ++ [.lst ds]) := by
        unfold tT
        simp [fnM, runB, eLit, eVar, eBin, eUn, aNil, aCons, eApp, eTup, eLst, eIf, eAnd, eOr, eNot, eChain, tVal, Mir.tAnd, Mir.tOr, Mir.tNot, Mir.tYes, sCons, sNil, sExpr, sSet, sRet, sRetN, sIf, sPass, sBreak, sCont, sBind, sPar, sAug, Mir.sPut, Mir.sFld, Mir.sFldAug, mFld, pNil, pCons, sFor, iAny, mIter, iZip, bName, bTup, bsCons, bsNil, mAdd, mAddI, mSub, mMul, mDiv, mMod, mPow, mNeg, mLt, mLe, mGt, mGe, mEq, mNe, eqD, mIsN, mNotN, mIx, mIn, mNotIn, inD, fLen, fAbs, fMax2, fMin2, fInt, fStr, itemsD, isKey, boolsD, eSlice, oNone, oSome, mSl, eMth, eMeth, methK, eMake, eFmt, eJoin, jGo, mIsi, tyN, isT, hl, hq]
      have gl := get_last h (.lst ds)
      have hr' : r.length ≤ N := by rw [List.length_cons] at hr; omega
      rw [sWhile_eq, t]
      simp only [toS_ok, if_true]
      -- a blank
      by_cases h32 : x = 32
      · have b : tB n [some (.str text), some (.loc h.length), some (.int q), x3] (h ++ [.lst ds]) = .ct [some (.str text), some (.loc h.length), some (.int ((q + 1 : Nat) : Int)), x3] (h ++ [.lst ds]) := by
          unfold tB
          simp [fnM, runB, eLit, eVar, eBin, eUn, aNil, aCons, eApp, eTup, eLst, eIf, eAnd, eOr, eNot, eChain, tVal, Mir.tAnd, Mir.tOr, Mir.tNot, Mir.tYes, sCons, sNil, sExpr, sSet, sRet, sRetN, sIf, sPass, sBreak, sCont, sBind, sPar, sAug, Mir.sPut, Mir.sFld, Mir.sFldAug, mFld, pNil, pCons, sFor, iAny, mIter, iZip, bName, bTup, bsCons, bsNil, mAdd, mAddI, mSub, mMul, mDiv, mMod, mPow, mNeg, mLt, mLe, mGt, mGe, mEq, mNe, eqD, mIsN, mNotN, mIx, mIn, mNotIn, inD, fLen, fAbs, fMax2, fMin2, fInt, fStr, itemsD, isKey, boolsD, eSlice, oNone, oSome, mSl, eMth, eMeth, methK, eMake, eFmt, eJoin, jGo, mIsi, tyN, isT, hl, hq, ha, h32]
        rw [b]
        simp only [turn_ct]
        subst h32
        rw [tk_sp0] at hw ⊢
        exact ih r (q + 1) ds x3 hr' hd (fun c hc => hg c (by simp [hc])) hw (by omega) (by omega)
      · -- a token w, and what is left
        have go : ∀ (w rest : List Nat), tk [] (x :: r) = w :: tk [] rest → text.drop (q + w.length) = rest → rest.length ≤ N → 1 ≤ w.length → w.length ≤ 100000 → (∀ c ∈ rest, c ∈ r) → q + w.length ≤ text.length →
            tB n [some (.str text), some (.loc h.length), some (.int q), x3] (h ++ [.lst ds]) = .nx [some (.str text), some (.loc h.length), some (.int ((q + w.length : Nat) : Int)), some (.str w)] (h ++ [.lst (ds ++ [.tup [.str w, .int q]])]) →
            ∃ ds' x2' x3', (tB n [some (.str text), some (.loc h.length), some (.int q), x3] (h ++ [.lst ds])).turn (fun ρ2 h2 => sWhile tT (tB n) ρ2 h2) = .nx [some (.str text), some (.loc h.length), x2', x3'] (h ++ [.lst (ds ++ ds')]) ∧ Pz (tk [] (x :: r)) ds' := by
          intro w rest e1 e2 e3 e4 e5 e6 e7 b
          rw [b]
          simp only [turn_nx]
          rw [e1] at hw ⊢
          obtain ⟨ds', y2, y3, a1, a2⟩ := ih rest (q + w.length) (ds ++ [.tup [.str w, .int q]]) (some (.str w)) e3 e2 (fun c hc => hg c (by simp [e6 c hc])) (fun v hv => hw v (by simp [hv])) (by rw [List.length_append]; show ds.length + 1 ≤ _; omega) e7
          refine ⟨.tup [.str w, .int q] :: ds', y2, y3, ?_, .cons a2⟩
          rw [a1]
          simp
        have hsl := set_last h (.lst ds) (.lst (ds ++ [.tup [.str [x], .int q]]))
        by_cases hp : brk x
        · refine go [x] r (by rw [tk_brk hp]; rfl) hd hr' (by simp) (by simp) (fun c hc => hc) (by simp; omega) ?_
          have hlow : x ∉ lower := fun z => by
            have := low_no z
            unfold brk at hp
            omega
          have hdl : ds.length < 100000 := by omega
          have w1 : within [x] lower = false := by rw [within1]; simpa using hlow
          have w2 : within [x] [40, 41] = true := by rw [within1]; simpa using hp
          unfold tB
          simp [fnM, runB, eLit, eVar, eBin, eUn, aNil, aCons, eApp, eTup, eLst, eIf, eAnd, eOr, eNot, eChain, tVal, Mir.tAnd, Mir.tOr, Mir.tNot, Mir.tYes, sCons, sNil, sExpr, sSet, sRet, sRetN, sIf, sPass, sBreak, sCont, sBind, sPar, sAug, Mir.sPut, Mir.sFld, Mir.sFldAug, mFld, pNil, pCons, sFor, iAny, mIter, iZip, bName, bTup, bsCons, bsNil, mAdd, mAddI, mSub, mMul, mDiv, mMod, mPow, mNeg, mLt, mLe, mGt, mGe, mEq, mNe, eqD, mIsN, mNotN, mIx, mIn, mNotIn, inD, fLen, fAbs, fMax2, fMin2, fInt, fStr, itemsD, isKey, boolsD, eSlice, oNone, oSome, mSl, eMth, eMeth, methK, eMake, eFmt, eJoin, jGo, mIsi, tyN, isT, hl, hq, ha, h32, w1, w2, gl, isLst, yAppend, hdl, hsl]
        · have hws : x ∈ wsigns := by
            rcases hg x (by simp) with q | q | q
            · exact absurd q h32
            · exact absurd q hp
            · exact q
          have htw : (x :: r).takeWhile isW = x :: r.takeWhile isW := by
            rw [List.takeWhile_cons, if_pos (List.contains_iff_mem.mpr hws)]
          have hdw : (x :: r).dropWhile isW = r.dropWhile isW := by
            rw [List.dropWhile_cons, if_pos (List.contains_iff_mem.mpr hws)]
          have e1 : tk [] (x :: r) = (x :: r.takeWhile isW) :: tk [] (r.dropWhile isW) := by
            have := tk_take (x :: r) [] hg (by rw [List.nil_append]; show (x :: r).takeWhile isW ≠ []; rw [htw]; simp)
            rw [List.nil_append] at this
            rw [this]
            show (x :: r).takeWhile isW :: tk [] ((x :: r).dropWhile isW) = _
            rw [htw, hdw]
          have hlow : x ∈ lower := by
            obtain ⟨c, r', e2, e3⟩ := hw (x :: r.takeWhile isW) (by rw [e1]; simp)
            injection e2 with e4 e5
            subst e4
            exact e3.resolve_left hp
          have hlen : (r.takeWhile isW).length ≤ r.length := (List.takeWhile_prefix isW).length_le
          have hrl : text.length = q + (r.length + 1) := by
            have := congrArg List.length e
            rw [List.length_drop, List.length_cons] at this
            omega
          have wf := word_from n text q (h ++ [.lst ds]) hl
          rw [e, htw] at wf
          have hsl2 := set_last h (.lst ds) (.lst (ds ++ [.tup [.str (x :: r.takeWhile isW), .int q]]))
          have hdl : ds.length < 100000 := by omega
          have w1 : within [x] lower = true := by rw [within1]; simpa using hlow
          refine go (x :: r.takeWhile isW) (r.dropWhile isW) e1 ?_ ?_ (by simp) (by rw [List.length_cons]; omega) (fun c hc => (List.dropWhile_suffix isW).subset hc) (by rw [List.length_cons]; omega) ?_
          · rw [List.length_cons, show q + ((r.takeWhile isW).length + 1) = q + 1 + (r.takeWhile isW).length by omega, ← List.drop_drop, hd, drop_tw]
          · have := (List.dropWhile_suffix isW (l := r)).length_le
            omega
          · have hwl : (r.takeWhile isW).length + 1 ≤ 100000 := by omega
            unfold tB
            simp [fnM, runB, eLit, eVar, eBin, eUn, aNil, aCons, eApp, eTup, eLst, eIf, eAnd, eOr, eNot, eChain, tVal, Mir.tAnd, Mir.tOr, Mir.tNot, Mir.tYes, sCons, sNil, sExpr, sSet, sRet, sRetN, sIf, sPass, sBreak, sCont, sBind, sPar, sAug, Mir.sPut, Mir.sFld, Mir.sFldAug, mFld, pNil, pCons, sFor, iAny, mIter, iZip, bName, bTup, bsCons, bsNil, mAdd, mAddI, mSub, mMul, mDiv, mMod, mPow, mNeg, mLt, mLe, mGt, mGe, mEq, mNe, eqD, mIsN, mNotN, mIx, mIn, mNotIn, inD, fLen, fAbs, fMax2, fMin2, fInt, fStr, itemsD, isKey, boolsD, eSlice, oNone, oSome, mSl, eMth, eMeth, methK, eMake, eFmt, eJoin, jGo, mIsi, tyN, isT, hl, hq, ha, h32, w1, gl, isLst, yAppend, hdl, hsl2, wf, hwl]
theorem tokens (n : Nat) (text : List Nat) (h : MH) (hl : text.length ≤ 100000) (hg : ∀ c ∈ text, Sg c) (hw : ∀ w ∈ tk [] text, Hd w) : ∃ ds, Pz (tk [] text) ds ∧ M (n + 2) ._tokens [.str text] h = .ok (.loc h.length) (h ++ [.lst ds]) := by
  obtain ⟨ds', x2, x3, e, pz⟩ := tok_loop n text h hl text.length text 0 [] none (Nat.le_refl _) rfl hg hw (by simp) (by omega)
  refine ⟨ds', pz, ?_⟩
  rw [M__tokens]
  refine fnM_new rfl ?_
  unfold tT tB lower at e
  unfold b__tokens
  rw [List.nil_append, show ((0 : Nat) : Int) = 0 from rfl] at e
  simp [fnM, runB, eLit, eVar, eBin, eUn, aNil, aCons, eApp, eTup, eLst, eIf, eAnd, eOr, eNot, eChain, tVal, Mir.tAnd, Mir.tOr, Mir.tNot, Mir.tYes, sCons, sNil, sExpr, sSet, sRet, sRetN, sIf, sPass, sBreak, sCont, sBind, sPar, sAug, Mir.sPut, Mir.sFld, Mir.sFldAug, mFld, pNil, pCons, sFor, iAny, mIter, iZip, bName, bTup, bsCons, bsNil, mAdd, mAddI, mSub, mMul, mDiv, mMod, mPow, mNeg, mLt, mLe, mGt, mGe, mEq, mNe, eqD, mIsN, mNotN, mIx, mIn, mNotIn, inD, fLen, fAbs, fMax2, fMin2, fInt, fStr, itemsD, isKey, boolsD, eSlice, oNone, oSome, mSl, eMth, eMeth, methK, eMake, eFmt, eJoin, jGo, mIsi, tyN, isT, e]
end K65
set_option Elab.async false
set_option linter.all false
set_option maxRecDepth 100000
set_option autoImplicit false
namespace K65
open Mir
theorem bools_true : ∀ (n : Nat), boolsD (List.replicate n (.bl true)) = some (List.replicate n true)
  | 0 => rfl
  | n + 1 => by
    rw [List.replicate_succ, List.replicate_succ, boolsD, bools_true n]
    rfl
/-- the heap behind: the same below -/
structure Sm (h h2 : MH) : Prop where
  le : h.length ≤ h2.length
  at_ : ∀ i, i < h.length → h2[i]? = h[i]?
theorem Sm.refl (h : MH) : Sm h h := ⟨Nat.le_refl _, fun _ _ => rfl⟩
theorem is_name_ok (n : Nat) {w : List Nat} (h : MH) (g : Nm w) : ∃ h2, M (n + 1) .is_name [.str w] h = .ok (.bl true) h2 ∧ Sm h h2 := by
  obtain ⟨c, r, hw, hc⟩ := g.hd
  have cm : compGo ⟨w.map fun c => D.str [c], []⟩ (bName 1) Mir.tYes (eBin mIn (eVar 1) (eLit (.str wsigns))) [some (.str w), none] (w.map fun c => D.str [c]) [] h = .ok (List.replicate w.length (.bl true)) h := by
    rw [comp_map rfl (fun _ => .bl true) _ _ fun x hx => ?_]
    · rw [List.nil_append]
      congr 1
      apply List.eq_replicate_iff.mpr
      refine ⟨by simp, fun b hb => ?_⟩
      obtain ⟨_, _, rfl⟩ := List.mem_map.mp hb
      rfl
    · obtain ⟨c, hcw, rfl⟩ := List.mem_map.mp hx
      refine ⟨_, rfl, rfl, ?_⟩
      have : within [c] wsigns = true := by rw [within1]; exact List.contains_iff_mem.mpr (g.all c hcw)
      simp [fnM, runB, eLit, eVar, eBin, eUn, aNil, aCons, eApp, eTup, eLst, eIf, eAnd, eOr, eNot, eChain, tVal, Mir.tAnd, Mir.tOr, Mir.tNot, Mir.tYes, sCons, sNil, sExpr, sSet, sRet, sRetN, sIf, sPass, sBreak, sCont, sBind, sPar, sAug, Mir.sPut, Mir.sFld, Mir.sFldAug, mFld, pNil, pCons, sFor, iAny, mIter, iZip, bName, bTup, bsCons, bsNil, mAdd, mAddI, mSub, mMul, mDiv, mMod, mPow, mNeg, mLt, mLe, mGt, mGe, mEq, mNe, eqD, mIsN, mNotN, mIx, mIn, mNotIn, inD, fLen, fAbs, fMax2, fMin2, fInt, fStr, itemsD, isKey, boolsD, eSlice, oNone, oSome, mSl, eMth, eMeth, methK, eMake, eFmt, eJoin, jGo, mIsi, tyN, isT, this]
  have bt := bools_true w.length
  have l8 := g.le
  have nn := g.no
  have w0 : w ≠ [] := by rw [hw]; simp
  have lw : within [c] lower = true := by rw [within1]; exact List.contains_iff_mem.mpr hc
  have a0 : L2.atI w 0 = some c := by rw [atI_0, hw]; rfl
  have gl := get_last h (.lst (List.replicate w.length (.bl true)))
  rw [M_is_name]
  have hr : runB (b_is_name (M n)) 2 [.str w] h = .ok (.bl true) (h ++ [.lst (List.replicate w.length (.bl true))]) := by
    have l1 : w.length ≤ 100000 := by omega
    have l2 : ¬ (8 : Int) < (w.length : Int) := by omega
    have l3 : ¬ 8 < w.length := by omega
    unfold wsigns at cm
    unfold lower at lw
    simp only [noNames, wYes, wNo, wNot, marks, List.mem_cons, List.not_mem_nil, or_false, not_or] at nn
    obtain ⟨n1, n2, n3, n4, n5, n6, n7, n8, n9⟩ := nn
    unfold b_is_name
    simp [fnM, runB, eLit, eVar, eBin, eUn, aNil, aCons, eApp, eTup, eLst, eIf, eAnd, eOr, eNot, eChain, tVal, Mir.tAnd, Mir.tOr, Mir.tNot, Mir.tYes, sCons, sNil, sExpr, sSet, sRet, sRetN, sIf, sPass, sBreak, sCont, sBind, sPar, sAug, Mir.sPut, Mir.sFld, Mir.sFldAug, mFld, pNil, pCons, sFor, iAny, mIter, iZip, bName, bTup, bsCons, bsNil, mAdd, mAddI, mSub, mMul, mDiv, mMod, mPow, mNeg, mLt, mLe, mGt, mGe, mEq, mNe, eqD, mIsN, mNotN, mIx, mIn, mNotIn, inD, fLen, fAbs, fMax2, fMin2, fInt, fStr, itemsD, isKey, boolsD, eSlice, oNone, oSome, mSl, eMth, eMeth, methK, eMake, eFmt, eJoin, jGo, mIsi, tyN, isT, eComp, cm, bt, w0, lw, a0, gl, fAll, l1, l2, l3, inP, flatD, eqF, n1, n2, n3, n4, n5, n6, n7, n8, n9, Ne.symm n1, Ne.symm n2, Ne.symm n3, Ne.symm n4, Ne.symm n5, Ne.symm n6, Ne.symm n7, Ne.symm n8, Ne.symm n9, wipeM]
  obtain ⟨h2, e, le, same⟩ := fnM_ev (P := 1) rfl hr rfl (by simp)
  exact ⟨h2, e, le, fun i hi => by rw [same i hi, List.getElem?_append_left hi]⟩
/-! the reader -/
def rdr (p : Nat) (ln at_ op : Int) : MO := .ins "Reader" [("pieces", .loc p), ("length", .int ln), ("at", .int at_), ("opened", .int op)]
structure RS (r p : Nat) (ws : List (List Nat)) (ln : Int) (at_ op : Nat) (h : MH) : Prop where
  ob : h[r]? = some (rdr p ln at_ op)
  ex : ∃ ds, h[p]? = some (.lst ds) ∧ Pz ws ds
  ne : r ≠ p
theorem RS.same {r p : Nat} {ws : List (List Nat)} {ln : Int} {at_ op : Nat} {h h2 : MH} (s : RS r p ws ln at_ op h) (v : Sm h h2) : RS r p ws ln at_ op h2 :=
  let ⟨ds, e, z⟩ := s.ex
  ⟨by rw [v.at_ r (List.getElem?_eq_some_iff.mp s.ob).1]; exact s.ob, ⟨ds, by rw [v.at_ p (List.getElem?_eq_some_iff.mp e).1]; exact e, z⟩, s.ne⟩
theorem RS.set {r p : Nat} {ws : List (List Nat)} {ln : Int} {at_ op at2 op2 : Nat} {h : MH} (s : RS r p ws ln at_ op h) : RS r p ws ln at2 op2 (h.set r (rdr p ln at2 op2)) :=
  let ⟨ds, e, z⟩ := s.ex
  ⟨by simp [(List.getElem?_eq_some_iff.mp s.ob).1], ⟨ds, by rw [List.getElem?_set_ne s.ne]; exact e, z⟩, s.ne⟩
theorem Ev.set (r : Nat) (h : MH) (o : MO) : Ev r h (h.set r o) := ⟨by simp, fun i _ hi => List.getElem?_set_ne (Ne.symm hi)⟩
theorem Sm.ev {r : Nat} {h h2 : MH} (v : Sm h h2) : Ev r h h2 := ⟨v.le, fun i hi _ => v.at_ i hi⟩
/-- the word that comes now -/
def wat (ws : List (List Nat)) (i : Nat) : List Nat := (ws[i]?).getD []
theorem now_ok (n : Nat) {r p : Nat} {ws : List (List Nat)} {ln : Int} {at_ op : Nat} {h : MH} (s : RS r p ws ln at_ op h) : M (n + 1) .Reader_now [.loc r] h = .ok (.str (wat ws at_)) h := by
  obtain ⟨ds, e, z⟩ := s.ex
  have hl := z.length
  rw [M_Reader_now]
  refine fnM_of rfl ?_ rfl rfl
  have ob := s.ob
  unfold rdr at ob
  by_cases hi : at_ < ws.length
  · have ew : ws[at_]? = some ws[at_] := List.getElem?_eq_getElem hi
    obtain ⟨pl, ed⟩ := z.get at_ _ ew
    have ea : L2.atI ds (at_ : Int) = some (.tup [.str ws[at_], .int pl]) := by rw [atI_nn (by omega)]; simpa using ed
    have wt : wat ws at_ = ws[at_] := by unfold wat; rw [ew]; rfl
    have hi2 : at_ < ds.length := by omega
    unfold b_Reader_now
    simp [fnM, runB, eLit, eVar, eBin, eUn, aNil, aCons, eApp, eTup, eLst, eIf, eAnd, eOr, eNot, eChain, tVal, Mir.tAnd, Mir.tOr, Mir.tNot, Mir.tYes, sCons, sNil, sExpr, sSet, sRet, sRetN, sIf, sPass, sBreak, sCont, sBind, sPar, sAug, Mir.sPut, Mir.sFld, Mir.sFldAug, mFld, pNil, pCons, sFor, iAny, mIter, iZip, bName, bTup, bsCons, bsNil, mAdd, mAddI, mSub, mMul, mDiv, mMod, mPow, mNeg, mLt, mLe, mGt, mGe, mEq, mNe, eqD, mIsN, mNotN, mIx, mIn, mNotIn, inD, fLen, fAbs, fMax2, fMin2, fInt, fStr, itemsD, isKey, boolsD, eSlice, oNone, oSome, mSl, eMth, eMeth, methK, eMake, eFmt, eJoin, jGo, mIsi, tyN, isT, ob, e, hi, hi2, ea, wt, atI_0, List.lookup]
  · have wt : wat ws at_ = [] := by unfold wat; rw [List.getElem?_eq_none (by omega)]; rfl
    have hi2 : ¬ at_ < ds.length := by omega
    unfold b_Reader_now
    simp [fnM, runB, eLit, eVar, eBin, eUn, aNil, aCons, eApp, eTup, eLst, eIf, eAnd, eOr, eNot, eChain, tVal, Mir.tAnd, Mir.tOr, Mir.tNot, Mir.tYes, sCons, sNil, sExpr, sSet, sRet, sRetN, sIf, sPass, sBreak, sCont, sBind, sPar, sAug, Mir.sPut, Mir.sFld, Mir.sFldAug, mFld, pNil, pCons, sFor, iAny, mIter, iZip, bName, bTup, bsCons, bsNil, mAdd, mAddI, mSub, mMul, mDiv, mMod, mPow, mNeg, mLt, mLe, mGt, mGe, mEq, mNe, eqD, mIsN, mNotN, mIx, mIn, mNotIn, inD, fLen, fAbs, fMax2, fMin2, fInt, fStr, itemsD, isKey, boolsD, eSlice, oNone, oSome, mSl, eMth, eMeth, methK, eMake, eFmt, eJoin, jGo, mIsi, tyN, isT, ob, e, hi, hi2, wt, List.lookup]
theorem take_ok (n : Nat) {r p : Nat} {ws : List (List Nat)} {ln : Int} {at_ op : Nat} {h : MH} (s : RS r p ws ln at_ op h) : M (n + 2) .Reader_take [.loc r, .bl true] h = .ok (.str (wat ws at_)) (h.set r (rdr p ln ((at_ + 1 : Nat) : Int) op)) := by
  have e := now_ok n s
  have ob := s.ob
  unfold rdr at ob
  rw [M_Reader_take]
  refine fnM_of rfl ?_ rfl (by simp)
  unfold b_Reader_take
  simp [fnM, runB, eLit, eVar, eBin, eUn, aNil, aCons, eApp, eTup, eLst, eIf, eAnd, eOr, eNot, eChain, tVal, Mir.tAnd, Mir.tOr, Mir.tNot, Mir.tYes, sCons, sNil, sExpr, sSet, sRet, sRetN, sIf, sPass, sBreak, sCont, sBind, sPar, sAug, Mir.sPut, Mir.sFld, Mir.sFldAug, mFld, pNil, pCons, sFor, iAny, mIter, iZip, bName, bTup, bsCons, bsNil, mAdd, mAddI, mSub, mMul, mDiv, mMod, mPow, mNeg, mLt, mLe, mGt, mGe, mEq, mNe, eqD, mIsN, mNotN, mIx, mIn, mNotIn, inD, fLen, fAbs, fMax2, fMin2, fInt, fStr, itemsD, isKey, boolsD, eSlice, oNone, oSome, mSl, eMth, eMeth, methK, eMake, eFmt, eJoin, jGo, mIsi, tyN, isT, ob, e, rdr, Mir.putF, List.lookup]
end K65
set_option Elab.async false
set_option linter.all false
set_option maxRecDepth 100000
set_option autoImplicit false
namespace K65
open Mir
def nots : Nat → Sy → Sy
  | 0, s => s
  | k + 1, s => .not (nots k s)
def isNot : Sy → Bool
  | .not _ => true
  | _ => false
theorem nots_split : ∀ s : Sy, ∃ k b, s = nots k b ∧ isNot b = false
  | .yes => ⟨0, .yes, rfl, rfl⟩
  | .no => ⟨0, .no, rfl, rfl⟩
  | .unk w => ⟨0, .unk w, rfl, rfl⟩
  | .bin mk a b => ⟨0, .bin mk a b, rfl, rfl⟩
  | .not s => let ⟨k, b, e, h⟩ := nots_split s; ⟨k + 1, b, by rw [e]; rfl, h⟩
theorem nots_facts : ∀ (k : Nat) (b : Sy), (nots k b).toks = List.replicate k wNot ++ b.toks ∧ (nots k b).dep = b.dep + k ∧ (nots k b).bd = b.bd ∧ (nots k b).wc = b.wc + k ∧ ((nots k b).good ↔ b.good)
  | 0, b => ⟨rfl, rfl, rfl, rfl, Iff.rfl⟩
  | k + 1, b => by
    obtain ⟨h1, h2, h3, h4, h5⟩ := nots_facts k b
    refine ⟨?_, ?_, h3, ?_, h5⟩
    · show wNot :: (nots k b).toks = _
      rw [h1]; rfl
    · show (nots k b).dep + 1 = _
      omega
    · show (nots k b).wc + 1 = _
      omega
theorem wat_drop {ws l : List (List Nat)} {a : Nat} (h : ws.drop a = l) (i : Nat) : wat ws (a + i) = wat l i := by
  subst h
  unfold wat
  rw [List.getElem?_drop]
theorem Ev.trans' {m : Nat} {a b c : MH} (x : Ev m a b) (y : Ev m b c) : Ev m a c := x.trans y
noncomputable def nT (n : Nat) : MT := tVal (eBin mEq (eMeth "now" "Reader" (M (n + 2) .Reader_now) (eVar 0) aNil) (eLit (.str [110, 111, 116])))
noncomputable def nB (n : Nat) : MS := sCons (sExpr (eMeth "take" "Reader" (M (n + 2) .Reader_take) (eVar 0) (aCons (eLit (.bl true)) aNil)))
  (sAug 1 mAddI (eLit (.int 1)))
theorem not_loop (n : Nat) {r p : Nat} {ws : List (List Nat)} {ln : Int} {op : Nat} : ∀ (k at_ t : Nat) (h : MH), RS r p ws ln at_ op h → (∀ i, i < k → wat ws (at_ + i) = wNot) → wat ws (at_ + k) ≠ wNot →
    ∃ h2, sWhile (nT n) (nB n) [some (.loc r), some (.int t), none, none, none, none] h = .nx [some (.loc r), some (.int ((t + k : Nat) : Int)), none, none, none, none] h2 ∧ RS r p ws ln (at_ + k) op h2 ∧ Ev r h h2
  | 0, at_, t, h, s, _, h2 => by
    refine ⟨h, ?_, s, Ev.refl r h⟩
    have e := now_ok (n + 1) s
    have ob := s.ob
    unfold rdr at ob
    have hne : ¬ wat ws at_ = [110, 111, 116] := h2
    rw [sWhile_eq]
    have t : nT n [some (.loc r), some (.int t), none, none, none, none] h = .ok false h := by
      unfold nT
      simp [fnM, runB, eLit, eVar, eBin, eUn, aNil, aCons, eApp, eTup, eLst, eIf, eAnd, eOr, eNot, eChain, tVal, Mir.tAnd, Mir.tOr, Mir.tNot, Mir.tYes, sCons, sNil, sExpr, sSet, sRet, sRetN, sIf, sPass, sBreak, sCont, sBind, sPar, sAug, Mir.sPut, Mir.sFld, Mir.sFldAug, mFld, pNil, pCons, sFor, iAny, mIter, iZip, bName, bTup, bsCons, bsNil, mAdd, mAddI, mSub, mMul, mDiv, mMod, mPow, mNeg, mLt, mLe, mGt, mGe, mEq, mNe, eqD, mIsN, mNotN, mIx, mIn, mNotIn, inD, fLen, fAbs, fMax2, fMin2, fInt, fStr, itemsD, isKey, boolsD, eSlice, oNone, oSome, mSl, eMth, eMeth, methK, eMake, eFmt, eJoin, jGo, mIsi, tyN, isT, ob, e, List.lookup, hne]
    rw [t]
    simp
  | k + 1, at_, t, h, s, h1, h2 => by
    have e := now_ok (n + 1) s
    have e2 := take_ok n s
    have ob := s.ob
    unfold rdr at ob
    have hw : wat ws at_ = [110, 111, 116] := h1 0 (by omega)
    rw [sWhile_eq]
    have tt : nT n [some (.loc r), some (.int t), none, none, none, none] h = .ok true h := by
      unfold nT
      simp [fnM, runB, eLit, eVar, eBin, eUn, aNil, aCons, eApp, eTup, eLst, eIf, eAnd, eOr, eNot, eChain, tVal, Mir.tAnd, Mir.tOr, Mir.tNot, Mir.tYes, sCons, sNil, sExpr, sSet, sRet, sRetN, sIf, sPass, sBreak, sCont, sBind, sPar, sAug, Mir.sPut, Mir.sFld, Mir.sFldAug, mFld, pNil, pCons, sFor, iAny, mIter, iZip, bName, bTup, bsCons, bsNil, mAdd, mAddI, mSub, mMul, mDiv, mMod, mPow, mNeg, mLt, mLe, mGt, mGe, mEq, mNe, eqD, mIsN, mNotN, mIx, mIn, mNotIn, inD, fLen, fAbs, fMax2, fMin2, fInt, fStr, itemsD, isKey, boolsD, eSlice, oNone, oSome, mSl, eMth, eMeth, methK, eMake, eFmt, eJoin, jGo, mIsi, tyN, isT, ob, e, List.lookup, hw]
    have bb : nB n [some (.loc r), some (.int t), none, none, none, none] h = .nx [some (.loc r), some (.int ((t + 1 : Nat) : Int)), none, none, none, none] (h.set r (rdr p ln ((at_ + 1 : Nat) : Int) op)) := by
      unfold nB
      simp [fnM, runB, eLit, eVar, eBin, eUn, aNil, aCons, eApp, eTup, eLst, eIf, eAnd, eOr, eNot, eChain, tVal, Mir.tAnd, Mir.tOr, Mir.tNot, Mir.tYes, sCons, sNil, sExpr, sSet, sRet, sRetN, sIf, sPass, sBreak, sCont, sBind, sPar, sAug, Mir.sPut, Mir.sFld, Mir.sFldAug, mFld, pNil, pCons, sFor, iAny, mIter, iZip, bName, bTup, bsCons, bsNil, mAdd, mAddI, mSub, mMul, mDiv, mMod, mPow, mNeg, mLt, mLe, mGt, mGe, mEq, mNe, eqD, mIsN, mNotN, mIx, mIn, mNotIn, inD, fLen, fAbs, fMax2, fMin2, fInt, fStr, itemsD, isKey, boolsD, eSlice, oNone, oSome, mSl, eMth, eMeth, methK, eMake, eFmt, eJoin, jGo, mIsi, tyN, isT, ob, e2, List.lookup]
    rw [tt]
    simp only [toS_ok, if_true]
    rw [bb]
    simp only [turn_nx]
    obtain ⟨h3, a1, a2, a3⟩ := not_loop n k (at_ + 1) (t + 1) _ (s.set (at2 := at_ + 1) (op2 := op)) (fun i hi => by rw [show at_ + 1 + i = at_ + (i + 1) by omega]; exact h1 (i + 1) (by omega)) (by rw [show at_ + 1 + k = at_ + (k + 1) by omega]; exact h2)
    refine ⟨h3, ?_, by rw [show at_ + (k + 1) = at_ + 1 + k by omega]; exact a2, (Ev.set r h _).trans a3⟩
    rw [a1, show t + 1 + k = t + (k + 1) by omega]
/-- the word of an atom -/
def atomW : Sy → Option (List Nat)
  | .yes => some wYes
  | .no => some wNo
  | .unk w => some w
  | _ => none
theorem RS.cut {r p : Nat} {ws : List (List Nat)} {ln ln' : Int} {at_ op at2 op2 : Nat} {h h' h9 : MH} (s : RS r p ws ln at_ op h) (s' : RS r p ws ln' at2 op2 h') (e : ∀ i, i < h.length → h9[i]? = h'[i]?) : RS r p ws ln' at2 op2 h9 :=
  let ⟨ds, e1, _⟩ := s.ex
  let ⟨ds', e2, z⟩ := s'.ex
  ⟨by rw [e r (List.getElem?_eq_some_iff.mp s.ob).1]; exact s'.ob, ⟨ds', by rw [e p (List.getElem?_eq_some_iff.mp e1).1]; exact e2, z⟩, s.ne⟩
theorem take_ex (n : Nat) {r p : Nat} {ws : List (List Nat)} {ln : Int} {at_ op : Nat} {h : MH} (s : RS r p ws ln at_ op h) : ∃ h2, M (n + 2) .Reader_take [.loc r, .bl true] h = .ok (.str (wat ws at_)) h2 ∧ RS r p ws ln (at_ + 1) op h2 ∧ Ev r h h2 :=
  ⟨_, take_ok n s, s.set (at2 := at_ + 1) (op2 := op), Ev.set r h _⟩
theorem RS.set' {r p : Nat} {ws : List (List Nat)} {ln : Int} {at_ op op2 : Nat} {h : MH} {y : Int} (s : RS r p ws ln at_ op h) (hy : y = (op2 : Int)) : RS r p ws ln at_ op2 (h.set r (.ins "Reader" [("pieces", .loc p), ("length", .int ln), ("at", .int (at_ : Int)), ("opened", .int y)])) := by
  subst hy
  exact s.set (at2 := at_) (op2 := op2)
theorem RS.ob' {r p : Nat} {ws : List (List Nat)} {ln : Int} {at_ op : Nat} {h : MH} (s : RS r p ws ln at_ op h) : h[r]? = some (.ins "Reader" [("pieces", .loc p), ("length", .int ln), ("at", .int (at_ : Int)), ("opened", .int (op : Int))]) := s.ob
theorem pair_ok (L : Nat) {r p : Nat} {ws : List (List Nat)} {ln : Int} {at_ op : Nat} {h : MH} {mk : List Nat} {a b : Sy} {rest : List (List Nat)} (hm : mk ∈ marks)
    (ia : ∀ (at_ op : Nat) (h : MH) (rest : List (List Nat)), op + a.bd ≤ 60 → RS r p ws ln at_ op h → ws.drop at_ = a.toks ++ rest → ∃ h2, M (L + 2) .Reader_item [.loc r] h = .ok (.tup [a.toD, .int a.dep]) h2 ∧ RS r p ws ln (at_ + a.toks.length) op h2 ∧ Ev r h h2)
    (ib : ∀ (at_ op : Nat) (h : MH) (rest : List (List Nat)), op + b.bd ≤ 60 → RS r p ws ln at_ op h → ws.drop at_ = b.toks ++ rest → ∃ h2, M (L + 2) .Reader_item [.loc r] h = .ok (.tup [b.toD, .int b.dep]) h2 ∧ RS r p ws ln (at_ + b.toks.length) op h2 ∧ Ev r h h2)
    (hd : (Sy.bin mk a b).dep ≤ 60) (ho : op + (Sy.bin mk a b).bd ≤ 60) (s : RS r p ws ln at_ op h) (hw : ws.drop at_ = (Sy.bin mk a b).toks ++ rest) :
    ∃ h2, M (L + 3) .Reader_pair [.loc r] h = .ok (.tup [(Sy.bin mk a b).toD, .int (Sy.bin mk a b).dep]) h2 ∧ RS r p ws ln (at_ + (Sy.bin mk a b).toks.length) op h2 ∧ Ev r h h2 := by
  have hbd : (Sy.bin mk a b).bd = max a.bd b.bd + 1 := rfl
  have hdp : (Sy.bin mk a b).dep = max a.dep b.dep + 1 := rfl
  rw [Sy.toks_bin] at hw
  have w0 := wat_drop hw 0
  have e0 : wat ws at_ = [40] := w0
  obtain ⟨hA, e1, s1, v1⟩ := take_ex L s
  have s2 := s1.set' (y := (op : Int) + 1) (op2 := op + 1) (by omega)
  have d1 : ws.drop (at_ + 1) = a.toks ++ (mk :: (b.toks ++ [41] :: rest)) := by
    rw [← List.drop_drop, hw]
    simp
  obtain ⟨h3, e3, s3, v3⟩ := ia (at_ + 1) (op + 1) _ _ (by omega) s2 d1
  have d3 : ws.drop (at_ + 1 + a.toks.length) = mk :: (b.toks ++ [41] :: rest) := by
    rw [← List.drop_drop, d1, List.drop_left]
  have w3 : wat ws (at_ + 1 + a.toks.length) = mk := wat_drop d3 0
  have n3 := now_ok (L + 1) s3
  obtain ⟨h4, e4, s4, v4⟩ := take_ex L s3
  have d4 : ws.drop (at_ + 1 + a.toks.length + 1) = b.toks ++ ([41] :: rest) := by
    rw [← List.drop_drop, d3]; rfl
  obtain ⟨h5, e5, s5, v5⟩ := ib _ (op + 1) _ _ (by omega) s4 d4
  have d5 : ws.drop (at_ + 1 + a.toks.length + 1 + b.toks.length) = [41] :: rest := by
    rw [← List.drop_drop, d4, List.drop_left]
  have w5 : wat ws (at_ + 1 + a.toks.length + 1 + b.toks.length) = [41] := wat_drop d5 0
  have n5 := now_ok (L + 1) s5
  obtain ⟨h6, e6, s6, v6⟩ := take_ex L s5
  have s7 := s6.set' (y := ((op + 1 : Nat) : Int) - 1) (op2 := op) (by omega)
  have vA := ((((((v1.trans (Ev.set r _ _)).trans v3).trans v4).trans v5).trans v6).trans (Ev.set r h6 (.ins "Reader" [("pieces", .loc p), ("length", .int ln), ("at", .int ((at_ + 1 + a.toks.length + 1 + b.toks.length + 1 : Nat) : Int)), ("opened", .int (((op + 1 : Nat) : Int) - 1))])))
  rw [M_Reader_pair]
  have o1 := s.ob'
  have o2 := s1.ob'
  have o3 := s3.ob'
  have o4 := s4.ob'
  have o5 := s5.ob'
  generalize hq4 : ((at_ + 1 + a.toks.length + 1 : Nat) : Int) = q4 at *
  have o6 := s6.ob'
  have ho60 : (op : Int) < 60 := by omega
  have hmx : (if a.dep < b.dep then (b.dep : Int) else (a.dep : Int)) = ((max a.dep b.dep : Nat) : Int) := by split <;> omega
  have hdl : 1 + ((max a.dep b.dep : Nat) : Int) ≤ 60 := by omega
  rw [w3] at n3 e4
  rw [w5] at n5 e6
  have hmk : inD (.str mk) (.tup ([[112, 108, 117, 115], [116, 105, 109, 101, 115], [108, 101, 97, 100, 115], [97, 110, 100], [111, 114], [115, 97, 109, 101]].map D.str)) h3 = some true := by
    simp only [marks, List.mem_cons, List.not_mem_nil, or_false] at hm
    rcases hm with rfl | rfl | rfl | rfl | rfl | rfl <;> rfl
  have o2b : (hA.set r (.ins "Reader" [("pieces", .loc p), ("length", .int ln), ("at", .int ((at_ + 1 : Nat) : Int)), ("opened", .int ((op : Int) + 1))]))[r]? = some (.ins "Reader" [("pieces", .loc p), ("length", .int ln), ("at", .int ((at_ + 1 : Nat) : Int)), ("opened", .int ((op : Int) + 1))]) := by
    have := (List.getElem?_eq_some_iff.mp o2).1
    simp [this]
  have hm2 : ([112, 108, 117, 115] == mk || ([116, 105, 109, 101, 115] == mk || ([108, 101, 97, 100, 115] == mk || ([97, 110, 100] == mk || ([111, 114] == mk || [115, 97, 109, 101] == mk))))) = true := by
    simp only [marks, List.mem_cons, List.not_mem_nil, or_false] at hm
    rcases hm with rfl | rfl | rfl | rfl | rfl | rfl <;> rfl
  generalize hq1 : ((at_ + 1 : Nat) : Int) = q1 at *
  generalize hq3 : ((at_ + 1 + a.toks.length : Nat) : Int) = q3 at *
  generalize hq5 : ((at_ + 1 + a.toks.length + 1 + b.toks.length : Nat) : Int) = q5 at *
  generalize hq6 : ((at_ + 1 + a.toks.length + 1 + b.toks.length + 1 : Nat) : Int) = q6 at *
  generalize hop : ((op + 1 : Nat) : Int) = op1 at *
  have hr : runB (b_Reader_pair (M (L + 2))) 7 [.loc r] h = .ok (.tup [(Sy.bin mk a b).toD, .int (1 + ((max a.dep b.dep : Nat) : Int))]) (h6.set r (.ins "Reader" [("pieces", .loc p), ("length", .int ln), ("at", .int q6), ("opened", .int (op1 - 1))])) := by
    unfold b_Reader_pair
    simp [fnM, runB, eLit, eVar, eBin, eUn, aNil, aCons, eApp, eTup, eLst, eIf, eAnd, eOr, eNot, eChain, tVal, Mir.tAnd, Mir.tOr, Mir.tNot, Mir.tYes, sCons, sNil, sExpr, sSet, sRet, sRetN, sIf, sPass, sBreak, sCont, sBind, sPar, sAug, Mir.sPut, Mir.sFld, Mir.sFldAug, mFld, pNil, pCons, sFor, iAny, mIter, iZip, bName, bTup, bsCons, bsNil, mAdd, mAddI, mSub, mMul, mDiv, mMod, mPow, mNeg, mLt, mLe, mGt, mGe, mEq, mNe, eqD, mIsN, mNotN, mIx, mIn, mNotIn, inD, fLen, fAbs, fMax2, fMin2, fInt, fStr, itemsD, isKey, boolsD, eSlice, oNone, oSome, mSl, eMth, eMeth, methK, eMake, eFmt, eJoin, jGo, mIsi, tyN, isT, o1, o2, o3, o4, o5, o6, e0, e1, e3, n3, e4, e5, n5, e6, List.lookup, Mir.putF, ho60, hmx, hdl, Sy.toD, o2b, inP, flatD, eqF, hm2]
  rw [hdp]
  have hcast : (1 + ((max a.dep b.dep : Nat) : Int)) = ((max a.dep b.dep + 1 : Nat) : Int) := by omega
  rw [hcast] at hr
  rw [Sy.toks_bin, show at_ + ([40] :: (a.toks ++ mk :: (b.toks ++ [[41]]))).length = at_ + 1 + a.toks.length + 1 + b.toks.length + 1 by simp; omega]
  obtain ⟨h9, e9, le9, same9⟩ := fnM_ev (P := 1) rfl hr rfl (vA.le)
  exact ⟨h9, e9, s.cut s7 same9, ⟨le9, fun i hi hne => by rw [same9 i hi, vA.at_ i hi hne]⟩⟩
end K65
set_option Elab.async false
set_option linter.all false
set_option maxRecDepth 100000
set_option autoImplicit false
namespace K65
open Mir
theorem nots_toD (k : Nat) (b : Sy) : (nots (k + 1) b).toD = .tup [.str wNot, (nots k b).toD] := rfl
noncomputable def iMid (O : FN → MF) : MS := (sIf (tVal (eBin mEq (eMeth "now" "Reader" (O .Reader_now) (eVar 0) aNil) (eLit (.str [40])))) (sBind (bTup (bsCons (bName 5) (bsCons (bName 4) bsNil))) (eMeth "pair" "Reader" (O .Reader_pair) (eVar 0) aNil)) (sCons (sSet 3 (eMeth "take" "Reader" (O .Reader_take) (eVar 0) (aCons (eOr (eBin mIn (eMeth "now" "Reader" (O .Reader_now) (eVar 0) aNil) (eTup (aCons (eLit (.str [121, 101, 115])) (aCons (eLit (.str [110, 111])) aNil)))) (eApp (O .is_name) (aCons (eMeth "now" "Reader" (O .Reader_now) (eVar 0) aNil) aNil))) aNil)))
  (sPar [5, 4] (aCons (eIf (tVal (eBin mIn (eVar 3) (eTup (aCons (eLit (.str [121, 101, 115])) (aCons (eLit (.str [110, 111])) aNil))))) (eTup (aCons (eVar 3) aNil)) (eTup (aCons (eLit (.str [117, 110, 107, 110, 111, 119, 110])) (aCons (eVar 3) aNil)))) (aCons (eLit (.int 0)) aNil)))))
noncomputable def iBody : MS := (sCons (sAug 4 mAddI (eLit (.int 1)))
  (sSet 5 (eIf (tVal (eBin mLe (eVar 4) (eLit (.int 60)))) (eTup (aCons (eLit (.str [110, 111, 116])) (aCons (eVar 5) aNil))) (eVar 5))))
/-- an item whose base is read -/
theorem item_by (L : Nat) {r p : Nat} {ws : List (List Nat)} {ln : Int} {at_ op k : Nat} {h : MH} {b : Sy} {rest : List (List Nat)} (s : RS r p ws ln at_ op h) (hw : ws.drop at_ = (nots k b).toks ++ rest) (hd : (nots k b).dep ≤ 60)
    (hn : wat ws (at_ + k) ≠ wNot)
    (mid : ∀ h2, RS r p ws ln (at_ + k) op h2 → ∃ x3 h5, iMid (M (L + 2)) [some (.loc r), some (.int k), none, none, none, none] h2 = .nx [some (.loc r), some (.int k), none, x3, some (.int b.dep), some b.toD] h5 ∧ RS r p ws ln (at_ + k + b.toks.length) op h5 ∧ Ev r h2 h5) :
    ∃ h2, M (L + 3) .Reader_item [.loc r] h = .ok (.tup [(nots k b).toD, .int (nots k b).dep]) h2 ∧ RS r p ws ln (at_ + (nots k b).toks.length) op h2 ∧ Ev r h h2 := by
  obtain ⟨ft, fd, _, _, _⟩ := nots_facts k b
  have hpre : ∀ i, i < k → wat ws (at_ + i) = wNot := fun i hi => by
    rw [wat_drop hw i, ft]
    unfold wat
    rw [List.append_assoc, List.getElem?_append_left (by simpa using hi), List.getElem?_replicate, if_pos hi]
    rfl
  obtain ⟨h2, e2, s2, v2⟩ := not_loop L k at_ 0 h s hpre hn
  rw [Nat.zero_add] at e2
  obtain ⟨x3, h5, e5, s5, v5⟩ := mid h2 s2
  have hfor : ∃ ρ' h', forGo ⟨rng 0 k, []⟩ (bName 2) iBody (rng 0 k) [some (.loc r), some (.int k), none, x3, some (.int b.dep), some b.toD] h5 = .nx ρ' h' ∧ (∃ x2, ρ' = [some (.loc r), some (.int k), x2, x3, some (.int ((b.dep + k : Nat) : Int)), some (nots k b).toD] ∧ h' = h5) := by
    refine for_rng (fun j ρ h => ∃ x2, ρ = [some (.loc r), some (.int k), x2, x3, some (.int ((b.dep + j : Nat) : Int)), some (nots j b).toD] ∧ h = h5) (fun j ρ h hj ⟨x2, e1, e2⟩ => ?_) ⟨none, rfl, rfl⟩
    subst e1
    subst e2
    refine ⟨[some (.loc r), some (.int k), some (.int (0 + (j : Nat))), x3, some (.int ((b.dep + (j + 1) : Nat) : Int)), some (nots (j + 1) b).toD], h, ?_, _, rfl, rfl⟩
    have c : ((b.dep + j : Nat) : Int) + 1 = ((b.dep + (j + 1) : Nat) : Int) := by omega
    have c2 : ((b.dep + (j + 1) : Nat) : Int) ≤ 60 := by omega
    generalize ((b.dep + j : Nat) : Int) = q1 at *
    generalize ((b.dep + (j + 1) : Nat) : Int) = q2 at *
    unfold iBody
    simp [fnM, runB, eLit, eVar, eBin, eUn, aNil, aCons, eApp, eTup, eLst, eIf, eAnd, eOr, eNot, eChain, tVal, Mir.tAnd, Mir.tOr, Mir.tNot, Mir.tYes, sCons, sNil, sExpr, sSet, sRet, sRetN, sIf, sPass, sBreak, sCont, sBind, sPar, sAug, Mir.sPut, Mir.sFld, Mir.sFldAug, mFld, pNil, pCons, sFor, iAny, mIter, iZip, bName, bTup, bsCons, bsNil, mAdd, mAddI, mSub, mMul, mDiv, mMod, mPow, mNeg, mLt, mLe, mGt, mGe, mEq, mNe, eqD, mIsN, mNotN, mIx, mIn, mNotIn, inD, fLen, fAbs, fMax2, fMin2, fInt, fStr, itemsD, isKey, boolsD, eSlice, oNone, oSome, mSl, eMth, eMeth, methK, eMake, eFmt, eJoin, jGo, mIsi, tyN, isT, c, c2, nots_toD, wNot]
  obtain ⟨ρ', h', ef, x2, rfl, rfl⟩ := hfor
  have rr : iRange1 (aCons (eVar 1) aNil) [some (.loc r), some (.int k), none, x3, some (.int b.dep), some b.toD] h' = .ok ⟨rng 0 k, []⟩ h' := iRange1_nat (i := (k : Int)) (by simp [fnM, runB, eLit, eVar, eBin, eUn, aNil, aCons, eApp, eTup, eLst, eIf, eAnd, eOr, eNot, eChain, tVal, Mir.tAnd, Mir.tOr, Mir.tNot, Mir.tYes, sCons, sNil, sExpr, sSet, sRet, sRetN, sIf, sPass, sBreak, sCont, sBind, sPar, sAug, Mir.sPut, Mir.sFld, Mir.sFldAug, mFld, pNil, pCons, sFor, iAny, mIter, iZip, bName, bTup, bsCons, bsNil, mAdd, mAddI, mSub, mMul, mDiv, mMod, mPow, mNeg, mLt, mLe, mGt, mGe, mEq, mNe, eqD, mIsN, mNotN, mIx, mIn, mNotIn, inD, fLen, fAbs, fMax2, fMin2, fInt, fStr, itemsD, isKey, boolsD, eSlice, oNone, oSome, mSl, eMth, eMeth, methK, eMake, eFmt, eJoin, jGo, mIsi, tyN, isT]) rfl (by omega)
  have run : b_Reader_item (M (L + 2)) [some (.loc r), none, none, none, none, none] h = .rt (.tup [(nots k b).toD, .int ((b.dep + k : Nat) : Int)]) h' := by
    have e0 : sSet 1 (eLit (.int 0)) [some (.loc r), none, none, none, none, none] h = .nx [some (.loc r), some (.int ((0 : Nat) : Int)), none, none, none, none] h := rfl
    unfold b_Reader_item
    rw [sCons_nx e0]
    have e2' := e2
    unfold nT nB at e2'
    rw [sCons_nx e2']
    have e5' := e5
    unfold iMid at e5'
    rw [sCons_nx e5']
    have ef' := sFor_nx rr ef
    unfold iBody at ef'
    rw [sCons_nx ef']
    simp [fnM, runB, eLit, eVar, eBin, eUn, aNil, aCons, eApp, eTup, eLst, eIf, eAnd, eOr, eNot, eChain, tVal, Mir.tAnd, Mir.tOr, Mir.tNot, Mir.tYes, sCons, sNil, sExpr, sSet, sRet, sRetN, sIf, sPass, sBreak, sCont, sBind, sPar, sAug, Mir.sPut, Mir.sFld, Mir.sFldAug, mFld, pNil, pCons, sFor, iAny, mIter, iZip, bName, bTup, bsCons, bsNil, mAdd, mAddI, mSub, mMul, mDiv, mMod, mPow, mNeg, mLt, mLe, mGt, mGe, mEq, mNe, eqD, mIsN, mNotN, mIx, mIn, mNotIn, inD, fLen, fAbs, fMax2, fMin2, fInt, fStr, itemsD, isKey, boolsD, eSlice, oNone, oSome, mSl, eMth, eMeth, methK, eMake, eFmt, eJoin, jGo, mIsi, tyN, isT]
  rw [M_Reader_item]
  have hrun := runB_rt (N := 6) (ds := [.loc r]) rfl run
  obtain ⟨h9, e9, le9, same9⟩ := fnM_ev (P := 1) rfl hrun rfl (v2.trans v5).le
  rw [fd, show at_ + (nots k b).toks.length = at_ + k + b.toks.length by rw [ft]; simp; omega]
  exact ⟨h9, e9, s.cut s5 same9, ⟨le9, fun i hi hne => by rw [same9 i hi, (v2.trans v5).at_ i hi hne]⟩⟩

theorem atom_ok (L : Nat) {r p : Nat} {ws : List (List Nat)} {ln : Int} {at_ op : Nat} {h : MH} {b : Sy} {w : List Nat} {t : D} (hb : b.good) (ha : atomW b = some w) (hw : wat ws at_ = w) (s : RS r p ws ln at_ op h) :
    ∃ x3 h5, iMid (M (L + 2)) [some (.loc r), some t, none, none, none, none] h = .nx [some (.loc r), some t, none, x3, some (.int b.dep), some b.toD] h5 ∧ RS r p ws ln (at_ + b.toks.length) op h5 ∧ Ev r h h5 := by
  have n1 := now_ok (L + 1) s
  have o1 := s.ob'
  rw [hw] at n1
  cases b with
  | yes =>
    cases ha
    obtain ⟨h2, e2, s2, v2⟩ := take_ex L s
    rw [hw] at e2
    refine ⟨some (.str wYes), h2, ?_, s2, v2⟩
    unfold wYes at *
    unfold iMid
    simp [fnM, runB, eLit, eVar, eBin, eUn, aNil, aCons, eApp, eTup, eLst, eIf, eAnd, eOr, eNot, eChain, tVal, Mir.tAnd, Mir.tOr, Mir.tNot, Mir.tYes, sCons, sNil, sExpr, sSet, sRet, sRetN, sIf, sPass, sBreak, sCont, sBind, sPar, sAug, Mir.sPut, Mir.sFld, Mir.sFldAug, mFld, pNil, pCons, sFor, iAny, mIter, iZip, bName, bTup, bsCons, bsNil, mAdd, mAddI, mSub, mMul, mDiv, mMod, mPow, mNeg, mLt, mLe, mGt, mGe, mEq, mNe, eqD, mIsN, mNotN, mIx, mIn, mNotIn, inD, fLen, fAbs, fMax2, fMin2, fInt, fStr, itemsD, isKey, boolsD, eSlice, oNone, oSome, mSl, eMth, eMeth, methK, eMake, eFmt, eJoin, jGo, mIsi, tyN, isT, n1, o1, e2, List.lookup, inP, flatD, eqF, Sy.toD, Sy.dep, wYes]
  | no =>
    cases ha
    obtain ⟨h2, e2, s2, v2⟩ := take_ex L s
    rw [hw] at e2
    refine ⟨some (.str wNo), h2, ?_, s2, v2⟩
    unfold wNo at *
    unfold iMid
    simp [fnM, runB, eLit, eVar, eBin, eUn, aNil, aCons, eApp, eTup, eLst, eIf, eAnd, eOr, eNot, eChain, tVal, Mir.tAnd, Mir.tOr, Mir.tNot, Mir.tYes, sCons, sNil, sExpr, sSet, sRet, sRetN, sIf, sPass, sBreak, sCont, sBind, sPar, sAug, Mir.sPut, Mir.sFld, Mir.sFldAug, mFld, pNil, pCons, sFor, iAny, mIter, iZip, bName, bTup, bsCons, bsNil, mAdd, mAddI, mSub, mMul, mDiv, mMod, mPow, mNeg, mLt, mLe, mGt, mGe, mEq, mNe, eqD, mIsN, mNotN, mIx, mIn, mNotIn, inD, fLen, fAbs, fMax2, fMin2, fInt, fStr, itemsD, isKey, boolsD, eSlice, oNone, oSome, mSl, eMth, eMeth, methK, eMake, eFmt, eJoin, jGo, mIsi, tyN, isT, n1, o1, e2, List.lookup, inP, flatD, eqF, Sy.toD, Sy.dep, wNo]
  | unk u =>
    cases ha
    have g : Nm w := hb
    obtain ⟨hA, eA, vA⟩ := is_name_ok (L + 1) h g
    have sA := s.same vA
    have nA := now_ok (L + 1) sA
    obtain ⟨h2, e2, s2, v2⟩ := take_ex L sA
    rw [hw] at e2
    have nn := g.no
    simp only [noNames, wYes, wNo, wNot, marks, List.mem_cons, List.not_mem_nil, or_false, not_or] at nn
    obtain ⟨n3, n4, _⟩ := nn
    have n5 : ¬ w = [40] := fun z => by
      have := g.all 40 (by rw [z]; simp)
      exact (ws_no this).2.1 rfl
    refine ⟨some (.str w), h2, ?_, s2, vA.ev.trans v2⟩
    unfold iMid
    simp [fnM, runB, eLit, eVar, eBin, eUn, aNil, aCons, eApp, eTup, eLst, eIf, eAnd, eOr, eNot, eChain, tVal, Mir.tAnd, Mir.tOr, Mir.tNot, Mir.tYes, sCons, sNil, sExpr, sSet, sRet, sRetN, sIf, sPass, sBreak, sCont, sBind, sPar, sAug, Mir.sPut, Mir.sFld, Mir.sFldAug, mFld, pNil, pCons, sFor, iAny, mIter, iZip, bName, bTup, bsCons, bsNil, mAdd, mAddI, mSub, mMul, mDiv, mMod, mPow, mNeg, mLt, mLe, mGt, mGe, mEq, mNe, eqD, mIsN, mNotN, mIx, mIn, mNotIn, inD, fLen, fAbs, fMax2, fMin2, fInt, fStr, itemsD, isKey, boolsD, eSlice, oNone, oSome, mSl, eMth, eMeth, methK, eMake, eFmt, eJoin, jGo, mIsi, tyN, isT, n1, o1, e2, eA, List.lookup, inP, flatD, eqF, Sy.toD, Sy.dep, wUnk, n3, n4, n5, Ne.symm n3, Ne.symm n4]
  | not s => cases ha
  | bin mk a b => cases ha
theorem item_ok : ∀ (N : Nat) (s : Sy), s.wc ≤ N → ∀ (n : Nat) {r p : Nat} {ws : List (List Nat)} {ln : Int} {at_ op : Nat} {h : MH} {rest : List (List Nat)}, s.good → s.dep ≤ 60 → op + s.bd ≤ 60 → RS r p ws ln at_ op h → ws.drop at_ = s.toks ++ rest →
    ∃ h2, M (n + 2 * s.bd + 3) .Reader_item [.loc r] h = .ok (.tup [s.toD, .int s.dep]) h2 ∧ RS r p ws ln (at_ + s.toks.length) op h2 ∧ Ev r h h2 := by
  intro N
  induction N with
  | zero =>
    intro s hs
    cases s <;> exact absurd hs (by simp [Sy.wc])
  | succ N ih =>
    intro s hs n r p ws ln at_ op h rest hg hd ho hS hw
    obtain ⟨k, b, rfl, hb⟩ := nots_split s
    obtain ⟨f1, f2, f3, f4, f5⟩ := nots_facts k b
    have hg' := f5.mp hg
    have hwk : ∀ w ts, b.toks = w :: ts → wat ws (at_ + k) = w := fun w ts e => by
      rw [wat_drop hw k, f1, e]
      unfold wat
      rw [List.append_assoc, List.getElem?_append_right (by simp)]
      simp
    cases b with
    | not s => cases hb
    | yes =>
      have e := hwk _ _ rfl
      exact item_by (n + 2 * (nots k Sy.yes).bd) hS hw hd (by rw [e]; decide) fun h2 s2 => atom_ok _ hg' rfl e s2
    | no =>
      have e := hwk _ _ rfl
      exact item_by (n + 2 * (nots k Sy.no).bd) hS hw hd (by rw [e]; decide) fun h2 s2 => atom_ok _ hg' rfl e s2
    | unk w =>
      have e := hwk _ _ rfl
      refine item_by (n + 2 * (nots k (Sy.unk w)).bd) hS hw hd (by rw [e]; exact fun z => (Nm.no hg') (by rw [z]; decide)) fun h2 s2 => atom_ok _ hg' rfl e s2
    | bin mk a b =>
      have e := hwk _ _ rfl
      obtain ⟨g1, g2, g3⟩ := hg'
      have hbd : (nots k (Sy.bin mk a b)).bd = max a.bd b.bd + 1 := f3
      have hdp : (Sy.bin mk a b).dep = max a.dep b.dep + 1 := rfl
      have hwc : (Sy.bin mk a b).wc = a.wc + b.wc + 1 := rfl
      rw [hbd, show n + 2 * (max a.bd b.bd + 1) + 3 = (n + 2 * max a.bd b.bd + 2) + 3 by omega]
      refine item_by (n + 2 * max a.bd b.bd + 2) hS hw hd (by rw [e]; decide) fun h2 s2 => ?_
      have hw2 : ws.drop (at_ + k) = (Sy.bin mk a b).toks ++ rest := by
        rw [← List.drop_drop, hw, f1, List.append_assoc]
        rw [List.drop_append_of_le_length (by simp)]
        simp
      obtain ⟨h3, e3, s3, v3⟩ := pair_ok (n + 2 * max a.bd b.bd + 1) g1
        (fun at' op' h' rest' ho' s' hw' => by
          have := ih a (by omega) (n + 2 * (max a.bd b.bd - a.bd)) g2 (by omega) ho' s' hw'
          rwa [show n + 2 * (max a.bd b.bd - a.bd) + 2 * a.bd + 3 = n + 2 * max a.bd b.bd + 1 + 2 by omega] at this)
        (fun at' op' h' rest' ho' s' hw' => by
          have := ih b (by omega) (n + 2 * (max a.bd b.bd - b.bd)) g3 (by omega) ho' s' hw'
          rwa [show n + 2 * (max a.bd b.bd - b.bd) + 2 * b.bd + 3 = n + 2 * max a.bd b.bd + 1 + 2 by omega] at this)
        (by omega) (by rw [show (Sy.bin mk a b).bd = max a.bd b.bd + 1 from rfl]; omega) s2 hw2
      have n1 := now_ok (n + 2 * max a.bd b.bd + 2 + 1) s2
      have o1 := s2.ob'
      rw [e] at n1
      refine ⟨none, h3, ?_, s3, v3⟩
      generalize ((Sy.bin mk a b).dep : Int) = q at *
      generalize (Sy.bin mk a b).toD = dd at *
      unfold iMid
      simp [fnM, runB, eLit, eVar, eBin, eUn, aNil, aCons, eApp, eTup, eLst, eIf, eAnd, eOr, eNot, eChain, tVal, Mir.tAnd, Mir.tOr, Mir.tNot, Mir.tYes, sCons, sNil, sExpr, sSet, sRet, sRetN, sIf, sPass, sBreak, sCont, sBind, sPar, sAug, Mir.sPut, Mir.sFld, Mir.sFldAug, mFld, pNil, pCons, sFor, iAny, mIter, iZip, bName, bTup, bsCons, bsNil, mAdd, mAddI, mSub, mMul, mDiv, mMod, mPow, mNeg, mLt, mLe, mGt, mGe, mEq, mNe, eqD, mIsN, mNotN, mIx, mIn, mNotIn, inD, fLen, fAbs, fMax2, fMin2, fInt, fStr, itemsD, isKey, boolsD, eSlice, oNone, oSome, mSl, eMth, eMeth, methK, eMake, eFmt, eJoin, jGo, mIsi, tyN, isT, n1, o1, e3, List.lookup]
end K65
set_option Elab.async false
set_option linter.all false
set_option maxRecDepth 100000
set_option autoImplicit false
namespace K65
open Mir
theorem toks_len : ∀ s : Sy, s.toks.length ≤ 3 * s.wc
  | .yes => by decide
  | .no => by decide
  | .unk w => by simp [Sy.toks, Sy.wc]
  | .not s => by
    have := toks_len s
    show s.toks.length + 1 ≤ 3 * (s.wc + 1)
    omega
  | .bin mk a b => by
    have := toks_len a
    have := toks_len b
    rw [Sy.toks_bin]
    show _ ≤ 3 * (a.wc + b.wc + 1)
    simp
    omega
theorem init_ok (n : Nat) (text : List Nat) (h : MH) (hl : text.length ≤ 4000) (hg : ∀ c ∈ text, Sg c) (hw : ∀ w ∈ tk [] text, Hd w) :
    ∃ h2, M (n + 3) .Reader___init__ [.loc h.length, .str text] (h ++ [.ins "Reader" []]) = .ok .non h2 ∧ RS h.length (h.length + 1) (tk [] text) text.length 0 0 h2 ∧ h.length ≤ h2.length ∧ ∀ i, i < h.length → h2[i]? = h[i]? := by
  obtain ⟨ds, pz, e⟩ := tokens n text (h ++ [.ins "Reader" []]) (by omega) hg hw
  have hlen : (h ++ [MO.ins "Reader" []]).length = h.length + 1 := by simp
  rw [hlen] at e
  have st : ∀ (o1 o2 u : MO), (h ++ [o1, o2]).set h.length u = h ++ [u, o2] := fun o1 o2 u => by simp
  have gt : ∀ (o1 o2 : MO), (h ++ [o1, o2])[h.length]? = some o1 := fun o1 o2 => by simp
  have gt2 : ∀ (o1 o2 : MO), (h ++ [o1, o2])[h.length + 1]? = some o2 := fun o1 o2 => by simp
  rw [List.append_assoc, List.singleton_append] at e
  have l4 : text.length ≤ 100000 := by omega
  have l5 : ¬ ((4000 : Int) < (text.length : Int)) := by omega
  have run : runB (b_Reader___init__ (M (n + 2))) 2 [.loc h.length, .str text] (h ++ [.ins "Reader" []]) = .ok .non (h ++ [.ins "Reader" [("pieces", .loc (h.length + 1)), ("length", .int text.length), ("at", .int 0), ("opened", .int 0)], .lst ds]) := by
    unfold b_Reader___init__
    simp [fnM, runB, eLit, eVar, eBin, eUn, aNil, aCons, eApp, eTup, eLst, eIf, eAnd, eOr, eNot, eChain, tVal, Mir.tAnd, Mir.tOr, Mir.tNot, Mir.tYes, sCons, sNil, sExpr, sSet, sRet, sRetN, sIf, sPass, sBreak, sCont, sBind, sPar, sAug, Mir.sPut, Mir.sFld, Mir.sFldAug, mFld, pNil, pCons, sFor, iAny, mIter, iZip, bName, bTup, bsCons, bsNil, mAdd, mAddI, mSub, mMul, mDiv, mMod, mPow, mNeg, mLt, mLe, mGt, mGe, mEq, mNe, eqD, mIsN, mNotN, mIx, mIn, mNotIn, inD, fLen, fAbs, fMax2, fMin2, fInt, fStr, itemsD, isKey, boolsD, eSlice, oNone, oSome, mSl, eMth, eMeth, methK, eMake, eFmt, eJoin, jGo, mIsi, tyN, isT, e, l4, l5, st, gt, Mir.putF, List.lookup]
  refine ⟨_, fnM_keep (P := 2) rfl run rfl (i := h.length) (by simp) (gt _ _) ?_, ⟨?_, ⟨ds, gt2 _ _, pz⟩, by omega⟩, by simp, fun i hi => List.getElem?_append_left hi⟩
  · simp [MO.bel, D.bel]
  · exact gt _ _
theorem read_ok (n : Nat) (text : List Nat) (s : Sy) (h : MH) (hl : text.length ≤ 4000) (hg : ∀ c ∈ text, Sg c) (hw : ∀ w ∈ s.toks, Hd w) (ht : tk [] text = s.toks) (g : s.good) (hd : s.dep ≤ 60) (hb : s.bd ≤ 60) (hc : s.wc ≤ 300) :
    ∃ h2, M (n + 2 * s.bd + 4) .read_saying [.str text] h = .ok s.toD h2 ∧ Sm h h2 := by
  obtain ⟨h1, e1, s1, le1, a1⟩ := init_ok (n + 2 * s.bd) text h hl hg (by rw [ht]; exact hw)
  rw [ht] at s1
  obtain ⟨h2, e2, s2, v2⟩ := item_ok s.wc s (Nat.le_refl _) n (rest := []) g hd (by omega) s1 (by simp)
  have o1 := s1.ob'
  have o2 := s2.ob'
  obtain ⟨ds, ep, pz⟩ := s2.ex
  have hlen := pz.length
  rw [Nat.zero_add] at o2
  have hsame : (⟨ds, [(h.length + 1, MO.lst ds)]⟩ : Itb).same h2 = true := by
    unfold Itb.same
    simp [ep]
  have tl := toks_len s
  obtain ⟨ys, ec, hy⟩ := comp_some (I := ⟨ds, [(h.length + 1, MO.lst ds)]⟩) (b := bTup (bsCons (bName 4) (bsCons (bName 5) bsNil))) (t := tVal (eBin mNotIn (eVar 4) (eLit (.str [40, 41])))) (e := eVar 4) (ρ := [some (.str text), some (.loc h.length), some s.toD, some (.int s.dep), none, none]) (h := h2) hsame ds [] (fun x hx => by
    obtain ⟨w, pl, rfl⟩ := pz.mem x hx
    refine ⟨[some (.str text), some (.loc h.length), some s.toD, some (.int s.dep), some (.str w), some (.int pl)], !within w [40, 41], .str w, rfl, ?_, rfl⟩
    simp [fnM, runB, eLit, eVar, eBin, eUn, aNil, aCons, eApp, eTup, eLst, eIf, eAnd, eOr, eNot, eChain, tVal, Mir.tAnd, Mir.tOr, Mir.tNot, Mir.tYes, sCons, sNil, sExpr, sSet, sRet, sRetN, sIf, sPass, sBreak, sCont, sBind, sPar, sAug, Mir.sPut, Mir.sFld, Mir.sFldAug, mFld, pNil, pCons, sFor, iAny, mIter, iZip, bName, bTup, bsCons, bsNil, mAdd, mAddI, mSub, mMul, mDiv, mMod, mPow, mNeg, mLt, mLe, mGt, mGe, mEq, mNe, eqD, mIsN, mNotN, mIx, mIn, mNotIn, inD, fLen, fAbs, fMax2, fMin2, fInt, fStr, itemsD, isKey, boolsD, eSlice, oNone, oSome, mSl, eMth, eMeth, methK, eMake, eFmt, eJoin, jGo, mIsi, tyN, isT])
  rw [List.length_nil] at hy
  have hy2 : ¬ ((1000 : Int) < (ys.length : Int)) := by omega
  have hy3 : ys.length ≤ 100000 := by omega
  have hd2 : ¬ ((60 : Int) < (s.dep : Int)) := by omega
  have nlt : ¬ (s.toks.length < ds.length) := by omega
  have gl := get_last h2 (.lst ys)
  have run : runB (b_read_saying (M (n + 2 * s.bd + 3))) 6 [.str text] h = .ok s.toD (h2 ++ [.lst ys]) := by
    unfold b_read_saying
    simp [fnM, runB, eLit, eVar, eBin, eUn, aNil, aCons, eApp, eTup, eLst, eIf, eAnd, eOr, eNot, eChain, tVal, Mir.tAnd, Mir.tOr, Mir.tNot, Mir.tYes, sCons, sNil, sExpr, sSet, sRet, sRetN, sIf, sPass, sBreak, sCont, sBind, sPar, sAug, Mir.sPut, Mir.sFld, Mir.sFldAug, mFld, pNil, pCons, sFor, iAny, mIter, iZip, bName, bTup, bsCons, bsNil, mAdd, mAddI, mSub, mMul, mDiv, mMod, mPow, mNeg, mLt, mLe, mGt, mGe, mEq, mNe, eqD, mIsN, mNotN, mIx, mIn, mNotIn, inD, fLen, fAbs, fMax2, fMin2, fInt, fStr, itemsD, isKey, boolsD, eSlice, oNone, oSome, mSl, eMth, eMeth, methK, eMake, eFmt, eJoin, jGo, mIsi, tyN, isT, e1, o1, e2, o2, List.lookup, ep, nlt, eComp, wipeM, ec, hy2, hy3, gl, hd2]
  rw [M_read_saying]
  obtain ⟨h9, e9, le9, same9⟩ := fnM_ev (P := 1) rfl run (toD_loc s) (by have := v2.le; simp; omega)
  refine ⟨h9, e9, le9, fun i hi => ?_⟩
  rw [same9 i hi, List.getElem?_append_left (by have := v2.le; omega), v2.at_ i (by omega) (by omega), a1 i hi]
end K65
set_option Elab.async false
set_option linter.all false
set_option maxRecDepth 100000
set_option autoImplicit false
namespace K65
open Mir PySem PySem.NumText PySem.W PyProof.Rows
def dg (m : Nat) : List Nat := (Nat.toDigits 10 m).map Char.toNat
theorem intTx_dg (m : Nat) : intTx (m : Int) = dg m := PySem.W.KIN.signs_num m
theorem dg_all (m : Nat) : AllDigits (dg m) := by
  intro c hc
  obtain ⟨ch, hch, e⟩ := List.mem_map.mp hc
  have r := digit_range (Nat.isDigit_of_mem_toDigits (by decide) (by decide) hch)
  rw [← e]
  exact r
theorem dg_ne (m : Nat) : dg m ≠ [] := fun e => by
  have h := PyProof.Rows.tDigits_len_ge 10 m
  have := congrArg List.length e
  simp [dg] at this
theorem dg_len {m : Nat} (h : m < 10 ^ 20) : (dg m).length ≤ 20 := by
  have := PyProof.Rows.digits10_le (k := 20) (by decide) h
  simpa [dg] using this
theorem dg_read {m : Nat} (h : m < 10 ^ 20) : PySem.intText? (tx (dg m)) = some (m : Int) := by
  have hl := dg_len h
  have := intText_digits (x := tx (dg m)) (by simpa using dg_all m) (by simpa using dg_ne m) (by rw [tx_len]; omega)
  rw [this]
  have v := PySem.W.KIN.val_back m
  rw [show (tx (dg m)).cps.toList = dg m from rfl]
  unfold dg
  rw [v]
theorem dg_head : ∀ m : Nat, 1 ≤ m → ∃ c r, dg m = c :: r ∧ c ≠ 48 := by
  intro m
  induction m using Nat.strongRecOn with
  | _ m ih =>
    intro hm
    by_cases h : m < 10
    · refine ⟨(Nat.digitChar m).toNat, [], by unfold dg; rw [Nat.toDigits_of_lt_base h]; rfl, ?_⟩
      have : ∀ d : Nat, d < 10 → 1 ≤ d → (Nat.digitChar d).toNat ≠ 48 := by decide
      exact this m h hm
    · have hm2 : m % 10 < 10 := Nat.mod_lt m (by decide)
      have t : Nat.toDigits 10 (m / 10) ++ Nat.toDigits 10 (m % 10) = Nat.toDigits 10 (10 * (m / 10) + m % 10) := Nat.toDigits_append_toDigits (by decide) (by omega) hm2
      rw [Nat.div_add_mod] at t
      obtain ⟨c, r, e, hc⟩ := ih (m / 10) (by omega) (by omega)
      unfold dg at e ⊢
      rw [← t, List.map_append, e]
      exact ⟨c, _, rfl, hc⟩
theorem dg_zero : dg 0 = [48] := rfl

/-! reading digits -/
abbrev digs : List Nat := [48, 49, 50, 51, 52, 53, 54, 55, 56, 57]
theorem dig_mem {c : Nat} : c ∈ digs ↔ 48 ≤ c ∧ c ≤ 57 := by
  simp only [digs, List.mem_cons, List.not_mem_nil, or_false]
  omega
noncomputable def gT : MT := (tAnd (tVal (eBin mLt (eVar 2) (eApp fLen (aCons (eVar 0) aNil)))) (tAnd (tVal (eBin mLt (eBin mSub (eVar 2) (eVar 1)) (eLit (.int 20)))) (tVal (eBin mIn (eBin mIx (eVar 0) (eVar 2)) (eLit (.str digs))))))
noncomputable def gB : MS := (sAug 2 mAddI (eLit (.int 1)))
/-- no digit comes -/
def Stop (r : List Nat) : Prop := ∀ c r', r = c :: r' → ¬ (48 ≤ c ∧ c ≤ 57)
theorem dig_loop (text : List Nat) (p : Nat) (h : MH) (hl : text.length ≤ 100000) : ∀ (ds rest : List Nat) (q : Nat), text.drop q = ds ++ rest → AllDigits ds → p ≤ q → q - p + ds.length ≤ 20 → Stop rest → q ≤ text.length →
    sWhile gT gB [some (.str text), some (.int p), some (.int q)] h = .nx [some (.str text), some (.int p), some (.int ((q + ds.length : Nat) : Int))] h
  | [], rest, q, e, _, hp, hq, hs, hle => by
    rw [sWhile_eq]
    have t : gT [some (.str text), some (.int p), some (.int q)] h = .ok false h := by
      cases rest with
      | nil =>
        have hq' : ¬ q < text.length := by
          intro z
          rw [List.nil_append, List.drop_eq_getElem_cons z] at e
          cases e
        unfold gT
        simp [fnM, runB, eLit, eVar, eBin, eUn, aNil, aCons, eApp, eTup, eLst, eIf, eAnd, eOr, eNot, eChain, tVal, Mir.tAnd, Mir.tOr, Mir.tNot, Mir.tYes, sCons, sNil, sExpr, sSet, sRet, sRetN, sIf, sPass, sBreak, sCont, sBind, sPar, sAug, Mir.sPut, Mir.sFld, Mir.sFldAug, mFld, pNil, pCons, sFor, iAny, mIter, iZip, bName, bTup, bsCons, bsNil, mAdd, mAddI, mSub, mMul, mDiv, mMod, mPow, mNeg, mLt, mLe, mGt, mGe, mEq, mNe, eqD, mIsN, mNotN, mIx, mIn, mNotIn, inD, fLen, fAbs, fMax2, fMin2, fInt, fStr, itemsD, isKey, boolsD, eSlice, oNone, oSome, mSl, eMth, eMeth, methK, eMake, eFmt, eJoin, jGo, mIsi, tyN, isT, hl, hq']
      | cons c r =>
        obtain ⟨h1, h2, h3⟩ := at_drop e
        have nd : within [c] digs = false := by
          rw [within1, Bool.eq_false_iff]
          intro z
          exact hs c r rfl (dig_mem.mp (List.contains_iff_mem.mp z))
        by_cases h20 : (q : Int) - (p : Int) < 20
        · unfold gT
          simp [fnM, runB, eLit, eVar, eBin, eUn, aNil, aCons, eApp, eTup, eLst, eIf, eAnd, eOr, eNot, eChain, tVal, Mir.tAnd, Mir.tOr, Mir.tNot, Mir.tYes, sCons, sNil, sExpr, sSet, sRet, sRetN, sIf, sPass, sBreak, sCont, sBind, sPar, sAug, Mir.sPut, Mir.sFld, Mir.sFldAug, mFld, pNil, pCons, sFor, iAny, mIter, iZip, bName, bTup, bsCons, bsNil, mAdd, mAddI, mSub, mMul, mDiv, mMod, mPow, mNeg, mLt, mLe, mGt, mGe, mEq, mNe, eqD, mIsN, mNotN, mIx, mIn, mNotIn, inD, fLen, fAbs, fMax2, fMin2, fInt, fStr, itemsD, isKey, boolsD, eSlice, oNone, oSome, mSl, eMth, eMeth, methK, eMake, eFmt, eJoin, jGo, mIsi, tyN, isT, hl, h1, h2, h20, nd]
        · unfold gT
          simp [fnM, runB, eLit, eVar, eBin, eUn, aNil, aCons, eApp, eTup, eLst, eIf, eAnd, eOr, eNot, eChain, tVal, Mir.tAnd, Mir.tOr, Mir.tNot, Mir.tYes, sCons, sNil, sExpr, sSet, sRet, sRetN, sIf, sPass, sBreak, sCont, sBind, sPar, sAug, Mir.sPut, Mir.sFld, Mir.sFldAug, mFld, pNil, pCons, sFor, iAny, mIter, iZip, bName, bTup, bsCons, bsNil, mAdd, mAddI, mSub, mMul, mDiv, mMod, mPow, mNeg, mLt, mLe, mGt, mGe, mEq, mNe, eqD, mIsN, mNotN, mIx, mIn, mNotIn, inD, fLen, fAbs, fMax2, fMin2, fInt, fStr, itemsD, isKey, boolsD, eSlice, oNone, oSome, mSl, eMth, eMeth, methK, eMake, eFmt, eJoin, jGo, mIsi, tyN, isT, hl, h1, h2, h20, nd]
    rw [t]
    simp
  | d :: ds, rest, q, e, ha, hp, hq, hs, hle => by
    obtain ⟨h1, h2, h3⟩ := at_drop (r := ds ++ rest) e
    have nd : within [d] digs = true := by rw [within1]; exact List.contains_iff_mem.mpr (dig_mem.mpr ha.head)
    rw [List.length_cons] at hq
    have h20 : (q : Int) - (p : Int) < 20 := by omega
    rw [sWhile_eq]
    have t : gT [some (.str text), some (.int p), some (.int q)] h = .ok true h := by
      unfold gT
      simp [fnM, runB, eLit, eVar, eBin, eUn, aNil, aCons, eApp, eTup, eLst, eIf, eAnd, eOr, eNot, eChain, tVal, Mir.tAnd, Mir.tOr, Mir.tNot, Mir.tYes, sCons, sNil, sExpr, sSet, sRet, sRetN, sIf, sPass, sBreak, sCont, sBind, sPar, sAug, Mir.sPut, Mir.sFld, Mir.sFldAug, mFld, pNil, pCons, sFor, iAny, mIter, iZip, bName, bTup, bsCons, bsNil, mAdd, mAddI, mSub, mMul, mDiv, mMod, mPow, mNeg, mLt, mLe, mGt, mGe, mEq, mNe, eqD, mIsN, mNotN, mIx, mIn, mNotIn, inD, fLen, fAbs, fMax2, fMin2, fInt, fStr, itemsD, isKey, boolsD, eSlice, oNone, oSome, mSl, eMth, eMeth, methK, eMake, eFmt, eJoin, jGo, mIsi, tyN, isT, hl, h1, h2, h20, nd]
    have b : gB [some (.str text), some (.int p), some (.int q)] h = .nx [some (.str text), some (.int p), some (.int ((q + 1 : Nat) : Int))] h := by
      unfold gB
      simp [fnM, runB, eLit, eVar, eBin, eUn, aNil, aCons, eApp, eTup, eLst, eIf, eAnd, eOr, eNot, eChain, tVal, Mir.tAnd, Mir.tOr, Mir.tNot, Mir.tYes, sCons, sNil, sExpr, sSet, sRet, sRetN, sIf, sPass, sBreak, sCont, sBind, sPar, sAug, Mir.sPut, Mir.sFld, Mir.sFldAug, mFld, pNil, pCons, sFor, iAny, mIter, iZip, bName, bTup, bsCons, bsNil, mAdd, mAddI, mSub, mMul, mDiv, mMod, mPow, mNeg, mLt, mLe, mGt, mGe, mEq, mNe, eqD, mIsN, mNotN, mIx, mIn, mNotIn, inD, fLen, fAbs, fMax2, fMin2, fInt, fStr, itemsD, isKey, boolsD, eSlice, oNone, oSome, mSl, eMth, eMeth, methK, eMake, eFmt, eJoin, jGo, mIsi, tyN, isT]
    rw [t]
    simp only [toS_ok, if_true]
    rw [b]
    simp only [turn_nx]
    rw [dig_loop text p h hl ds rest (q + 1) h3 ha.tail (by omega) (by omega) hs (by omega), List.length_cons]
    rw [show q + 1 + ds.length = q + (ds.length + 1) by omega]
theorem digits_ok (n : Nat) (text : List Nat) (q m : Nat) (rest : List Nat) (h : MH) (hl : text.length ≤ 100000) (e : text.drop q = dg m ++ rest) (hm : m < 10 ^ 20) (hs : Stop rest) :
    M (n + 1) ._digits_from [.str text, .int q] h = .ok (.tup [.int m, .int ((q + (dg m).length : Nat) : Int)]) h := by
  have l20 := dg_len hm
  have hne := dg_ne m
  obtain ⟨c, r, ec⟩ : ∃ c r, dg m = c :: r := by
    cases z : dg m with
    | nil => exact absurd z hne
    | cons c r => exact ⟨c, r, rfl⟩
  have e' := e
  rw [ec] at e'
  obtain ⟨h1, h2, h3⟩ := at_drop (r := r ++ rest) e'
  have lp := dig_loop text q h hl (dg m) rest q e (dg_all m) (Nat.le_refl _) (by omega) hs (by omega)
  have hlen : 1 ≤ (dg m).length := by rw [ec]; simp
  have cut := cut_nat text q (q + (dg m).length) (by omega)
  rw [show q + (dg m).length - q = (dg m).length by omega, e, List.take_left] at cut
  have rd := dg_read hm
  have l640 : (dg m).length ≤ 640 := by omega
  have hzero : c = 48 → ¬ ((q : Int) + 1 < ((q + (dg m).length : Nat) : Int)) := by
    intro hc
    have m0 : m = 0 := by
      apply Classical.byContradiction
      intro z
      obtain ⟨c', r', e1, e2⟩ := dg_head m (by omega)
      rw [ec] at e1
      injection e1 with e3 e4
      exact e2 (by omega)
    subst m0
    have : (dg 0).length = 1 := rfl
    omega
  have hq0 : ¬ (((q + (dg m).length : Nat) : Int) = (q : Int)) := by omega
  generalize ((q + (dg m).length : Nat) : Int) = Q at *
  rw [M__digits_from]
  refine fnM_of rfl ?_ rfl rfl
  unfold gT gB at lp
  unfold b__digits_from
  by_cases hc : c = 48
  · have hz := hzero hc
    simp [fnM, runB, eLit, eVar, eBin, eUn, aNil, aCons, eApp, eTup, eLst, eIf, eAnd, eOr, eNot, eChain, tVal, Mir.tAnd, Mir.tOr, Mir.tNot, Mir.tYes, sCons, sNil, sExpr, sSet, sRet, sRetN, sIf, sPass, sBreak, sCont, sBind, sPar, sAug, Mir.sPut, Mir.sFld, Mir.sFldAug, mFld, pNil, pCons, sFor, iAny, mIter, iZip, bName, bTup, bsCons, bsNil, mAdd, mAddI, mSub, mMul, mDiv, mMod, mPow, mNeg, mLt, mLe, mGt, mGe, mEq, mNe, eqD, mIsN, mNotN, mIx, mIn, mNotIn, inD, fLen, fAbs, fMax2, fMin2, fInt, fStr, itemsD, isKey, boolsD, eSlice, oNone, oSome, mSl, eMth, eMeth, methK, eMake, eFmt, eJoin, jGo, mIsi, tyN, isT, lp, hq0, h2, hc, hz, cut, rd, l640, hl]
  · simp [fnM, runB, eLit, eVar, eBin, eUn, aNil, aCons, eApp, eTup, eLst, eIf, eAnd, eOr, eNot, eChain, tVal, Mir.tAnd, Mir.tOr, Mir.tNot, Mir.tYes, sCons, sNil, sExpr, sSet, sRet, sRetN, sIf, sPass, sBreak, sCont, sBind, sPar, sAug, Mir.sPut, Mir.sFld, Mir.sFldAug, mFld, pNil, pCons, sFor, iAny, mIter, iZip, bName, bTup, bsCons, bsNil, mAdd, mAddI, mSub, mMul, mDiv, mMod, mPow, mNeg, mLt, mLe, mGt, mGe, mEq, mNe, eqD, mIsN, mNotN, mIx, mIn, mNotIn, inD, fLen, fAbs, fMax2, fMin2, fInt, fStr, itemsD, isKey, boolsD, eSlice, oNone, oSome, mSl, eMth, eMeth, methK, eMake, eFmt, eJoin, jGo, mIsi, tyN, isT, lp, hq0, h2, hc, cut, rd, l640, hl]
end K65
set_option Elab.async false
set_option linter.all false
set_option maxRecDepth 100000
set_option autoImplicit false
namespace K65
open Mir PySem
theorem gcd_loop (T : MT) (B : MS) (x0 x1 : Option D) (h : MH) (hT : ∀ a b : Nat, T [x0, x1, some (.int a), some (.int b)] h = .ok (decide (0 < b)) h)
    (hB : ∀ a b : Nat, 0 < b → B [x0, x1, some (.int a), some (.int b)] h = .nx [x0, x1, some (.int b), some (.int ((a % b : Nat) : Int))] h) :
    ∀ (b a : Nat), sWhile T B [x0, x1, some (.int a), some (.int b)] h = .nx [x0, x1, some (.int ((Nat.gcd a b : Nat) : Int)), some (.int ((0 : Nat) : Int))] h := by
  intro b
  induction b using Nat.strongRecOn with
  | _ b ih =>
    intro a
    rw [sWhile_eq, hT]
    by_cases hb : b = 0
    · subst hb
      simp
    · have h0 : 0 < b := by omega
      have hlt := Nat.mod_lt a h0
      simp only [toS_ok, decide_eq_true h0, if_true]
      rw [hB a b h0]
      simp only [turn_nx]
      rw [ih (a % b) hlt b]
      have e : Nat.gcd b (a % b) = Nat.gcd a b := by
        rw [Nat.gcd_comm b (a % b), ← Nat.gcd_rec, Nat.gcd_comm]
      rw [e]
theorem common_ok (n : Nat) (a b : Nat) (h : MH) : M (n + 1) .common [.int a, .int b] h = .ok (.int (Nat.gcd a b)) h := by
  have lp := gcd_loop (tVal (eBin mGt (eVar 3) (eLit (.int 0)))) (sPar [2, 3] (aCons (eVar 3) (aCons (eBin mMod (eVar 2) (eVar 3)) aNil))) (some (.int a)) (some (.int b)) h
    (fun a b => by simp [fnM, runB, eLit, eVar, eBin, eUn, aNil, aCons, eApp, eTup, eLst, eIf, eAnd, eOr, eNot, eChain, tVal, Mir.tAnd, Mir.tOr, Mir.tNot, Mir.tYes, sCons, sNil, sExpr, sSet, sRet, sRetN, sIf, sPass, sBreak, sCont, sBind, sPar, sAug, Mir.sPut, Mir.sFld, Mir.sFldAug, mFld, pNil, pCons, sFor, iAny, mIter, iZip, bName, bTup, bsCons, bsNil, mAdd, mAddI, mSub, mMul, mDiv, mMod, mPow, mNeg, mLt, mLe, mGt, mGe, mEq, mNe, eqD, mIsN, mNotN, mIx, mIn, mNotIn, inD, fLen, fAbs, fMax2, fMin2, fInt, fStr, itemsD, isKey, boolsD, eSlice, oNone, oSome, mSl, eMth, eMeth, methK, eMake, eFmt, eJoin, jGo, mIsi, tyN, isT]) (fun a b hb => by simp [fnM, runB, eLit, eVar, eBin, eUn, aNil, aCons, eApp, eTup, eLst, eIf, eAnd, eOr, eNot, eChain, tVal, Mir.tAnd, Mir.tOr, Mir.tNot, Mir.tYes, sCons, sNil, sExpr, sSet, sRet, sRetN, sIf, sPass, sBreak, sCont, sBind, sPar, sAug, Mir.sPut, Mir.sFld, Mir.sFldAug, mFld, pNil, pCons, sFor, iAny, mIter, iZip, bName, bTup, bsCons, bsNil, mAdd, mAddI, mSub, mMul, mDiv, mMod, mPow, mNeg, mLt, mLe, mGt, mGe, mEq, mNe, eqD, mIsN, mNotN, mIx, mIn, mNotIn, inD, fLen, fAbs, fMax2, fMin2, fInt, fStr, itemsD, isKey, boolsD, eSlice, oNone, oSome, mSl, eMth, eMeth, methK, eMake, eFmt, eJoin, jGo, mIsi, tyN, isT, hb]) b a
  have ha : ¬ ((a : Int) < 0) := by omega
  have hb : ¬ ((b : Int) < 0) := by omega
  rw [M_common]
  refine fnM_of rfl ?_ rfl rfl
  unfold b_common
  simp [fnM, runB, eLit, eVar, eBin, eUn, aNil, aCons, eApp, eTup, eLst, eIf, eAnd, eOr, eNot, eChain, tVal, Mir.tAnd, Mir.tOr, Mir.tNot, Mir.tYes, sCons, sNil, sExpr, sSet, sRet, sRetN, sIf, sPass, sBreak, sCont, sBind, sPar, sAug, Mir.sPut, Mir.sFld, Mir.sFldAug, mFld, pNil, pCons, sFor, iAny, mIter, iZip, bName, bTup, bsCons, bsNil, mAdd, mAddI, mSub, mMul, mDiv, mMod, mPow, mNeg, mLt, mLe, mGt, mGe, mEq, mNe, eqD, mIsN, mNotN, mIx, mIn, mNotIn, inD, fLen, fAbs, fMax2, fMin2, fInt, fStr, itemsD, isKey, boolsD, eSlice, oNone, oSome, mSl, eMth, eMeth, methK, eMake, eFmt, eJoin, jGo, mIsi, tyN, isT, ha, hb, lp]
theorem div_nat (a b : Nat) : ((a : Int) / (b : Int)) = ((a / b : Nat) : Int) := (Int.natCast_ediv a b).symm
theorem log_nat {b : Nat} (h : b < 100000000000000000000000) : b.log2 < 9000 := by
  have := log_small (b := (b : Int)) (by omega) (by omega)
  simpa using this
theorem lowest_ok (n : Nat) (a b : Nat) (h : MH) (hb : 0 < b) (hb2 : b < 100000000000000000000000) : M (n + 2) .lowest [.int a, .int b] h = .ok (.tup [.int ((a / Nat.gcd a b : Nat) : Int), .int ((b / Nat.gcd a b : Nat) : Int)]) h := by
  have e := common_ok n a b h
  have hg : 0 < Nat.gcd a b := Nat.gcd_pos_of_pos_right a hb
  have hgb := Nat.gcd_le_right a hb
  have hl := log_nat (b := Nat.gcd a b) (by omega)
  have hn : ¬ ((b : Int) < 0) := by omega
  rw [M_lowest]
  refine fnM_of rfl ?_ rfl rfl
  unfold b_lowest
  generalize Nat.gcd a b = g at *
  simp [fnM, runB, eLit, eVar, eBin, eUn, aNil, aCons, eApp, eTup, eLst, eIf, eAnd, eOr, eNot, eChain, tVal, Mir.tAnd, Mir.tOr, Mir.tNot, Mir.tYes, sCons, sNil, sExpr, sSet, sRet, sRetN, sIf, sPass, sBreak, sCont, sBind, sPar, sAug, Mir.sPut, Mir.sFld, Mir.sFldAug, mFld, pNil, pCons, sFor, iAny, mIter, iZip, bName, bTup, bsCons, bsNil, mAdd, mAddI, mSub, mMul, mDiv, mMod, mPow, mNeg, mLt, mLe, mGt, mGe, mEq, mNe, eqD, mIsN, mNotN, mIx, mIn, mNotIn, inD, fLen, fAbs, fMax2, fMin2, fInt, fStr, itemsD, isKey, boolsD, eSlice, oNone, oSome, mSl, eMth, eMeth, methK, eMake, eFmt, eJoin, jGo, mIsi, tyN, isT, e, hn, hg, hl]
theorem fraction_ok (n : Nat) (a b : Nat) (h : MH) (hb : 0 < b) (hb2 : b < 100000000000000000000000) (hab : a ≤ b) : M (n + 3) .fraction [.int a, .int b] h = .ok (.tup [.int ((a / Nat.gcd a b : Nat) : Int), .int ((b / Nat.gcd a b : Nat) : Int)]) h := by
  have e := lowest_ok n a b h hb hb2
  have hle : a / Nat.gcd a b ≤ b / Nat.gcd a b := Nat.div_le_div_right hab
  have h0 : (0 : Int) ≤ ((a / Nat.gcd a b : Nat) : Int) := Int.natCast_nonneg _
  rw [M_fraction]
  refine fnM_of rfl ?_ rfl rfl
  unfold b_fraction
  generalize a / Nat.gcd a b = x at *
  generalize b / Nat.gcd a b = y at *
  have h1 : ((x : Int)) ≤ (y : Int) := by omega
  simp [fnM, runB, eLit, eVar, eBin, eUn, aNil, aCons, eApp, eTup, eLst, eIf, eAnd, eOr, eNot, eChain, tVal, Mir.tAnd, Mir.tOr, Mir.tNot, Mir.tYes, sCons, sNil, sExpr, sSet, sRet, sRetN, sIf, sPass, sBreak, sCont, sBind, sPar, sAug, Mir.sPut, Mir.sFld, Mir.sFldAug, mFld, pNil, pCons, sFor, iAny, mIter, iZip, bName, bTup, bsCons, bsNil, mAdd, mAddI, mSub, mMul, mDiv, mMod, mPow, mNeg, mLt, mLe, mGt, mGe, mEq, mNe, eqD, mIsN, mNotN, mIx, mIn, mNotIn, inD, fLen, fAbs, fMax2, fMin2, fInt, fStr, itemsD, isKey, boolsD, eSlice, oNone, oSome, mSl, eMth, eMeth, methK, eMake, eFmt, eJoin, jGo, mIsi, tyN, isT, e, atI_0, atI_1, h0, h1, hle]
theorem llow_ok (n : Nat) (a b : Nat) (h : MH) (hb : 0 < b) (hb2 : b < 100000000000000000000000) : M (n + 1) ._law_lowest [.int a, .int b] h = .ok (.tup [.int ((a / Nat.gcd a b : Nat) : Int), .int ((b / Nat.gcd a b : Nat) : Int)]) h := by
  have lp := gcd_loop (tVal (eBin mGt (eVar 3) (eLit (.int 0)))) (sPar [2, 3] (aCons (eVar 3) (aCons (eBin mMod (eApp fInt (aCons (eVar 2) aNil)) (eVar 3)) aNil))) (some (.int a)) (some (.int b)) h
    (fun a b => by simp [fnM, runB, eLit, eVar, eBin, eUn, aNil, aCons, eApp, eTup, eLst, eIf, eAnd, eOr, eNot, eChain, tVal, Mir.tAnd, Mir.tOr, Mir.tNot, Mir.tYes, sCons, sNil, sExpr, sSet, sRet, sRetN, sIf, sPass, sBreak, sCont, sBind, sPar, sAug, Mir.sPut, Mir.sFld, Mir.sFldAug, mFld, pNil, pCons, sFor, iAny, mIter, iZip, bName, bTup, bsCons, bsNil, mAdd, mAddI, mSub, mMul, mDiv, mMod, mPow, mNeg, mLt, mLe, mGt, mGe, mEq, mNe, eqD, mIsN, mNotN, mIx, mIn, mNotIn, inD, fLen, fAbs, fMax2, fMin2, fInt, fStr, itemsD, isKey, boolsD, eSlice, oNone, oSome, mSl, eMth, eMeth, methK, eMake, eFmt, eJoin, jGo, mIsi, tyN, isT]) (fun a b hb => by simp [fnM, runB, eLit, eVar, eBin, eUn, aNil, aCons, eApp, eTup, eLst, eIf, eAnd, eOr, eNot, eChain, tVal, Mir.tAnd, Mir.tOr, Mir.tNot, Mir.tYes, sCons, sNil, sExpr, sSet, sRet, sRetN, sIf, sPass, sBreak, sCont, sBind, sPar, sAug, Mir.sPut, Mir.sFld, Mir.sFldAug, mFld, pNil, pCons, sFor, iAny, mIter, iZip, bName, bTup, bsCons, bsNil, mAdd, mAddI, mSub, mMul, mDiv, mMod, mPow, mNeg, mLt, mLe, mGt, mGe, mEq, mNe, eqD, mIsN, mNotN, mIx, mIn, mNotIn, inD, fLen, fAbs, fMax2, fMin2, fInt, fStr, itemsD, isKey, boolsD, eSlice, oNone, oSome, mSl, eMth, eMeth, methK, eMake, eFmt, eJoin, jGo, mIsi, tyN, isT, hb]) b a
  have ha : ¬ ((a : Int) < 0) := by omega
  have hg : 0 < Nat.gcd a b := Nat.gcd_pos_of_pos_right a hb
  have hgb := Nat.gcd_le_right a hb
  have hl := log_nat (b := Nat.gcd a b) (by omega)
  rw [M__law_lowest]
  refine fnM_of rfl ?_ rfl rfl
  unfold b__law_lowest
  generalize Nat.gcd a b = g at *
  simp [fnM, runB, eLit, eVar, eBin, eUn, aNil, aCons, eApp, eTup, eLst, eIf, eAnd, eOr, eNot, eChain, tVal, Mir.tAnd, Mir.tOr, Mir.tNot, Mir.tYes, sCons, sNil, sExpr, sSet, sRet, sRetN, sIf, sPass, sBreak, sCont, sBind, sPar, sAug, Mir.sPut, Mir.sFld, Mir.sFldAug, mFld, pNil, pCons, sFor, iAny, mIter, iZip, bName, bTup, bsCons, bsNil, mAdd, mAddI, mSub, mMul, mDiv, mMod, mPow, mNeg, mLt, mLe, mGt, mGe, mEq, mNe, eqD, mIsN, mNotN, mIx, mIn, mNotIn, inD, fLen, fAbs, fMax2, fMin2, fInt, fStr, itemsD, isKey, boolsD, eSlice, oNone, oSome, mSl, eMth, eMeth, methK, eMake, eFmt, eJoin, jGo, mIsi, tyN, isT, ha, lp, hg, hl]
/-! texts of values -/
def vtext (x y : Nat) : List Nat := if y = 1 then dg x else dg x ++ 47 :: dg y
theorem log_fmt {b : Nat} (h : b < 100000000000000000000000) : b.log2 < 1920 := by
  by_cases z : b = 0
  · rw [z]; decide
  · exact (Nat.log2_lt z).mpr (Nat.lt_of_lt_of_le (show b < 2 ^ 100 by omega) (Nat.pow_le_pow_right (by decide) (by decide)))
theorem big20 : (100000000000000000000 : Nat) = 10 ^ 20 := by decide
theorem value_text_ok (n : Nat) (x y : Nat) (h : MH) (hx : x < 100000000000000000000) (hy : y < 100000000000000000000) : M (n + 1) .value_text [.tup [.int x, .int y]] h = .ok (.str (vtext x y)) h := by
  have l1 := dg_len (m := x) (by omega)
  have l2 := dg_len (m := y) (by omega)
  have f1 := log_fmt (b := x) (by omega)
  have f2 := log_fmt (b := y) (by omega)
  rw [M_value_text]
  refine fnM_of rfl ?_ rfl rfl
  unfold b_value_text vtext
  by_cases hy1 : y = 1
  · simp [fnM, runB, eLit, eVar, eBin, eUn, aNil, aCons, eApp, eTup, eLst, eIf, eAnd, eOr, eNot, eChain, tVal, Mir.tAnd, Mir.tOr, Mir.tNot, Mir.tYes, sCons, sNil, sExpr, sSet, sRet, sRetN, sIf, sPass, sBreak, sCont, sBind, sPar, sAug, Mir.sPut, Mir.sFld, Mir.sFldAug, mFld, pNil, pCons, sFor, iAny, mIter, iZip, bName, bTup, bsCons, bsNil, mAdd, mAddI, mSub, mMul, mDiv, mMod, mPow, mNeg, mLt, mLe, mGt, mGe, mEq, mNe, eqD, mIsN, mNotN, mIx, mIn, mNotIn, inD, fLen, fAbs, fMax2, fMin2, fInt, fStr, itemsD, isKey, boolsD, eSlice, oNone, oSome, mSl, eMth, eMeth, methK, eMake, eFmt, eJoin, jGo, mIsi, tyN, isT, atI_0, atI_1, hy1, intTx_dg, f1]
  · have : ¬ ((y : Int) = 1) := by omega
    ((try simp [fnM, runB, eLit, eVar, eBin, eUn, aNil, aCons, eApp, eTup, eLst, eIf, eAnd, eOr, eNot, eChain, tVal, Mir.tAnd, Mir.tOr, Mir.tNot, Mir.tYes, sCons, sNil, sExpr, sSet, sRet, sRetN, sIf, sPass, sBreak, sCont, sBind, sPar, sAug, Mir.sPut, Mir.sFld, Mir.sFldAug, mFld, pNil, pCons, sFor, iAny, mIter, iZip, bName, bTup, bsCons, bsNil, mAdd, mAddI, mSub, mMul, mDiv, mMod, mPow, mNeg, mLt, mLe, mGt, mGe, mEq, mNe, eqD, mIsN, mNotN, mIx, mIn, mNotIn, inD, fLen, fAbs, fMax2, fMin2, fInt, fStr, itemsD, isKey, boolsD, eSlice, oNone, oSome, mSl, eMth, eMeth, methK, eMake, eFmt, eJoin, jGo, mIsi, tyN, isT, atI_0, atI_1, hy1, this, intTx_dg, f1, f2]); repeat (rw [if_pos (by (try simp only [List.length_append, List.length_cons, List.length_nil, List.length_replicate]); omega)]; try simp [fnM, runB, eLit, eVar, eBin, eUn, aNil, aCons, eApp, eTup, eLst, eIf, eAnd, eOr, eNot, eChain, tVal, Mir.tAnd, Mir.tOr, Mir.tNot, Mir.tYes, sCons, sNil, sExpr, sSet, sRet, sRetN, sIf, sPass, sBreak, sCont, sBind, sPar, sAug, Mir.sPut, Mir.sFld, Mir.sFldAug, mFld, pNil, pCons, sFor, iAny, mIter, iZip, bName, bTup, bsCons, bsNil, mAdd, mAddI, mSub, mMul, mDiv, mMod, mPow, mNeg, mLt, mLe, mGt, mGe, mEq, mNe, eqD, mIsN, mNotN, mIx, mIn, mNotIn, inD, fLen, fAbs, fMax2, fMin2, fInt, fStr, itemsD, isKey, boolsD, eSlice, oNone, oSome, mSl, eMth, eMeth, methK, eMake, eFmt, eJoin, jGo, mIsi, tyN, isT, atI_0, atI_1, hy1, this, intTx_dg, f1, f2]))
theorem value_written_ok (n : Nat) (x y : Nat) (h : MH) (hx : x < 100000000000000000000) (hy : y < 100000000000000000000) : M (n + 1) ._law_value_written [.tup [.int x, .int y]] h = .ok (.str (vtext x y)) h := by
  have l1 := dg_len (m := x) (by omega)
  have l2 := dg_len (m := y) (by omega)
  have f1 := log_fmt (b := x) (by omega)
  have f2 := log_fmt (b := y) (by omega)
  rw [M__law_value_written]
  refine fnM_of rfl ?_ rfl rfl
  unfold b__law_value_written vtext
  by_cases hy1 : y = 1
  · simp [fnM, runB, eLit, eVar, eBin, eUn, aNil, aCons, eApp, eTup, eLst, eIf, eAnd, eOr, eNot, eChain, tVal, Mir.tAnd, Mir.tOr, Mir.tNot, Mir.tYes, sCons, sNil, sExpr, sSet, sRet, sRetN, sIf, sPass, sBreak, sCont, sBind, sPar, sAug, Mir.sPut, Mir.sFld, Mir.sFldAug, mFld, pNil, pCons, sFor, iAny, mIter, iZip, bName, bTup, bsCons, bsNil, mAdd, mAddI, mSub, mMul, mDiv, mMod, mPow, mNeg, mLt, mLe, mGt, mGe, mEq, mNe, eqD, mIsN, mNotN, mIx, mIn, mNotIn, inD, fLen, fAbs, fMax2, fMin2, fInt, fStr, itemsD, isKey, boolsD, eSlice, oNone, oSome, mSl, eMth, eMeth, methK, eMake, eFmt, eJoin, jGo, mIsi, tyN, isT, atI_0, atI_1, hy1, intTx_dg, f1]
  · have : ¬ ((y : Int) = 1) := by omega
    ((try simp [fnM, runB, eLit, eVar, eBin, eUn, aNil, aCons, eApp, eTup, eLst, eIf, eAnd, eOr, eNot, eChain, tVal, Mir.tAnd, Mir.tOr, Mir.tNot, Mir.tYes, sCons, sNil, sExpr, sSet, sRet, sRetN, sIf, sPass, sBreak, sCont, sBind, sPar, sAug, Mir.sPut, Mir.sFld, Mir.sFldAug, mFld, pNil, pCons, sFor, iAny, mIter, iZip, bName, bTup, bsCons, bsNil, mAdd, mAddI, mSub, mMul, mDiv, mMod, mPow, mNeg, mLt, mLe, mGt, mGe, mEq, mNe, eqD, mIsN, mNotN, mIx, mIn, mNotIn, inD, fLen, fAbs, fMax2, fMin2, fInt, fStr, itemsD, isKey, boolsD, eSlice, oNone, oSome, mSl, eMth, eMeth, methK, eMake, eFmt, eJoin, jGo, mIsi, tyN, isT, atI_0, atI_1, hy1, this, intTx_dg, f1, f2]); repeat (rw [if_pos (by (try simp only [List.length_append, List.length_cons, List.length_nil, List.length_replicate]); omega)]; try simp [fnM, runB, eLit, eVar, eBin, eUn, aNil, aCons, eApp, eTup, eLst, eIf, eAnd, eOr, eNot, eChain, tVal, Mir.tAnd, Mir.tOr, Mir.tNot, Mir.tYes, sCons, sNil, sExpr, sSet, sRet, sRetN, sIf, sPass, sBreak, sCont, sBind, sPar, sAug, Mir.sPut, Mir.sFld, Mir.sFldAug, mFld, pNil, pCons, sFor, iAny, mIter, iZip, bName, bTup, bsCons, bsNil, mAdd, mAddI, mSub, mMul, mDiv, mMod, mPow, mNeg, mLt, mLe, mGt, mGe, mEq, mNe, eqD, mIsN, mNotN, mIx, mIn, mNotIn, inD, fLen, fAbs, fMax2, fMin2, fInt, fStr, itemsD, isKey, boolsD, eSlice, oNone, oSome, mSl, eMth, eMeth, methK, eMake, eFmt, eJoin, jGo, mIsi, tyN, isT, atI_0, atI_1, hy1, this, intTx_dg, f1, f2]))
theorem read_frac (n : Nat) (a b : Nat) (h : MH) (hb : 0 < b) (hb2 : b < 100000000000000000000) (hab : a ≤ b) : M (n + 4) .read_value [.str (dg a ++ 47 :: dg b)] h = .ok (.tup [.int ((a / Nat.gcd a b : Nat) : Int), .int ((b / Nat.gcd a b : Nat) : Int)]) h := by
  have l1 := dg_len (m := a) (by omega)
  have l2 := dg_len (m := b) (by omega)
  have hl : (dg a ++ 47 :: dg b).length ≤ 100000 := by simp only [List.length_append, List.length_cons]; omega
  have d1 := digits_ok (n + 2) (dg a ++ 47 :: dg b) 0 a (47 :: dg b) h hl (by simp) (by omega) (fun c r e => by injection e with e1 e2; omega)
  have hd2 : (dg a ++ 47 :: dg b).drop ((dg a).length + 1) = dg b := by rw [← List.drop_drop, List.drop_left]; rfl
  have d2 := digits_ok (n + 2) (dg a ++ 47 :: dg b) ((dg a).length + 1) b [] h hl (by rw [hd2]; simp) (by omega) (fun c r e => by cases e)
  have f := fraction_ok n a b h hb (by omega) hab
  obtain ⟨h1, h2, h3⟩ := at_drop (text := dg a ++ 47 :: dg b) (q := (dg a).length) (x := 47) (r := dg b) (by rw [List.drop_left])
  obtain ⟨c, r, ec, hc⟩ := dg_head b (by omega)
  have hd3 : (dg a ++ 47 :: dg b).drop ((dg a).length + 1) = c :: r := by rw [hd2, ec]
  obtain ⟨g1, g2, g3⟩ := at_drop hd3
  have hlen : (dg a ++ 47 :: dg b).length = (dg a).length + 1 + (dg b).length := by simp; omega
  have nlt : ¬ (((dg a).length + 1 + (dg b).length : Nat) : Int) < ((dg a ++ 47 :: dg b).length : Int) := by omega
  have lt1 : (((dg a).length : Nat) : Int) < ((dg a ++ 47 :: dg b).length : Int) := by omega
  have lt2 : (((dg a).length + 1 : Nat) : Int) < ((dg a ++ 47 :: dg b).length : Int) := by omega
  rw [Nat.zero_add, show ((0 : Nat) : Int) = 0 from rfl] at d1
  have c1 : (((dg a).length : Nat) : Int) + 1 = (((dg a).length + 1 : Nat) : Int) := by omega
  generalize (((dg a).length + 1 + (dg b).length : Nat) : Int) = q3 at *
  generalize (((dg a).length + 1 : Nat) : Int) = q2 at *
  generalize (((dg a).length : Nat) : Int) = q1 at *
  generalize dg a ++ 47 :: dg b = text at *
  rw [M_read_value]
  refine fnM_of rfl ?_ rfl rfl
  unfold b_read_value
  simp [fnM, runB, eLit, eVar, eBin, eUn, aNil, aCons, eApp, eTup, eLst, eIf, eAnd, eOr, eNot, eChain, tVal, Mir.tAnd, Mir.tOr, Mir.tNot, Mir.tYes, sCons, sNil, sExpr, sSet, sRet, sRetN, sIf, sPass, sBreak, sCont, sBind, sPar, sAug, Mir.sPut, Mir.sFld, Mir.sFldAug, mFld, pNil, pCons, sFor, iAny, mIter, iZip, bName, bTup, bsCons, bsNil, mAdd, mAddI, mSub, mMul, mDiv, mMod, mPow, mNeg, mLt, mLe, mGt, mGe, mEq, mNe, eqD, mIsN, mNotN, mIx, mIn, mNotIn, inD, fLen, fAbs, fMax2, fMin2, fInt, fStr, itemsD, isKey, boolsD, eSlice, oNone, oSome, mSl, eMth, eMeth, methK, eMake, eFmt, eJoin, jGo, mIsi, tyN, isT, d1, hl, h2, c1, g2, hc, d2, f, nlt, lt1, lt2]
theorem read_int (n : Nat) (a : Nat) (h : MH) (ha : a ≤ 1) : M (n + 4) .read_value [.str (dg a)] h = .ok (.tup [.int a, .int ((1 : Nat) : Int)]) h := by
  have l1 := dg_len (m := a) (by omega)
  have d1 := digits_ok (n + 2) (dg a) 0 a [] h (by omega) (by simp) (by omega) (fun c r e => by cases e)
  have f := fraction_ok n a 1 h (by omega) (by omega) ha
  rw [Nat.gcd_one_right, Nat.div_one, Nat.div_one] at f
  rw [Nat.zero_add, show ((0 : Nat) : Int) = 0 from rfl] at d1
  rw [show ((1 : Nat) : Int) = 1 from rfl] at f ⊢
  rw [M_read_value]
  refine fnM_of rfl ?_ rfl rfl
  have hl : (dg a).length ≤ 100000 := by omega
  unfold b_read_value
  simp [fnM, runB, eLit, eVar, eBin, eUn, aNil, aCons, eApp, eTup, eLst, eIf, eAnd, eOr, eNot, eChain, tVal, Mir.tAnd, Mir.tOr, Mir.tNot, Mir.tYes, sCons, sNil, sExpr, sSet, sRet, sRetN, sIf, sPass, sBreak, sCont, sBind, sPar, sAug, Mir.sPut, Mir.sFld, Mir.sFldAug, mFld, pNil, pCons, sFor, iAny, mIter, iZip, bName, bTup, bsCons, bsNil, mAdd, mAddI, mSub, mMul, mDiv, mMod, mPow, mNeg, mLt, mLe, mGt, mGe, mEq, mNe, eqD, mIsN, mNotN, mIx, mIn, mNotIn, inD, fLen, fAbs, fMax2, fMin2, fInt, fStr, itemsD, isKey, boolsD, eSlice, oNone, oSome, mSl, eMth, eMeth, methK, eMake, eFmt, eJoin, jGo, mIsi, tyN, isT, d1, f, hl]
end K65
set_option Elab.async false
set_option linter.all false
set_option maxRecDepth 100000
set_option autoImplicit false
namespace K65
open Mir PySem
structure Vl (x y : Nat) : Prop where
  y1 : 1 ≤ y
  xy : x ≤ y
  ym : y ≤ 10000000000000000000
  cop : Nat.gcd x y = 1
def vD (x y : Nat) : D := .tup [.int x, .int y]
theorem value_ok (n : Nat) {m c : Nat} {cs : List Int} {b : Nat} {h : MH} (hs : S m c cs b h) (hb : b + 3 ≤ 1000000000) :
    Go m c cs h (b + 3) (M (n + 2) ._law_value [.loc m] h) fun d => ∃ x y, d = vD x y ∧ Vl x y := by
  have s0 := hs.push [MO.lst [.int 9, .int 1000, .int 10000000000000000000]]
  have v0 := Ev.push m h [MO.lst [.int 9, .int 1000, .int 10000000000000000000]] hs.lt.1
  obtain ⟨r, h1, e1, r0, r1, s1, v1⟩ := draw' n (below := 3) s0 (by omega) (by omega) (by omega)
  have hL := v1.get (get_last h (MO.lst [.int 9, .int 1000, .int 10000000000000000000])) (by have := hs.lt.1; omega)
  obtain ⟨v, ev, v1', v2'⟩ : ∃ v : Int, L2.atI [D.int 9, .int 1000, .int 10000000000000000000] r = some (.int v) ∧ 1 ≤ v ∧ v ≤ 10000000000000000000 := by
    have : r = 0 ∨ r = 1 ∨ r = 2 := by omega
    rcases this with rfl | rfl | rfl
    · exact ⟨9, rfl, by omega, by omega⟩
    · exact ⟨1000, rfl, by omega, by omega⟩
    · exact ⟨10000000000000000000, rfl, by omega, by omega⟩
  obtain ⟨q, h2, e2, q0, q1, s2, v2⟩ := draw' n (below := v) s1 (by omega) (by omega) (by omega)
  obtain ⟨bl, hbl⟩ : ∃ bl : Nat, 1 + q = (bl : Int) := ⟨(1 + q).toNat, by omega⟩
  obtain ⟨t, h3, e3, t0, t1, s3, v3⟩ := draw' n (below := (bl : Int) + 1) s2 (by omega) (by omega) (by omega)
  obtain ⟨a, rfl⟩ : ∃ a : Nat, t = (a : Int) := ⟨t.toNat, by omega⟩
  have e4 := llow_ok n a bl h3 (by omega) (by omega)
  have hg : 0 < Nat.gcd a bl := Nat.gcd_pos_of_pos_right a (by omega)
  have vv : Vl (a / Nat.gcd a bl) (bl / Nat.gcd a bl) := by
    refine ⟨?_, Nat.div_le_div_right (by omega), Nat.le_trans (Nat.div_le_self _ _) (by omega), by rw [Nat.gcd_div (Nat.gcd_dvd_left a bl) (Nat.gcd_dvd_right a bl), Nat.div_self hg]⟩
    exact (Nat.le_div_iff_mul_le hg).mpr (by rw [Nat.one_mul]; exact Nat.gcd_le_right a (by omega))
  rw [M__law_value]
  generalize a / Nat.gcd a bl = x at *
  generalize bl / Nat.gcd a bl = y at *
  refine go_fn (d := vD x y) (h' := h3) hs rfl ?_ rfl ⟨x, y, rfl, vv⟩ (s3.mono (by omega)) (((v0.trans v1).trans v2).trans v3)
  unfold b__law_value
  simp [fnM, runB, eLit, eVar, eBin, eUn, aNil, aCons, eApp, eTup, eLst, eIf, eAnd, eOr, eNot, eChain, tVal, Mir.tAnd, Mir.tOr, Mir.tNot, Mir.tYes, sCons, sNil, sExpr, sSet, sRet, sRetN, sIf, sPass, sBreak, sCont, sBind, sPar, sAug, Mir.sPut, Mir.sFld, Mir.sFldAug, mFld, pNil, pCons, sFor, iAny, mIter, iZip, bName, bTup, bsCons, bsNil, mAdd, mAddI, mSub, mMul, mDiv, mMod, mPow, mNeg, mLt, mLe, mGt, mGe, mEq, mNe, eqD, mIsN, mNotN, mIx, mIn, mNotIn, inD, fLen, fAbs, fMax2, fMin2, fInt, fStr, itemsD, isKey, boolsD, eSlice, oNone, oSome, mSl, eMth, eMeth, methK, eMake, eFmt, eJoin, jGo, mIsi, tyN, isT, e1, hL, ev, e2, hbl, e3, e4, vD]
theorem toStr_len {m : Nat} (h : m < 100000000000000000000) : (PyData.int (m : Int)).shown.length ≤ 20 := by
  have := dg_len (m := m) (by omega)
  rw [← intTx_dg] at this
  unfold intTx at this
  show (Str.ofString (toString (m : Int))).cps.size ≤ 20
  simpa using this
theorem list2_len (t u : Str) : (listText [t, u]).length = t.length + u.length + 4 := by
  show (((("[" : Str) ++ (("" : String) : Str) ++ t) ++ ((", " : String) : Str) ++ u) ++ (("]" : String) : Str)).length = _
  simp only [strLen_append]
  have e1 : ((("[" : String) : Str)).length = 1 := rfl
  have e2 : ((("" : String) : Str)).length = 0 := rfl
  have e3 : (((", " : String) : Str)).length = 2 := rfl
  have e4 : ((("]" : String) : Str)).length = 1 := rfl
  rw [e1, e2, e3, e4]
  omega
theorem repr_pairs {x y : Nat} (v : Vl x y) : ∃ r, ∀ (h : MH) (q : Nat), h[q]? = some (.lst [vD x y, vD x y]) → reprOf (.loc q) h = some r := by
  have x20 : x < 100000000000000000000 := by have := v.xy; have := v.ym; omega
  have y20 : y < 100000000000000000000 := by have := v.ym; omega
  have l1 := toStr_len x20
  have l2 := toStr_len y20
  have f1 := log_fmt (b := x) (by omega)
  have f2 := log_fmt (b := y) (by omega)
  have tp := tup_len [(PyData.int (x : Int)).shown, (PyData.int (y : Int)).shown]
  simp only [List.map_cons, List.map_nil, List.sum_cons, List.sum_nil, List.length_cons, List.length_nil] at tp
  have sl : (200000 : Nat) ≤ sizeLine := by decide
  refine ⟨(PyData.list [.tuple [.int x, .int y], .tuple [.int x, .int y]]).shown.cps.toList, fun h q e => ?_⟩
  have tl := list2_len (tupleText [(PyData.int (x : Int)).shown, (PyData.int (y : Int)).shown]) (tupleText [(PyData.int (x : Int)).shown, (PyData.int (y : Int)).shown])
  have tt : toPy 66 h (.loc q) = some (.list [.tuple [.int x, .int y], .tuple [.int x, .int y]]) := by
    simp [toPy, e, vD]
  unfold reprOf
  rw [tt]
  dsimp only
  exact if_pos ⟨by simp [PyData.showable, PyData.showableAll, f1, f2], by
    show (listText [tupleText [(PyData.int (x : Int)).shown, (PyData.int (y : Int)).shown], tupleText [(PyData.int (x : Int)).shown, (PyData.int (y : Int)).shown]]).length ≤ _
    omega, by
    show (2 : Nat) ≤ 66
    decide, rfl⟩
theorem vtext_small (x y : Nat) : ∀ c ∈ vtext x y, c < 16 ^ 8 := by
  intro c hc
  have d : ∀ m, ∀ c ∈ dg m, c < 16 ^ 8 := fun m c hc => by
    have := dg_all m c hc
    have e : (100 : Nat) ≤ 16 ^ 8 := by decide
    omega
  unfold vtext at hc
  split at hc
  · exact d x c hc
  · rcases List.mem_append.mp hc with hc | hc
    · exact d x c hc
    · rcases List.mem_cons.mp hc with rfl | hc
      · decide
      · exact d y c hc
theorem vtext_len {x y : Nat} (hx : x < 100000000000000000000) (hy : y < 100000000000000000000) : (vtext x y).length ≤ 41 := by
  have l1 := dg_len (m := x) (by omega)
  have l2 := dg_len (m := y) (by omega)
  unfold vtext
  split
  · omega
  · simp only [List.length_append, List.length_cons]
    omega
/-- a value read back from its text -/
theorem read_text (n : Nat) (x y : Nat) (h : MH) (v : Vl x y) : M (n + 4) .read_value [.str (vtext x y)] h = .ok (vD x y) h := by
  have := v.y1
  have := v.xy
  have := v.ym
  unfold vtext
  by_cases hy : y = 1
  · subst hy
    rw [if_pos rfl]
    exact read_int n x h v.xy
  · rw [if_neg hy, read_frac n x y h (by omega) (by omega) v.xy, v.cop, Nat.div_one, Nat.div_one]
    rfl
/-- .. from a wider one -/
theorem read_wide (n : Nat) (x y k : Nat) (h : MH) (v : Vl x y) (k1 : 1 ≤ k) (k9 : k ≤ 9) : M (n + 4) .read_value [.str (dg (x * k) ++ 47 :: dg (y * k))] h = .ok (vD x y) h := by
  have h1 := v.y1
  have h2 := v.xy
  have h3 := v.ym
  have hp : 0 < y * k := Nat.mul_pos (by omega) (by omega)
  have hb : y * k ≤ 10000000000000000000 * 9 := Nat.mul_le_mul h3 k9
  rw [read_frac n (x * k) (y * k) h hp (by omega) (Nat.mul_le_mul_right k h2), Nat.gcd_mul_right, v.cop, Nat.one_mul, Nat.mul_div_cancel _ (by omega), Nat.mul_div_cancel _ (by omega)]
  rfl
end K65
set_option Elab.async false
set_option linter.all false
set_option maxRecDepth 100000
set_option autoImplicit false
namespace K65
open Mir PySem
noncomputable def vB (O : FN → MF) : MS := (sCons (sSet 5 (eApp (O ._law_value) (aCons (eVar 0) aNil)))
  (sCons (sExpr (eMth isLst yAppend (eVar 2) (aCons (eVar 5) aNil)))
  (sCons (sPar [7, 8] (aCons (eApp (O ._law_value_written) (aCons (eVar 5) aNil)) (aCons (eBin mAdd (eLit (.int 1)) (eApp (O ._law_draw) (aCons (eVar 0) (aCons (eLit (.int 9)) aNil)))) aNil)))
  (sCons (sSet 6 (eBin mAdd (eBin mAdd (eApp fStr (aCons (eBin mMul (eBin mIx (eVar 5) (eLit (.int 0))) (eVar 8)) aNil)) (eLit (.str [47]))) (eApp fStr (aCons (eBin mMul (eBin mIx (eVar 5) (eLit (.int 1))) (eVar 8)) aNil))))
  (sCons (sIf (tVal (eBin mNe (eApp fRepr (aCons (eApp (O .value_text) (aCons (eVar 5) aNil)) aNil)) (eApp fRepr (aCons (eVar 7) aNil)))) (sRet (eLit (.bl false))) sNil)
  (sIf (tVal (eBin mNe (eApp fRepr (aCons (eLst (aCons (eApp (O .read_value) (aCons (eVar 7) aNil)) (aCons (eApp (O .read_value) (aCons (eVar 6) aNil)) aNil))) aNil)) (eApp fRepr (aCons (eLst (aCons (eVar 5) (aCons (eVar 5) aNil))) aNil)))) (sRet (eLit (.bl false))) sNil))))))
structure VI (m c k : Nat) (cs : List Int) (b : Nat) (h : MH) (j : Nat) (ρ : En) (hh : MH) : Prop where
  ex : ∃ (vs : List (Nat × Nat)) (x3 x5 x6 x7 x8 : Option D), ρ = [some (.loc m), some (.loc k), some (.loc h.length), x3, none, x5, x6, x7, x8] ∧ vs.length = j ∧ (∀ p ∈ vs, Vl p.1 p.2) ∧ hh[h.length]? = some (.lst (vs.map fun p => vD p.1 p.2))
  s : S m c cs (b + 4 * j) hh
  v : Ev m h hh
theorem vstep (n : Nat) {m c k : Nat} {cs : List Int} {b j : Nat} {h hh : MH} {ρ : En} {x : D} (hmc : m < h.length ∧ c < h.length) (hj : j < 1000) (hb : b + 10000 ≤ 1000000000) (I : VI m c k cs b h j ρ hh) :
    ∃ ρ1 ρ2 h2, bName 3 x ρ = some ρ1 ∧ vB (M (n + 4)) ρ1 hh = .nx ρ2 h2 ∧ VI m c k cs b h (j + 1) ρ2 h2 := by
  obtain ⟨⟨vs, x3, x5, x6, x7, x8, rfl, hvl, hvv, hP⟩, s0, v0⟩ := I
  obtain ⟨d, h1, e1, ⟨px, py, rfl, vl⟩, s1, v1⟩ := value_ok (n + 2) s0 (by omega)
  have hPm : h.length ≠ m := by omega
  have hPc : h.length ≠ c := by omega
  have hP1 := v1.get hP hPm
  have hPl := (List.getElem?_eq_some_iff.mp hP1).1
  -- point.append(pair)
  have s2 : S m c cs (b + 4 * j + 3) (h1.set h.length (.lst (vs.map (fun p => vD p.1 p.2) ++ [vD px py]))) := s1.same (List.getElem?_set_ne hPm) (List.getElem?_set_ne hPc)
  have v2 : Ev m h (h1.set h.length (.lst (vs.map (fun p => vD p.1 p.2) ++ [vD px py]))) := ⟨by have := v0.le; have := v1.le; simp; omega, fun i hi hne => by rw [List.getElem?_set_ne (by omega), (v0.trans v1).at_ i hi hne]⟩
  have hP2 : (h1.set h.length (.lst (vs.map (fun p => vD p.1 p.2) ++ [vD px py])))[h.length]? = some (.lst (vs.map (fun p => vD p.1 p.2) ++ [vD px py])) := by simp [hPl]
  have y1 := vl.y1
  have xy := vl.xy
  have ym := vl.ym
  have hvlen : (vs.map fun p => vD p.1 p.2).length < 100000 := by rw [List.length_map]; omega
  have hvlen2 : vs.length < 100000 := by omega
  have e2 := value_written_ok (n + 3) px py (h1.set h.length (.lst (vs.map (fun p => vD p.1 p.2) ++ [vD px py]))) (by omega) (by omega)
  obtain ⟨q, h3, e3, q0, q1, s3, v3⟩ := draw' (n + 3) (below := 9) s2 (by omega) (by omega) (by omega)
  obtain ⟨kk, hkk⟩ : ∃ kk : Nat, 1 + q = (kk : Int) := ⟨(1 + q).toNat, by omega⟩
  have hP3 := v3.get hP2 hPm
  have i1 : intTx ((px : Int) * (kk : Int)) = dg (px * kk) := by rw [← Int.natCast_mul, intTx_dg]
  have i2 : intTx ((py : Int) * (kk : Int)) = dg (py * kk) := by rw [← Int.natCast_mul, intTx_dg]
  have hy9 : py * kk ≤ 10000000000000000000 * 9 := Nat.mul_le_mul ym (by omega)
  have hx9 : px * kk ≤ py * kk := Nat.mul_le_mul_right kk xy
  have f1 := log_fmt (b := px * kk) (by omega)
  have f2 := log_fmt (b := py * kk) (by omega)
  have f1' : ((px : Int) * (kk : Int)).natAbs.log2 < 1920 := by rw [← Int.natCast_mul, Int.natAbs_natCast]; exact f1
  have f2' : ((py : Int) * (kk : Int)).natAbs.log2 < 1920 := by rw [← Int.natCast_mul, Int.natAbs_natCast]; exact f2
  have o1 : mulOk (px : Int) (kk : Int) = true := mulOk_log (a := 100) (b := 100) (by omega) (by omega) (by decide)
  have o2 : mulOk (py : Int) (kk : Int) = true := mulOk_log (a := 100) (b := 100) (by omega) (by omega) (by decide)
  have l1 := dg_len (m := px * kk) (by omega)
  have l2 := dg_len (m := py * kk) (by omega)
  have e4 := value_text_ok (n + 3) px py h3 (by omega) (by omega)
  have vl41 := vtext_len (x := px) (y := py) (by omega) (by omega)
  obtain ⟨r1, g1⟩ := repr_str (vtext px py) h3 (vtext_small px py) (by omega)
  have e5 := read_text n px py h3 vl
  have e6 := read_wide n px py kk h3 vl (by omega) (by omega)
  obtain ⟨r2, g2⟩ := repr_pairs vl
  have gA := g2 (h3 ++ [MO.lst [vD px py, vD px py]]) h3.length (get_last _ _)
  have gB := g2 (h3 ++ [MO.lst [vD px py, vD px py], MO.lst [vD px py, vD px py]]) (h3.length + 1) (by simp)
  refine ⟨_, [some (.loc m), some (.loc k), some (.loc h.length), some x, none, some (vD px py), some (.str (dg (px * kk) ++ 47 :: dg (py * kk))), some (.str (vtext px py)), some (.int (kk : Int))], h3 ++ [MO.lst [vD px py, vD px py], MO.lst [vD px py, vD px py]], rfl, ?_, ⟨vs ++ [(px, py)], _, _, _, _, _, rfl, by rw [List.length_append, hvl]; rfl, ?_, ?_⟩, ?_, ?_⟩
  · unfold vB
    unfold vD at *
    ((try simp [fnM, runB, eLit, eVar, eBin, eUn, aNil, aCons, eApp, eTup, eLst, eIf, eAnd, eOr, eNot, eChain, tVal, Mir.tAnd, Mir.tOr, Mir.tNot, Mir.tYes, sCons, sNil, sExpr, sSet, sRet, sRetN, sIf, sPass, sBreak, sCont, sBind, sPar, sAug, Mir.sPut, Mir.sFld, Mir.sFldAug, mFld, pNil, pCons, sFor, iAny, mIter, iZip, bName, bTup, bsCons, bsNil, mAdd, mAddI, mSub, mMul, mDiv, mMod, mPow, mNeg, mLt, mLe, mGt, mGe, mEq, mNe, eqD, mIsN, mNotN, mIx, mIn, mNotIn, inD, fLen, fAbs, fMax2, fMin2, fInt, fStr, itemsD, isKey, boolsD, eSlice, oNone, oSome, mSl, eMth, eMeth, methK, eMake, eFmt, eJoin, jGo, mIsi, tyN, isT, e1, hP1, isLst, yAppend, hvlen, hvlen2, e2, e3, hkk, atI_0, atI_1, o1, o2, f1', f2', i1, i2, e4, g1, fRepr, e5, e6, gA, gB]); repeat (rw [if_pos (by (try simp only [List.length_append, List.length_cons, List.length_nil, List.length_replicate]); omega)]; try simp [fnM, runB, eLit, eVar, eBin, eUn, aNil, aCons, eApp, eTup, eLst, eIf, eAnd, eOr, eNot, eChain, tVal, Mir.tAnd, Mir.tOr, Mir.tNot, Mir.tYes, sCons, sNil, sExpr, sSet, sRet, sRetN, sIf, sPass, sBreak, sCont, sBind, sPar, sAug, Mir.sPut, Mir.sFld, Mir.sFldAug, mFld, pNil, pCons, sFor, iAny, mIter, iZip, bName, bTup, bsCons, bsNil, mAdd, mAddI, mSub, mMul, mDiv, mMod, mPow, mNeg, mLt, mLe, mGt, mGe, mEq, mNe, eqD, mIsN, mNotN, mIx, mIn, mNotIn, inD, fLen, fAbs, fMax2, fMin2, fInt, fStr, itemsD, isKey, boolsD, eSlice, oNone, oSome, mSl, eMth, eMeth, methK, eMake, eFmt, eJoin, jGo, mIsi, tyN, isT, e1, hP1, isLst, yAppend, hvlen, hvlen2, e2, e3, hkk, atI_0, atI_1, o1, o2, f1', f2', i1, i2, e4, g1, fRepr, e5, e6, gA, gB]))
  · intro p hp
    rcases List.mem_append.mp hp with hp | hp
    · exact hvv p hp
    · rw [List.mem_singleton.mp hp]
      exact vl
  · rw [List.getElem?_append_left (List.getElem?_eq_some_iff.mp hP3).1, hP3]
    simp
  · exact (s3.push _).mono (by omega)
  · exact (v2.trans v3).trans (Ev.push m h3 _ s3.lt.1)
end K65
set_option Elab.async false
set_option linter.all false
set_option maxRecDepth 100000
set_option autoImplicit false
namespace K65
open Mir PySem
theorem comp_mapm {α : Type} {I : Itb} {b : MB} {t : MT} {e : ME} {ρ : En} {h : MH} (hs : I.same h = true) (g f : α → D) : ∀ (ps : List α) (acc : List D), (∀ p ∈ ps, ∃ ρ1, b (g p) ρ = some ρ1 ∧ t ρ1 h = .ok true h ∧ e ρ1 h = .ok (f p) h) → compGo I b t e ρ (ps.map g) acc h = .ok (acc ++ ps.map f) h
  | [], acc, _ => by
    unfold compGo
    rw [List.map_nil]
    dsimp only
    rw [if_pos hs]
    simp
  | p :: ps, acc, q => by
    obtain ⟨ρ1, e1, e2, e3⟩ := q p (by simp)
    rw [List.map_cons]
    unfold compGo
    rw [if_pos hs, e1]
    dsimp only
    rw [e2]
    dsimp only
    rw [if_pos rfl, e3]
    dsimp only
    rw [comp_mapm hs g f ps _ fun y hy => q y (by simp [hy])]
    simp
theorem strs_map {α : Type} (f : α → List Nat) : ∀ ps : List α, strsD (ps.map fun p => D.str (f p)) = some (ps.map f)
  | [] => rfl
  | p :: ps => by
    rw [List.map_cons, strsD, strs_map f ps]
    rfl
abbrev Pr := List Nat × (Nat × Nat)
def gP (p : Pr) : D := .tup [.str p.1, vD p.2.1 p.2.2]
def line (p : Pr) : List Nat := p.1 ++ 61 :: vtext p.2.1 p.2.2
theorem zip_pr (names : List (List Nat)) (vs : List (Nat × Nat)) : zipD (names.map .str) (vs.map fun p => vD p.1 p.2) = (names.zip vs).map gP := by
  unfold zipD
  rw [List.zip_map, List.map_map]
  rfl
structure Gd (names : List (List Nat)) (vs : List (Nat × Nat)) : Prop where
  nm : ∀ w ∈ names, Nm w
  vl : ∀ p ∈ vs, Vl p.1 p.2
  ln : names.length ≤ 100
theorem Gd.mem {names : List (List Nat)} {vs : List (Nat × Nat)} (g : Gd names vs) {p : Pr} (hp : p ∈ names.zip vs) : Nm p.1 ∧ Vl p.2.1 p.2.2 := by
  obtain ⟨a, b⟩ := p
  have := List.of_mem_zip hp
  exact ⟨g.nm _ this.1, g.vl _ this.2⟩
theorem line_len {p : Pr} (h1 : Nm p.1) (h2 : Vl p.2.1 p.2.2) : (line p).length ≤ 50 := by
  have := h1.le
  have := h2.ym
  have := h2.xy
  have := vtext_len (x := p.2.1) (y := p.2.2) (by omega) (by omega)
  unfold line
  simp only [List.length_append, List.length_cons]
  omega
theorem sum_le {ls : List (List Nat)} {B : Nat} (h : ∀ l ∈ ls, l.length ≤ B) : (ls.map (·.length)).sum ≤ B * ls.length := by
  induction ls with
  | nil => simp
  | cons l r ih =>
    have h1 := h l (by simp)
    have h2 := ih fun x hx => h x (by simp [hx])
    rw [List.map_cons, List.sum_cons, List.length_cons, Nat.mul_succ]
    omega
theorem join_small {sep : List Nat} {ls : List (List Nat)} (hs : ∀ c ∈ sep, c < 16 ^ 8) (h : ∀ l ∈ ls, ∀ c ∈ l, c < 16 ^ 8) : ∀ c ∈ joinT sep ls, c < 16 ^ 8 := by
  induction ls with
  | nil => intro c hc; cases hc
  | cons l r ih =>
    cases r with
    | nil => exact h l (by simp)
    | cons y r =>
      intro c hc
      unfold joinT at hc
      rcases List.mem_append.mp hc with hc | hc
      · rcases List.mem_append.mp hc with hc | hc
        · exact h l (by simp) c hc
        · exact hs c hc
      · exact ih (fun x hx => h x (by simp [hx])) c hc
theorem join_len {sep : List Nat} {ls : List (List Nat)} : (joinT sep ls).length ≤ (ls.map (·.length)).sum + ls.length * sep.length := by
  induction ls with
  | nil => simp [joinT]
  | cons l r ih =>
    cases r with
    | nil => simp [joinT]
    | cons y r =>
      unfold joinT
      rw [List.map_cons, List.sum_cons, List.length_append, List.length_append, List.length_cons, Nat.succ_mul]
      omega
def due (names : List (List Nat)) (vs : List (Nat × Nat)) : List Nat := joinT [44, 32] ((names.zip vs).map line)
theorem due_facts {names : List (List Nat)} {vs : List (Nat × Nat)} (g : Gd names vs) : (((names.zip vs).map line).map (·.length)).sum + ((names.zip vs).map line).length * 2 ≤ 1000000 ∧ (due names vs).length ≤ 100000 ∧ ∀ c ∈ due names vs, c < 16 ^ 8 := by
  have hl : ∀ l ∈ (names.zip vs).map line, l.length ≤ 50 := fun l hl => by
    obtain ⟨p, hp, rfl⟩ := List.mem_map.mp hl
    exact line_len (g.mem hp).1 (g.mem hp).2
  have hn : ((names.zip vs).map line).length ≤ 100 := by
    rw [List.length_map, List.length_zip]
    have := g.ln
    omega
  have hs := sum_le hl
  have hj := join_len (sep := [44, 32]) (ls := (names.zip vs).map line)
  have e2 : ([44, 32] : List Nat).length = 2 := rfl
  rw [e2] at hj
  have hm : 50 * ((names.zip vs).map line).length ≤ 5000 := by omega
  refine ⟨by omega, by unfold due; omega, join_small (by decide) fun l hl c hc => ?_⟩
  obtain ⟨p, hp, rfl⟩ := List.mem_map.mp hl
  unfold line at hc
  rcases List.mem_append.mp hc with hc | hc
  · exact ws_small ((g.mem hp).1.all c hc)
  · rcases List.mem_cons.mp hc with rfl | hc
    · decide
    · exact vtext_small _ _ c hc
theorem point_ok (n : Nat) {names : List (List Nat)} {vs : List (Nat × Nat)} (g : Gd names vs) (h : MH) :
    ∃ h2, M (n + 2) .point_text [.tup (names.map .str), .tup (vs.map fun p => vD p.1 p.2)] h = .ok (.str (due names vs)) h2 ∧ Sm h h2 := by
  obtain ⟨f1, f2, f3⟩ := due_facts g
  have cm := comp_mapm (I := ⟨(names.zip vs).map gP, []⟩) (b := bTup (bsCons (bName 2) (bsCons (bName 3) bsNil))) (t := Mir.tYes) (e := eJoin [(eFmt (eVar 2)), (eLit (.str [61])), (eFmt (eApp (M (n + 1) .value_text) (aCons (eVar 3) aNil)))])
    (ρ := [some (.tup (names.map .str)), some (.tup (vs.map fun p => vD p.1 p.2)), none, none]) (h := h) rfl gP (fun p => .str (line p)) (names.zip vs) [] (fun p hp => by
      obtain ⟨g1, g2⟩ := g.mem hp
      have l1 := g1.le
      have := g2.ym
      have := g2.xy
      have l2 := vtext_len (x := p.2.1) (y := p.2.2) (by omega) (by omega)
      have e := value_text_ok n p.2.1 p.2.2 h (by omega) (by omega)
      refine ⟨[some (.tup (names.map .str)), some (.tup (vs.map fun p => vD p.1 p.2)), some (.str p.1), some (vD p.2.1 p.2.2)], rfl, rfl, ?_⟩
      unfold line
      unfold vD
      ((try simp [fnM, runB, eLit, eVar, eBin, eUn, aNil, aCons, eApp, eTup, eLst, eIf, eAnd, eOr, eNot, eChain, tVal, Mir.tAnd, Mir.tOr, Mir.tNot, Mir.tYes, sCons, sNil, sExpr, sSet, sRet, sRetN, sIf, sPass, sBreak, sCont, sBind, sPar, sAug, Mir.sPut, Mir.sFld, Mir.sFldAug, mFld, pNil, pCons, sFor, iAny, mIter, iZip, bName, bTup, bsCons, bsNil, mAdd, mAddI, mSub, mMul, mDiv, mMod, mPow, mNeg, mLt, mLe, mGt, mGe, mEq, mNe, eqD, mIsN, mNotN, mIx, mIn, mNotIn, inD, fLen, fAbs, fMax2, fMin2, fInt, fStr, itemsD, isKey, boolsD, eSlice, oNone, oSome, mSl, eMth, eMeth, methK, eMake, eFmt, eJoin, jGo, mIsi, tyN, isT, e]); repeat (rw [if_pos (by (try simp only [List.length_append, List.length_cons, List.length_nil, List.length_replicate]); omega)]; try simp [fnM, runB, eLit, eVar, eBin, eUn, aNil, aCons, eApp, eTup, eLst, eIf, eAnd, eOr, eNot, eChain, tVal, Mir.tAnd, Mir.tOr, Mir.tNot, Mir.tYes, sCons, sNil, sExpr, sSet, sRet, sRetN, sIf, sPass, sBreak, sCont, sBind, sPar, sAug, Mir.sPut, Mir.sFld, Mir.sFldAug, mFld, pNil, pCons, sFor, iAny, mIter, iZip, bName, bTup, bsCons, bsNil, mAdd, mAddI, mSub, mMul, mDiv, mMod, mPow, mNeg, mLt, mLe, mGt, mGe, mEq, mNe, eqD, mIsN, mNotN, mIx, mIn, mNotIn, inD, fLen, fAbs, fMax2, fMin2, fInt, fStr, itemsD, isKey, boolsD, eSlice, oNone, oSome, mSl, eMth, eMeth, methK, eMake, eFmt, eJoin, jGo, mIsi, tyN, isT, e]))
      omega)
  rw [List.nil_append] at cm
  have sm := strs_map line (names.zip vs)
  have gl := get_last h (.lst ((names.zip vs).map fun p => D.str (line p)))
  have zl := zip_pr names vs
  have hlen : ((names.zip vs).map fun p => D.str (line p)).length ≤ 100000 := by
    rw [List.length_map, List.length_zip]
    have := g.ln
    omega
  have ec : eComp (iZip (aCons (eVar 0) (aCons (eVar 1) aNil))) (bTup (bsCons (bName 2) (bsCons (bName 3) bsNil))) Mir.tYes (eJoin [(eFmt (eVar 2)), (eLit (.str [61])), (eFmt (eApp (M (n + 1) .value_text) (aCons (eVar 3) aNil)))]) [2, 3] [some (.tup (names.map .str)), some (.tup (vs.map fun p => vD p.1 p.2)), none, none] h = .ok (.loc h.length) (h ++ [.lst ((names.zip vs).map fun p => D.str (line p))]) :=
    eComp_ok (I := ⟨(names.zip vs).map gP, []⟩) (by rw [← zl]; rfl) rfl cm hlen
  have run : runB (b_point_text (M (n + 1))) 4 [.tup (names.map .str), .tup (vs.map fun p => vD p.1 p.2)] h = .ok (.str (due names vs)) (h ++ [.lst ((names.zip vs).map fun p => D.str (line p))]) := by
    unfold b_point_text
    unfold due
    generalize hA : ((names.zip vs).map fun p => D.str (line p)) = A at *
    generalize hB : (names.zip vs).map line = B at *
    generalize hC : (names.zip vs).map gP = C at *
    generalize hX : names.map D.str = X at *
    generalize hY : (vs.map fun p => vD p.1 p.2) = Y at *
    generalize eJoin [(eFmt (eVar 2)), (eLit (.str [61])), (eFmt (eApp (M (n + 1) .value_text) (aCons (eVar 3) aNil)))] = J at *
    simp [fnM, runB, eLit, eVar, eBin, eUn, aNil, aCons, eApp, eTup, eLst, eIf, eAnd, eOr, eNot, eChain, tVal, Mir.tAnd, Mir.tOr, Mir.tNot, Mir.tYes, sCons, sNil, sExpr, sSet, sRet, sRetN, sIf, sPass, sBreak, sCont, sBind, sPar, sAug, Mir.sPut, Mir.sFld, Mir.sFldAug, mFld, pNil, pCons, sFor, iAny, mIter, iZip, bName, bTup, bsCons, bsNil, mAdd, mAddI, mSub, mMul, mDiv, mMod, mPow, mNeg, mLt, mLe, mGt, mGe, mEq, mNe, eqD, mIsN, mNotN, mIx, mIn, mNotIn, inD, fLen, fAbs, fMax2, fMin2, fInt, fStr, itemsD, isKey, boolsD, eSlice, oNone, oSome, mSl, eMth, eMeth, methK, eMake, eFmt, eJoin, jGo, mIsi, tyN, isT, ec, isStr, yJoin, gl, sm, f1]
  rw [M_point_text]
  obtain ⟨h9, e9, le9, same9⟩ := fnM_ev (P := 2) rfl run rfl (by simp)
  exact ⟨h9, e9, le9, fun i hi => by rw [same9 i hi, List.getElem?_append_left hi]⟩
end K65
set_option Elab.async false
set_option linter.all false
set_option maxRecDepth 100000
set_option autoImplicit false
namespace K65
open Mir PySem
theorem values_right (n : Nat) {m c k : Nat} {cs : List Int} {b : Nat} {h : MH} {names : List (List Nat)} (hs : S m c cs b h) (hk : h[k]? = some (.lst (names.map .str))) (hkm : k ≠ m) (hln : names.length ≤ 100) (hnm : ∀ w ∈ names, Nm w) (hb : b + 10000 ≤ 1000000000) :
    Go m c cs h (b + 4 * names.length) (M (n + 5) ._law_values_right [.loc m, .loc k] h) fun d => d = .bl true := by
  have hkl := (List.getElem?_eq_some_iff.mp hk).1
  have hml := hs.lt
  obtain ⟨ρ', h2, ef, ⟨vs, x3, x5, x6, x7, x8, rfl, hvl, hvv, hP⟩, s2, v2⟩ := for_all (I := ⟨names.map .str, [(k, .lst (names.map .str))]⟩) (b := bName 3) (body := vB (M (n + 4))) (VI m c k cs b h) (fun j ρ hh I => by
      have := I.v.get hk hkm
      unfold Itb.same
      simp [this]) (fun j x ρ hh hx I => vstep n hml (by have := (List.getElem?_eq_some_iff.mp hx).1; simp at this; omega) hb I)
    (ρ := [some (.loc m), some (.loc k), some (.loc h.length), none, none, none, none, none, none]) (h := h ++ [.lst []])
    ⟨⟨[], none, none, none, none, none, rfl, rfl, by simp, by simp⟩, hs.push _, Ev.push m h _ hml.1⟩
  have hvl : vs.length = names.length := by rw [hvl]; simp
  have g : Gd names vs := ⟨hnm, hvv, hln⟩
  have hk2 := v2.get hk hkm
  have efor : sFor (iAny (eVar 1)) (bName 3) (vB (M (n + 4))) [some (.loc m), some (.loc k), some (.loc h.length), none, none, none, none, none, none] (h ++ [.lst []]) = .nx [some (.loc m), some (.loc k), some (.loc h.length), x3, none, x5, x6, x7, x8] h2 := by
    refine sFor_nx (I := ⟨names.map .str, [(k, .lst (names.map .str))]⟩) ?_ ef
    have : (h ++ [MO.lst []])[k]? = some (.lst (names.map .str)) := by rw [List.getElem?_append_left hkl]; exact hk
    simp [fnM, runB, eLit, eVar, eBin, eUn, aNil, aCons, eApp, eTup, eLst, eIf, eAnd, eOr, eNot, eChain, tVal, Mir.tAnd, Mir.tOr, Mir.tNot, Mir.tYes, sCons, sNil, sExpr, sSet, sRet, sRetN, sIf, sPass, sBreak, sCont, sBind, sPar, sAug, Mir.sPut, Mir.sFld, Mir.sFldAug, mFld, pNil, pCons, sFor, iAny, mIter, iZip, bName, bTup, bsCons, bsNil, mAdd, mAddI, mSub, mMul, mDiv, mMod, mPow, mNeg, mLt, mLe, mGt, mGe, mEq, mNe, eqD, mIsN, mNotN, mIx, mIn, mNotIn, inD, fLen, fAbs, fMax2, fMin2, fInt, fStr, itemsD, isKey, boolsD, eSlice, oNone, oSome, mSl, eMth, eMeth, methK, eMake, eFmt, eJoin, jGo, mIsi, tyN, isT, this]
  obtain ⟨f1, f2, f3⟩ := due_facts g
  -- the due text
  have cm := comp_mapm (I := ⟨(names.zip vs).map gP, [(k, .lst (names.map .str)), (h.length, .lst (vs.map fun p => vD p.1 p.2))]⟩) (b := bTup (bsCons (bName 3) (bsCons (bName 5) bsNil))) (t := Mir.tYes) (e := (eBin mAdd (eBin mAdd (eVar 3) (eLit (.str [61]))) (eApp (M (n + 4) ._law_value_written) (aCons (eVar 5) aNil))))
    (ρ := [some (.loc m), some (.loc k), some (.loc h.length), none, none, none, x6, x7, x8]) (h := h2) (by unfold Itb.same; simp [hk2, hP]) gP (fun p => .str (line p)) (names.zip vs) [] (fun p hp => by
      obtain ⟨g1, g2⟩ := g.mem hp
      have l1 := g1.le
      have := g2.ym
      have := g2.xy
      have l2 := vtext_len (x := p.2.1) (y := p.2.2) (by omega) (by omega)
      have e := value_written_ok (n + 3) p.2.1 p.2.2 h2 (by omega) (by omega)
      refine ⟨[some (.loc m), some (.loc k), some (.loc h.length), some (.str p.1), none, some (vD p.2.1 p.2.2), x6, x7, x8], rfl, rfl, ?_⟩
      unfold line
      unfold vD at *
      ((try simp [fnM, runB, eLit, eVar, eBin, eUn, aNil, aCons, eApp, eTup, eLst, eIf, eAnd, eOr, eNot, eChain, tVal, Mir.tAnd, Mir.tOr, Mir.tNot, Mir.tYes, sCons, sNil, sExpr, sSet, sRet, sRetN, sIf, sPass, sBreak, sCont, sBind, sPar, sAug, Mir.sPut, Mir.sFld, Mir.sFldAug, mFld, pNil, pCons, sFor, iAny, mIter, iZip, bName, bTup, bsCons, bsNil, mAdd, mAddI, mSub, mMul, mDiv, mMod, mPow, mNeg, mLt, mLe, mGt, mGe, mEq, mNe, eqD, mIsN, mNotN, mIx, mIn, mNotIn, inD, fLen, fAbs, fMax2, fMin2, fInt, fStr, itemsD, isKey, boolsD, eSlice, oNone, oSome, mSl, eMth, eMeth, methK, eMake, eFmt, eJoin, jGo, mIsi, tyN, isT, e]); repeat (rw [if_pos (by (try simp only [List.length_append, List.length_cons, List.length_nil, List.length_replicate]); omega)]; try simp [fnM, runB, eLit, eVar, eBin, eUn, aNil, aCons, eApp, eTup, eLst, eIf, eAnd, eOr, eNot, eChain, tVal, Mir.tAnd, Mir.tOr, Mir.tNot, Mir.tYes, sCons, sNil, sExpr, sSet, sRet, sRetN, sIf, sPass, sBreak, sCont, sBind, sPar, sAug, Mir.sPut, Mir.sFld, Mir.sFldAug, mFld, pNil, pCons, sFor, iAny, mIter, iZip, bName, bTup, bsCons, bsNil, mAdd, mAddI, mSub, mMul, mDiv, mMod, mPow, mNeg, mLt, mLe, mGt, mGe, mEq, mNe, eqD, mIsN, mNotN, mIx, mIn, mNotIn, inD, fLen, fAbs, fMax2, fMin2, fInt, fStr, itemsD, isKey, boolsD, eSlice, oNone, oSome, mSl, eMth, eMeth, methK, eMake, eFmt, eJoin, jGo, mIsi, tyN, isT, e]))
      omega)
  rw [List.nil_append] at cm
  have sm := strs_map line (names.zip vs)
  have zl := zip_pr names vs
  have hlen : ((names.zip vs).map fun p => D.str (line p)).length ≤ 100000 := by
    rw [List.length_map, List.length_zip]
    omega
  have gl := get_last h2 (.lst ((names.zip vs).map fun p => D.str (line p)))
  have ec : eComp (iZip (aCons (eVar 1) (aCons (eVar 2) aNil))) (bTup (bsCons (bName 3) (bsCons (bName 5) bsNil))) Mir.tYes (eBin mAdd (eBin mAdd (eVar 3) (eLit (.str [61]))) (eApp (M (n + 4) ._law_value_written) (aCons (eVar 5) aNil))) [3, 5] [some (.loc m), some (.loc k), some (.loc h.length), x3, none, x5, x6, x7, x8] h2 = .ok (.loc h2.length) (h2 ++ [.lst ((names.zip vs).map fun p => D.str (line p))]) :=
    eComp_ok (I := ⟨(names.zip vs).map gP, [(k, .lst (names.map .str)), (h.length, .lst (vs.map fun p => vD p.1 p.2))]⟩) (by rw [← zl]; simp [fnM, runB, eLit, eVar, eBin, eUn, aNil, aCons, eApp, eTup, eLst, eIf, eAnd, eOr, eNot, eChain, tVal, Mir.tAnd, Mir.tOr, Mir.tNot, Mir.tYes, sCons, sNil, sExpr, sSet, sRet, sRetN, sIf, sPass, sBreak, sCont, sBind, sPar, sAug, Mir.sPut, Mir.sFld, Mir.sFldAug, mFld, pNil, pCons, sFor, iAny, mIter, iZip, bName, bTup, bsCons, bsNil, mAdd, mAddI, mSub, mMul, mDiv, mMod, mPow, mNeg, mLt, mLe, mGt, mGe, mEq, mNe, eqD, mIsN, mNotN, mIx, mIn, mNotIn, inD, fLen, fAbs, fMax2, fMin2, fInt, fStr, itemsD, isKey, boolsD, eSlice, oNone, oSome, mSl, eMth, eMeth, methK, eMake, eFmt, eJoin, jGo, mIsi, tyN, isT, hk2, hP]) rfl cm hlen
  have edue : sSet 4 (eMth isStr yJoin (eLit (.str [44, 32])) (aCons (eComp (iZip (aCons (eVar 1) (aCons (eVar 2) aNil))) (bTup (bsCons (bName 3) (bsCons (bName 5) bsNil))) tYes (eBin mAdd (eBin mAdd (eVar 3) (eLit (.str [61]))) (eApp (M (n + 4) ._law_value_written) (aCons (eVar 5) aNil))) [3, 5]) aNil)) [some (.loc m), some (.loc k), some (.loc h.length), x3, none, x5, x6, x7, x8] h2
      = .nx [some (.loc m), some (.loc k), some (.loc h.length), x3, some (.str (due names vs)), x5, x6, x7, x8] (h2 ++ [.lst ((names.zip vs).map fun p => D.str (line p))]) := by
    unfold due
    generalize hA : ((names.zip vs).map fun p => D.str (line p)) = A at *
    generalize hB : (names.zip vs).map line = B at *
    generalize (eBin mAdd (eBin mAdd (eVar 3) (eLit (.str [61]))) (eApp (M (n + 4) ._law_value_written) (aCons (eVar 5) aNil))) = J at *
    simp [fnM, runB, eLit, eVar, eBin, eUn, aNil, aCons, eApp, eTup, eLst, eIf, eAnd, eOr, eNot, eChain, tVal, Mir.tAnd, Mir.tOr, Mir.tNot, Mir.tYes, sCons, sNil, sExpr, sSet, sRet, sRetN, sIf, sPass, sBreak, sCont, sBind, sPar, sAug, Mir.sPut, Mir.sFld, Mir.sFldAug, mFld, pNil, pCons, sFor, iAny, mIter, iZip, bName, bTup, bsCons, bsNil, mAdd, mAddI, mSub, mMul, mDiv, mMod, mPow, mNeg, mLt, mLe, mGt, mGe, mEq, mNe, eqD, mIsN, mNotN, mIx, mIn, mNotIn, inD, fLen, fAbs, fMax2, fMin2, fInt, fStr, itemsD, isKey, boolsD, eSlice, oNone, oSome, mSl, eMth, eMeth, methK, eMake, eFmt, eJoin, jGo, mIsi, tyN, isT, ec, isStr, yJoin, gl, sm, f1]
  generalize hA : ((names.zip vs).map fun p => D.str (line p)) = A at *
  have hk3 : (h2 ++ [MO.lst A])[k]? = some (.lst (names.map .str)) := by rw [List.getElem?_append_left (List.getElem?_eq_some_iff.mp hk2).1]; exact hk2
  have hP3 : (h2 ++ [MO.lst A])[h.length]? = some (.lst (vs.map fun p => vD p.1 p.2)) := by rw [List.getElem?_append_left (List.getElem?_eq_some_iff.mp hP).1]; exact hP
  obtain ⟨h4, e4, m4⟩ := point_ok (n + 2) g (h2 ++ [MO.lst A])
  obtain ⟨h5, e5, m5⟩ := point_ok (n + 2) (names := []) (vs := []) ⟨by simp, by simp, by simp⟩ h4
  have e5' : M (n + 4) .point_text [.tup [], .tup []] h4 = .ok (.str []) h5 := e5
  obtain ⟨r4, g4⟩ := repr_str (due names vs) h4 f3 f2
  obtain ⟨r5, g5⟩ := repr_str [] h5 (by simp) (by simp)
  have ret : sRet (eAnd (eBin mEq (eApp fRepr (aCons (eApp (M (n + 4) .point_text) (aCons (eApp fTuple (aCons (eVar 1) aNil)) (aCons (eApp fTuple (aCons (eVar 2) aNil)) aNil))) aNil)) (eApp fRepr (aCons (eVar 4) aNil))) (eBin mEq (eApp fRepr (aCons (eApp (M (n + 4) .point_text) (aCons (eTup aNil) (aCons (eTup aNil) aNil))) aNil)) (eApp fRepr (aCons (eLit (.str [])) aNil))))
      [some (.loc m), some (.loc k), some (.loc h.length), x3, some (.str (due names vs)), x5, x6, x7, x8] (h2 ++ [.lst A]) = .rt (.bl true) h5 := by
    generalize names.map D.str = X at *
    generalize (vs.map fun p => vD p.1 p.2) = Y at *
    generalize due names vs = T at *
    simp [fnM, runB, eLit, eVar, eBin, eUn, aNil, aCons, eApp, eTup, eLst, eIf, eAnd, eOr, eNot, eChain, tVal, Mir.tAnd, Mir.tOr, Mir.tNot, Mir.tYes, sCons, sNil, sExpr, sSet, sRet, sRetN, sIf, sPass, sBreak, sCont, sBind, sPar, sAug, Mir.sPut, Mir.sFld, Mir.sFldAug, mFld, pNil, pCons, sFor, iAny, mIter, iZip, bName, bTup, bsCons, bsNil, mAdd, mAddI, mSub, mMul, mDiv, mMod, mPow, mNeg, mLt, mLe, mGt, mGe, mEq, mNe, eqD, mIsN, mNotN, mIx, mIn, mNotIn, inD, fLen, fAbs, fMax2, fMin2, fInt, fStr, itemsD, isKey, boolsD, eSlice, oNone, oSome, mSl, eMth, eMeth, methK, eMake, eFmt, eJoin, jGo, mIsi, tyN, isT, fTuple, hk3, hP3, e4, fRepr, g4, e5', g5]
  have run : b__law_values_right (M (n + 4)) [some (.loc m), some (.loc k), none, none, none, none, none, none, none] h = .rt (.bl true) h5 := by
    have e0 : sSet 2 (eLst aNil) [some (.loc m), some (.loc k), none, none, none, none, none, none, none] h = .nx [some (.loc m), some (.loc k), some (.loc h.length), none, none, none, none, none, none] (h ++ [.lst []]) := rfl
    unfold b__law_values_right
    rw [sCons_nx e0]
    unfold vB at efor
    rw [sCons_nx efor, sCons_nx edue]
    exact ret
  rw [M__law_values_right]
  have hrun := runB_rt (N := 9) (ds := [.loc m, .loc k]) rfl run
  have s5 : S m c cs (b + 4 * names.length) h5 := by
    have q := s2
    rw [List.length_map] at q
    have q2 := q.push [MO.lst A]
    have q3 := q2.same (m4.at_ m q2.lt.1) (m4.at_ c q2.lt.2)
    exact q3.same (m5.at_ m q3.lt.1) (m5.at_ c q3.lt.2)
  exact go_fn hs rfl hrun rfl rfl s5 (((v2.trans (Ev.push m h2 _ s2.lt.1)).trans m4.ev).trans m5.ev)
end K65
set_option Elab.async false
set_option linter.all false
set_option maxRecDepth 100000
set_option autoImplicit false
namespace K65
open Mir PySem
theorem nm_seven {w : List Nat} (h : w ∈ noNames) : Nm (w.take 2 ++ [55]) := by
  have e : (noNames.all fun w => (w.take 2 ++ [55]).head?.any (fun c => lower.contains c) && (w.take 2 ++ [55]).all (fun c => wsigns.contains c) && decide ((w.take 2 ++ [55]).length ≤ 8) && decide ((w.take 2 ++ [55]) ∉ noNames)) = true := by decide
  have q := List.all_eq_true.mp e w h
  simp only [Bool.and_eq_true] at q
  have wd := Wd.of q.1.1.1 q.1.1.2
  exact ⟨wd.hd, wd.all, of_decide_eq_true q.1.2, of_decide_eq_true q.2⟩
structure NI (m c : Nat) (cs : List Int) (b : Nat) (h : MH) (j : Nat) (ρ : En) (hh : MH) : Prop where
  ex : ∃ (w : List Nat) (x2 : Option D), ρ = [some (.loc m), some (.str w), x2, none] ∧ (∃ c r, w = c :: r ∧ c ∈ lower) ∧ (∀ c ∈ w, c ∈ wsigns) ∧ w.length = j + 1
  s : S m c cs (b + j) hh
  v : Ev m h hh
theorem atI_get {xs : List Nat} {r : Int} (h0 : 0 ≤ r) (h1 : r < xs.length) : ∃ c, c ∈ xs ∧ L2.atI xs r = some c := by
  refine ⟨xs[r.toNat]'(by omega), List.getElem_mem _, ?_⟩
  rw [atI_nn h0]
  exact List.getElem?_eq_getElem (by omega)
theorem name_ok (n : Nat) {m c : Nat} {cs : List Int} {b : Nat} {h : MH} (hs : S m c cs b h) (hb : b + 20 ≤ 1000000000) :
    Go m c cs h (b + 20) (M (n + 2) ._law_name [.loc m] h) fun d => ∃ w, d = .str w ∧ Nm w := by
  obtain ⟨r, h1, e1, r0, r1, s1, v1⟩ := draw' n (below := 26) hs (by omega) (by omega) (by omega)
  obtain ⟨c0, hc0, a0⟩ := atI_get (xs := lower) r0 r1
  obtain ⟨q, h2, e2, q0, q1, s2, v2⟩ := draw' n (below := 8) s1 (by omega) (by omega) (by omega)
  obtain ⟨K, hK⟩ : ∃ K : Nat, q = (K : Int) := ⟨q.toNat, by omega⟩
  subst hK
  obtain ⟨ρ', h3, ef, ⟨w, x2, rfl, hw1, hw2, hw3⟩, s3, v3⟩ := for_rng (i := 2) (lo := 0) (n := K) (NI m c cs (b + 2) h)
    (body := sSet 1 (eBin mAdd (eVar 1) (eBin mIx (eLit (.str wsigns)) (eApp (M (n + 1) ._law_draw) (aCons (eVar 0) (aCons (eLit (.int 36)) aNil)))))) (fun j ρ hh hj ⟨⟨w, x2, e, g1, g2, g3⟩, s0, v0⟩ => by
      subst e
      obtain ⟨t, h4, e4, t0, t1, s4, v4⟩ := draw' n (below := 36) s0 (by omega) (by omega) (by omega)
      obtain ⟨c1, hc1, a1⟩ := atI_get (xs := wsigns) t0 t1
      obtain ⟨cc, rr, ew, hc⟩ := g1
      unfold wsigns at a1
      refine ⟨[some (.loc m), some (.str (w ++ [c1])), some (.int (0 + (j : Nat))), none], h4, ?_, ⟨w ++ [c1], _, rfl, ⟨cc, rr ++ [c1], by rw [ew]; rfl, hc⟩, fun d hd => ?_, by rw [List.length_append, g3]; rfl⟩, s4.mono (by omega), v0.trans v4⟩
      · unfold wsigns
        ((try simp [fnM, runB, eLit, eVar, eBin, eUn, aNil, aCons, eApp, eTup, eLst, eIf, eAnd, eOr, eNot, eChain, tVal, Mir.tAnd, Mir.tOr, Mir.tNot, Mir.tYes, sCons, sNil, sExpr, sSet, sRet, sRetN, sIf, sPass, sBreak, sCont, sBind, sPar, sAug, Mir.sPut, Mir.sFld, Mir.sFldAug, mFld, pNil, pCons, sFor, iAny, mIter, iZip, bName, bTup, bsCons, bsNil, mAdd, mAddI, mSub, mMul, mDiv, mMod, mPow, mNeg, mLt, mLe, mGt, mGe, mEq, mNe, eqD, mIsN, mNotN, mIx, mIn, mNotIn, inD, fLen, fAbs, fMax2, fMin2, fInt, fStr, itemsD, isKey, boolsD, eSlice, oNone, oSome, mSl, eMth, eMeth, methK, eMake, eFmt, eJoin, jGo, mIsi, tyN, isT, e4, a1]); repeat (rw [if_pos (by (try simp only [List.length_append, List.length_cons, List.length_nil, List.length_replicate]); omega)]; try simp [fnM, runB, eLit, eVar, eBin, eUn, aNil, aCons, eApp, eTup, eLst, eIf, eAnd, eOr, eNot, eChain, tVal, Mir.tAnd, Mir.tOr, Mir.tNot, Mir.tYes, sCons, sNil, sExpr, sSet, sRet, sRetN, sIf, sPass, sBreak, sCont, sBind, sPar, sAug, Mir.sPut, Mir.sFld, Mir.sFldAug, mFld, pNil, pCons, sFor, iAny, mIter, iZip, bName, bTup, bsCons, bsNil, mAdd, mAddI, mSub, mMul, mDiv, mMod, mPow, mNeg, mLt, mLe, mGt, mGe, mEq, mNe, eqD, mIsN, mNotN, mIx, mIn, mNotIn, inD, fLen, fAbs, fMax2, fMin2, fInt, fStr, itemsD, isKey, boolsD, eSlice, oNone, oSome, mSl, eMth, eMeth, methK, eMake, eFmt, eJoin, jGo, mIsi, tyN, isT, e4, a1]))
      · rcases List.mem_append.mp hd with hd | hd
        · exact g2 d hd
        · rw [List.mem_singleton.mp hd]; exact hc1)
    (ρ := [some (.loc m), some (.str [c0]), none, none]) (h := h2) ⟨⟨[c0], none, rfl, ⟨c0, [], rfl, hc0⟩, fun d hd => by rw [List.mem_singleton.mp hd]; exact (low_no hc0).1, rfl⟩, s2, v1.trans v2⟩
  have e0 : sSet 1 (eBin mIx (eLit (.str lower)) (eApp (M (n + 1) ._law_draw) (aCons (eVar 0) (aCons (eLit (.int 26)) aNil)))) [some (.loc m), none, none, none] h = .nx [some (.loc m), some (.str [c0]), none, none] h1 := by
    unfold lower at *
    simp [fnM, runB, eLit, eVar, eBin, eUn, aNil, aCons, eApp, eTup, eLst, eIf, eAnd, eOr, eNot, eChain, tVal, Mir.tAnd, Mir.tOr, Mir.tNot, Mir.tYes, sCons, sNil, sExpr, sSet, sRet, sRetN, sIf, sPass, sBreak, sCont, sBind, sPar, sAug, Mir.sPut, Mir.sFld, Mir.sFldAug, mFld, pNil, pCons, sFor, iAny, mIter, iZip, bName, bTup, bsCons, bsNil, mAdd, mAddI, mSub, mMul, mDiv, mMod, mPow, mNeg, mLt, mLe, mGt, mGe, mEq, mNe, eqD, mIsN, mNotN, mIx, mIn, mNotIn, inD, fLen, fAbs, fMax2, fMin2, fInt, fStr, itemsD, isKey, boolsD, eSlice, oNone, oSome, mSl, eMth, eMeth, methK, eMake, eFmt, eJoin, jGo, mIsi, tyN, isT, e1, a0]
  have rr : iRange1 (aCons (eApp (M (n + 1) ._law_draw) (aCons (eVar 0) (aCons (eLit (.int 8)) aNil))) aNil) [some (.loc m), some (.str [c0]), none, none] h1 = .ok ⟨rng 0 K, []⟩ h2 := iRange1_nat (i := (K : Int)) (by simp [fnM, runB, eLit, eVar, eBin, eUn, aNil, aCons, eApp, eTup, eLst, eIf, eAnd, eOr, eNot, eChain, tVal, Mir.tAnd, Mir.tOr, Mir.tNot, Mir.tYes, sCons, sNil, sExpr, sSet, sRet, sRetN, sIf, sPass, sBreak, sCont, sBind, sPar, sAug, Mir.sPut, Mir.sFld, Mir.sFldAug, mFld, pNil, pCons, sFor, iAny, mIter, iZip, bName, bTup, bsCons, bsNil, mAdd, mAddI, mSub, mMul, mDiv, mMod, mPow, mNeg, mLt, mLe, mGt, mGe, mEq, mNe, eqD, mIsN, mNotN, mIx, mIn, mNotIn, inD, fLen, fAbs, fMax2, fMin2, fInt, fStr, itemsD, isKey, boolsD, eSlice, oNone, oSome, mSl, eMth, eMeth, methK, eMake, eFmt, eJoin, jGo, mIsi, tyN, isT, e2]) rfl (by omega)
  have efor := sFor_nx (b := bName 2) rr ef
  have gl := get_last h3 (.lst (noNames.map .str))
  have hin : ∀ H : MH, inP (.str w) (noNames.map .str) H = some (noNames.contains w) := fun H => by
    unfold inP
    rw [if_pos ⟨rfl, by decide⟩]
    congr 1
    rw [List.any_map, Bool.eq_iff_iff, List.any_eq_true, List.contains_iff_mem]
    constructor
    · rintro ⟨x, hx, e⟩
      have : x = w := by simpa [eqF] using e
      exact this ▸ hx
    · intro hw
      exact ⟨w, hw, by simp [eqF]⟩
  have e1s : sSet 3 (eLst (aCons (eLit (.str [121, 101, 115])) (aCons (eLit (.str [110, 111])) (aCons (eLit (.str [110, 111, 116])) (aCons (eLit (.str [112, 108, 117, 115])) (aCons (eLit (.str [116, 105, 109, 101, 115])) (aCons (eLit (.str [108, 101, 97, 100, 115])) (aCons (eLit (.str [97, 110, 100])) (aCons (eLit (.str [111, 114])) (aCons (eLit (.str [115, 97, 109, 101])) aNil))))))))))
      [some (.loc m), some (.str w), x2, none] h3 = .nx [some (.loc m), some (.str w), x2, some (.loc h3.length)] (h3 ++ [.lst (noNames.map .str)]) := rfl
  have hcut : cutL w none (some 2) = w.take 2 := by
    unfold cutL
    rw [HT.sIx_none, show (some (2 : Int)) = some ((2 : Nat) : Int) from rfl, HT.sIx_nat, List.drop_zero, Nat.sub_zero]
    by_cases hl : 2 ≤ w.length
    · rw [Nat.min_eq_left hl]
    · rw [Nat.min_eq_right (by omega), List.take_length, List.take_of_length_le (by omega)]
  obtain ⟨d, hd, hnm⟩ : ∃ d, sRet (eIf (tVal (eBin mNotIn (eVar 1) (eVar 3))) (eVar 1) (eBin mAdd (eSlice (eVar 1) oNone (oSome (eLit (.int 2)))) (eLit (.str [55])))) [some (.loc m), some (.str w), x2, some (.loc h3.length)] (h3 ++ [.lst (noNames.map .str)]) = .rt (.str d) (h3 ++ [.lst (noNames.map .str)]) ∧ Nm d := by
    have l8 : w.length ≤ 100000 := by omega
    generalize h3 ++ [.lst (noNames.map .str)] = H at *
    by_cases hw : w ∈ noNames
    · refine ⟨w.take 2 ++ [55], ?_, nm_seven hw⟩
      have hin := (hin H).trans (congrArg some (List.contains_iff_mem.mpr hw))
      have lt : (w.take 2).length ≤ 2 := List.length_take_le _ _
      generalize noNames.map D.str = NN at *
      ((try simp [fnM, runB, eLit, eVar, eBin, eUn, aNil, aCons, eApp, eTup, eLst, eIf, eAnd, eOr, eNot, eChain, tVal, Mir.tAnd, Mir.tOr, Mir.tNot, Mir.tYes, sCons, sNil, sExpr, sSet, sRet, sRetN, sIf, sPass, sBreak, sCont, sBind, sPar, sAug, Mir.sPut, Mir.sFld, Mir.sFldAug, mFld, pNil, pCons, sFor, iAny, mIter, iZip, bName, bTup, bsCons, bsNil, mAdd, mAddI, mSub, mMul, mDiv, mMod, mPow, mNeg, mLt, mLe, mGt, mGe, mEq, mNe, eqD, mIsN, mNotN, mIx, mIn, mNotIn, inD, fLen, fAbs, fMax2, fMin2, fInt, fStr, itemsD, isKey, boolsD, eSlice, oNone, oSome, mSl, eMth, eMeth, methK, eMake, eFmt, eJoin, jGo, mIsi, tyN, isT, hin, hcut, l8, gl]); repeat (rw [if_pos (by (try simp only [List.length_append, List.length_cons, List.length_nil, List.length_replicate]); omega)]; try simp [fnM, runB, eLit, eVar, eBin, eUn, aNil, aCons, eApp, eTup, eLst, eIf, eAnd, eOr, eNot, eChain, tVal, Mir.tAnd, Mir.tOr, Mir.tNot, Mir.tYes, sCons, sNil, sExpr, sSet, sRet, sRetN, sIf, sPass, sBreak, sCont, sBind, sPar, sAug, Mir.sPut, Mir.sFld, Mir.sFldAug, mFld, pNil, pCons, sFor, iAny, mIter, iZip, bName, bTup, bsCons, bsNil, mAdd, mAddI, mSub, mMul, mDiv, mMod, mPow, mNeg, mLt, mLe, mGt, mGe, mEq, mNe, eqD, mIsN, mNotN, mIx, mIn, mNotIn, inD, fLen, fAbs, fMax2, fMin2, fInt, fStr, itemsD, isKey, boolsD, eSlice, oNone, oSome, mSl, eMth, eMeth, methK, eMake, eFmt, eJoin, jGo, mIsi, tyN, isT, hin, hcut, l8, gl]))
    · refine ⟨w, ?_, ⟨hw1, hw2, by omega, hw⟩⟩
      have hf : noNames.contains w = false := by rw [Bool.eq_false_iff]; exact fun z => hw (List.contains_iff_mem.mp z)
      have hin := (hin H).trans (congrArg some hf)
      generalize noNames.map D.str = NN at *
      ((try simp [fnM, runB, eLit, eVar, eBin, eUn, aNil, aCons, eApp, eTup, eLst, eIf, eAnd, eOr, eNot, eChain, tVal, Mir.tAnd, Mir.tOr, Mir.tNot, Mir.tYes, sCons, sNil, sExpr, sSet, sRet, sRetN, sIf, sPass, sBreak, sCont, sBind, sPar, sAug, Mir.sPut, Mir.sFld, Mir.sFldAug, mFld, pNil, pCons, sFor, iAny, mIter, iZip, bName, bTup, bsCons, bsNil, mAdd, mAddI, mSub, mMul, mDiv, mMod, mPow, mNeg, mLt, mLe, mGt, mGe, mEq, mNe, eqD, mIsN, mNotN, mIx, mIn, mNotIn, inD, fLen, fAbs, fMax2, fMin2, fInt, fStr, itemsD, isKey, boolsD, eSlice, oNone, oSome, mSl, eMth, eMeth, methK, eMake, eFmt, eJoin, jGo, mIsi, tyN, isT, hin, gl]); repeat (rw [if_pos (by (try simp only [List.length_append, List.length_cons, List.length_nil, List.length_replicate]); omega)]; try simp [fnM, runB, eLit, eVar, eBin, eUn, aNil, aCons, eApp, eTup, eLst, eIf, eAnd, eOr, eNot, eChain, tVal, Mir.tAnd, Mir.tOr, Mir.tNot, Mir.tYes, sCons, sNil, sExpr, sSet, sRet, sRetN, sIf, sPass, sBreak, sCont, sBind, sPar, sAug, Mir.sPut, Mir.sFld, Mir.sFldAug, mFld, pNil, pCons, sFor, iAny, mIter, iZip, bName, bTup, bsCons, bsNil, mAdd, mAddI, mSub, mMul, mDiv, mMod, mPow, mNeg, mLt, mLe, mGt, mGe, mEq, mNe, eqD, mIsN, mNotN, mIx, mIn, mNotIn, inD, fLen, fAbs, fMax2, fMin2, fInt, fStr, itemsD, isKey, boolsD, eSlice, oNone, oSome, mSl, eMth, eMeth, methK, eMake, eFmt, eJoin, jGo, mIsi, tyN, isT, hin, gl]))
  have run : b__law_name (M (n + 1)) [some (.loc m), none, none, none] h = .rt (.str d) (h3 ++ [.lst (noNames.map .str)]) := by
    unfold b__law_name
    unfold lower at e0
    rw [sCons_nx e0]
    unfold wsigns at efor
    rw [sCons_nx efor, sCons_nx e1s]
    exact hd
  rw [M__law_name]
  have hrun := runB_rt (N := 4) (ds := [.loc m]) rfl run
  exact go_fn hs rfl hrun rfl ⟨d, rfl, hnm⟩ ((s3.push _).mono (by omega)) (v3.trans (Ev.push m h3 _ s3.lt.1))
end K65
set_option Elab.async false
set_option linter.all false
set_option maxRecDepth 100000
set_option autoImplicit false
namespace K65
open Mir PySem
theorem nots_len : ∀ (k : Nat) (b : Sy), (nots k b).written.length = b.written.length + 4 * k
  | 0, b => rfl
  | k + 1, b => by
    show (Sy.not (nots k b)).written.length = _
    rw [written_not]
    have := nots_len k b
    simp only [List.length_cons]
    omega
theorem wd_sg {w : List Nat} (h : Wd w) : ∀ c ∈ w, Sg c := fun c hc => .inr (.inr (h.all c hc))
theorem wd_hd {w : List Nat} (h : Wd w) : Hd w := let ⟨c, r, e, hc⟩ := h.hd; ⟨c, r, e, .inr hc⟩
theorem text_sg : ∀ s : Sy, s.good → ∀ c ∈ s.written, Sg c
  | .yes, _ => wd_sg (wd_no _ (by decide))
  | .no, _ => wd_sg (wd_no _ (by decide))
  | .unk w, g => wd_sg (Nm.wd g)
  | .not s, g => fun c hc => by
    have e : (Sy.not s).written = wNot ++ (32 :: s.written) := rfl
    rw [e] at hc
    rcases List.mem_append.mp hc with hc | hc
    · exact wd_sg (wd_no _ (by decide)) c hc
    · rcases List.mem_cons.mp hc with rfl | hc
      · exact .inl rfl
      · exact text_sg s g c hc
  | .bin mk a b, g => fun c hc => by
    rw [Sy.written_bin] at hc
    simp only [List.mem_append, List.mem_cons, List.not_mem_nil, or_false] at hc
    rcases hc with (((((hc | hc) | hc) | hc) | hc) | hc) | hc
    · exact .inr (.inl (.inl hc))
    · exact text_sg a g.2.1 c hc
    · exact .inl hc
    · exact wd_sg (mk_wd g.1) c hc
    · exact .inl hc
    · exact text_sg b g.2.2 c hc
    · exact .inr (.inl (.inr hc))
theorem toks_hd : ∀ s : Sy, s.good → ∀ w ∈ s.toks, Hd w
  | .yes, _ => fun w hw => by rw [List.mem_singleton.mp hw]; exact wd_hd (wd_no _ (by decide))
  | .no, _ => fun w hw => by rw [List.mem_singleton.mp hw]; exact wd_hd (wd_no _ (by decide))
  | .unk u, g => fun w hw => by rw [List.mem_singleton.mp hw]; exact wd_hd (Nm.wd g)
  | .not s, g => fun w hw => by
    rcases List.mem_cons.mp hw with rfl | hw
    · exact wd_hd (wd_no _ (by decide))
    · exact toks_hd s g w hw
  | .bin mk a b, g => fun w hw => by
    rw [Sy.toks_bin] at hw
    simp only [List.mem_append, List.mem_cons, List.not_mem_nil, or_false] at hw
    rcases hw with rfl | hw | rfl | hw | rfl
    · exact ⟨40, [], rfl, .inl (.inl rfl)⟩
    · exact toks_hd a g.2.1 w hw
    · exact wd_hd (mk_wd g.1)
    · exact toks_hd b g.2.2 w hw
    · exact ⟨41, [], rfl, .inl (.inr rfl)⟩
theorem sg_small {c : Nat} (h : Sg c) : c < 16 ^ 8 := by
  rcases h with h | h | h
  · rw [h]; decide
  · unfold brk at h
    have e : (100 : Nat) ≤ 16 ^ 8 := by decide
    omega
  · exact ws_small h
/-- what all of it asks of a saying -/
structure Big (s : Sy) : Prop where
  g : s.good
  d : s.dep ≤ 60
  b : s.bd ≤ 20
  w : s.wc ≤ 110
  l : s.written.length ≤ 600
theorem read_again (L : Nat) {s : Sy} (g : Big s) (text : List Nat) (h : MH) (hl : text.length ≤ 4000) (hg : ∀ c ∈ text, Sg c) (ht : tk [] text = s.toks) : ∃ h2, M (L + 65) .read_saying [.str text] h = .ok s.toD h2 ∧ Sm h h2 := by
  have := g.b
  have := g.w
  obtain ⟨h2, e, v⟩ := read_ok (L + 61 - 2 * s.bd) text s h hl hg (toks_hd s g.g) ht g.g g.d (by omega) (by omega)
  rw [show L + 61 - 2 * s.bd + 2 * s.bd + 4 = L + 65 by omega] at e
  exact ⟨h2, e, v⟩
structure LI3 (m c k : Nat) (cs : List Int) (b : Nat) (s : Sy) (h : MH) (j : Nat) (ρ : En) (hh : MH) : Prop where
  ex : ∃ x3, ρ = [some (.loc m), some (.loc k), some s.toD, x3, some (.str s.written)]
  s : S m c cs (b + 2404 * j) hh
  v : Ev m h hh
theorem saying_right (L : Nat) {m c k : Nat} {cs : List Int} {b : Nat} {h : MH} {names : List (List Nat)} (hs : S m c cs b h) (hk : h[k]? = some (.lst (names.map .str))) (hkm : k ≠ m) (hne : names ≠ []) (hln : names.length ≤ 100) (hnm : ∀ w ∈ names, Nm w) (hb : b + 10000 ≤ 1000000000) :
    Go m c cs h (b + 10000) (M (L + 66) ._law_saying_right [.loc m, .loc k] h) fun d => d = .bl true := by
  obtain ⟨r, h1, e1, r0, r1, s1, v1⟩ := draw' (L + 64) (below := 21) hs (by omega) (by omega) (by omega)
  obtain ⟨sz, hsz⟩ : ∃ sz : Nat, r = (sz : Int) := ⟨r.toNat, by omega⟩
  subst hsz
  have k1 := v1.get hk hkm
  obtain ⟨d, h2, e2, ⟨s0, rfl, g0⟩, s2, v2⟩ := saying sz (L + 62 - sz) (by omega) s1 k1 hkm hne (by omega) hnm (by omega)
  rw [show L + 62 - sz + sz + 3 = L + 65 by omega] at e2
  obtain ⟨t, h3, e3, t0, t1, s3, v3⟩ := draw' (L + 64) (below := 20) s2 (by omega) (by omega) (by omega)
  obtain ⟨K, hK⟩ : ∃ K : Nat, t = (K : Int) := ⟨t.toNat, by omega⟩
  subst hK
  obtain ⟨f1, f2, f3, f4, f5⟩ := nots_facts K s0
  have hB : Big (nots K s0) := by
    obtain ⟨g1, g2, g3, g4, g5⟩ := g0
    refine ⟨f5.mpr g1, by omega, by omega, by omega, ?_⟩
    rw [nots_len]
    omega
  -- the nots
  obtain ⟨ρ', h3', ef, x3, rfl, rfl⟩ := for_rng (i := 3) (lo := 0) (n := K) (fun j ρ hh => ∃ x3, ρ = [some (.loc m), some (.loc k), some (nots j s0).toD, x3, none] ∧ hh = h3)
    (body := sSet 2 (eTup (aCons (eLit (.str [110, 111, 116])) (aCons (eVar 2) aNil)))) (fun j ρ hh hj ⟨x3, e, e'⟩ => by
      subst e
      subst e'
      refine ⟨[some (.loc m), some (.loc k), some (nots (j + 1) s0).toD, some (.int (0 + (j : Nat))), none], hh, ?_, _, rfl, rfl⟩
      simp [fnM, runB, eLit, eVar, eBin, eUn, aNil, aCons, eApp, eTup, eLst, eIf, eAnd, eOr, eNot, eChain, tVal, Mir.tAnd, Mir.tOr, Mir.tNot, Mir.tYes, sCons, sNil, sExpr, sSet, sRet, sRetN, sIf, sPass, sBreak, sCont, sBind, sPar, sAug, Mir.sPut, Mir.sFld, Mir.sFldAug, mFld, pNil, pCons, sFor, iAny, mIter, iZip, bName, bTup, bsCons, bsNil, mAdd, mAddI, mSub, mMul, mDiv, mMod, mPow, mNeg, mLt, mLe, mGt, mGe, mEq, mNe, eqD, mIsN, mNotN, mIx, mIn, mNotIn, inD, fLen, fAbs, fMax2, fMin2, fInt, fStr, itemsD, isKey, boolsD, eSlice, oNone, oSome, mSl, eMth, eMeth, methK, eMake, eFmt, eJoin, jGo, mIsi, tyN, isT, nots_toD, wNot])
    (ρ := [some (.loc m), some (.loc k), some s0.toD, none, none]) (h := h3) ⟨none, rfl, rfl⟩
  have rr : iRange1 (aCons (eApp (M (L + 65) ._law_draw) (aCons (eVar 0) (aCons (eLit (.int 20)) aNil))) aNil) [some (.loc m), some (.loc k), some s0.toD, none, none] h2 = .ok ⟨rng 0 K, []⟩ h3' := iRange1_nat (i := (K : Int)) (by simp [fnM, runB, eLit, eVar, eBin, eUn, aNil, aCons, eApp, eTup, eLst, eIf, eAnd, eOr, eNot, eChain, tVal, Mir.tAnd, Mir.tOr, Mir.tNot, Mir.tYes, sCons, sNil, sExpr, sSet, sRet, sRetN, sIf, sPass, sBreak, sCont, sBind, sPar, sAug, Mir.sPut, Mir.sFld, Mir.sFldAug, mFld, pNil, pCons, sFor, iAny, mIter, iZip, bName, bTup, bsCons, bsNil, mAdd, mAddI, mSub, mMul, mDiv, mMod, mPow, mNeg, mLt, mLe, mGt, mGe, mEq, mNe, eqD, mIsN, mNotN, mIx, mIn, mNotIn, inD, fLen, fAbs, fMax2, fMin2, fInt, fStr, itemsD, isKey, boolsD, eSlice, oNone, oSome, mSl, eMth, eMeth, methK, eMake, eFmt, eJoin, jGo, mIsi, tyN, isT, e3]) rfl (by omega)
  have efor := sFor_nx (b := bName 3) rr ef
  generalize hsy : nots K s0 = s at *
  have hd := hB.d
  have hl := hB.l
  have ew := written_ok s (L + 64 - s.dep) h3' hB.g (by omega)
  rw [show L + 64 - s.dep + s.dep + 1 = L + 65 by omega] at ew
  have et := saying_text_ok s (L + 64 - s.dep) h3' hB.g (by omega)
  rw [show L + 64 - s.dep + s.dep + 1 = L + 65 by omega] at et
  have sg := text_sg s hB.g
  obtain ⟨q1, g1⟩ := repr_str s.written h3' (fun c hc => sg_small (sg c hc)) (by omega)
  obtain ⟨h4, e4, m4⟩ := read_again L hB s.written h3' (by omega) sg (tk_text s hB.g)
  obtain ⟨q2, g2⟩ := repr_sy s h4 hB.g (by omega) (by have := hB.w; omega)
  have s4 : S m c cs (b + 1 + (6 * sz + 3) + 1) h4 := s3.same (m4.at_ m s3.lt.1) (m4.at_ c s3.lt.2)
  -- three loosenings
  obtain ⟨ρ5, h5, ef5, ⟨x5, rfl⟩, s5, v5⟩ := for_rng (i := 3) (lo := 0) (n := 3) (LI3 m c k cs (b + 200) s h4)
    (body := (sIf (tVal (eBin mNe (eApp fRepr (aCons (eApp (M (L + 65) .read_saying) (aCons (eApp (M (L + 65) ._law_loose) (aCons (eVar 0) (aCons (eVar 4) aNil))) aNil)) aNil)) (eApp fRepr (aCons (eVar 2) aNil)))) (sRet (eLit (.bl false))) sNil)) (fun j ρ hh hj ⟨⟨x3, e⟩, sj, vj⟩ => by
      subst e
      obtain ⟨d, h6, e6, ⟨t', rfl, tl, tt, tm⟩, s6, v6⟩ := loose (L + 62) (text := s.written) sj (by omega) (by omega)
      obtain ⟨h7, e7, m7⟩ := read_again L hB t' h6 (by omega) (fun c hc => (tm c hc).elim .inl (sg c)) (by rw [tt, tk_text s hB.g])
      obtain ⟨q3, g3⟩ := repr_sy s h7 hB.g (by omega) (by have := hB.w; omega)
      refine ⟨[some (.loc m), some (.loc k), some s.toD, some (.int (0 + (j : Nat))), some (.str s.written)], h7, ?_, ⟨⟨_, rfl⟩, ?_, (vj.trans v6).trans m7.ev⟩⟩
      · generalize s.toD = sd at *
        simp [fnM, runB, eLit, eVar, eBin, eUn, aNil, aCons, eApp, eTup, eLst, eIf, eAnd, eOr, eNot, eChain, tVal, Mir.tAnd, Mir.tOr, Mir.tNot, Mir.tYes, sCons, sNil, sExpr, sSet, sRet, sRetN, sIf, sPass, sBreak, sCont, sBind, sPar, sAug, Mir.sPut, Mir.sFld, Mir.sFldAug, mFld, pNil, pCons, sFor, iAny, mIter, iZip, bName, bTup, bsCons, bsNil, mAdd, mAddI, mSub, mMul, mDiv, mMod, mPow, mNeg, mLt, mLe, mGt, mGe, mEq, mNe, eqD, mIsN, mNotN, mIx, mIn, mNotIn, inD, fLen, fAbs, fMax2, fMin2, fInt, fStr, itemsD, isKey, boolsD, eSlice, oNone, oSome, mSl, eMth, eMeth, methK, eMake, eFmt, eJoin, jGo, mIsi, tyN, isT, e6, e7, fRepr, g3]
      · exact (s6.same (m7.at_ m s6.lt.1) (m7.at_ c s6.lt.2)).mono (by omega))
    (ρ := [some (.loc m), some (.loc k), some s.toD, x3, some (.str s.written)]) (h := h4) ⟨⟨_, rfl⟩, s4.mono (by omega), Ev.refl m h4⟩
  have rr5 : iRange1 (aCons (eLit (.int 3)) aNil) [some (.loc m), some (.loc k), some s.toD, x3, some (.str s.written)] h4 = .ok ⟨rng 0 3, []⟩ h4 := iRange1_nat (i := 3) rfl rfl (by omega)
  have efor5 := sFor_nx (b := bName 3) rr5 ef5
  have run : b__law_saying_right (M (L + 65)) [some (.loc m), some (.loc k), none, none, none] h = .rt (.bl true) h5 := by
    have e0 : sSet 2 (eApp (M (L + 65) ._law_saying) (aCons (eVar 0) (aCons (eVar 1) (aCons (eApp (M (L + 65) ._law_draw) (aCons (eVar 0) (aCons (eLit (.int 21)) aNil))) aNil)))) [some (.loc m), some (.loc k), none, none, none] h = .nx [some (.loc m), some (.loc k), some s0.toD, none, none] h2 := by
      simp [fnM, runB, eLit, eVar, eBin, eUn, aNil, aCons, eApp, eTup, eLst, eIf, eAnd, eOr, eNot, eChain, tVal, Mir.tAnd, Mir.tOr, Mir.tNot, Mir.tYes, sCons, sNil, sExpr, sSet, sRet, sRetN, sIf, sPass, sBreak, sCont, sBind, sPar, sAug, Mir.sPut, Mir.sFld, Mir.sFldAug, mFld, pNil, pCons, sFor, iAny, mIter, iZip, bName, bTup, bsCons, bsNil, mAdd, mAddI, mSub, mMul, mDiv, mMod, mPow, mNeg, mLt, mLe, mGt, mGe, mEq, mNe, eqD, mIsN, mNotN, mIx, mIn, mNotIn, inD, fLen, fAbs, fMax2, fMin2, fInt, fStr, itemsD, isKey, boolsD, eSlice, oNone, oSome, mSl, eMth, eMeth, methK, eMake, eFmt, eJoin, jGo, mIsi, tyN, isT, e1, e2]
    have ew' : sSet 4 (eApp (M (L + 65) ._law_written) (aCons (eVar 2) aNil)) [some (.loc m), some (.loc k), some s.toD, x3, none] h3' = .nx [some (.loc m), some (.loc k), some s.toD, x3, some (.str s.written)] h3' := by
      simp [fnM, runB, eLit, eVar, eBin, eUn, aNil, aCons, eApp, eTup, eLst, eIf, eAnd, eOr, eNot, eChain, tVal, Mir.tAnd, Mir.tOr, Mir.tNot, Mir.tYes, sCons, sNil, sExpr, sSet, sRet, sRetN, sIf, sPass, sBreak, sCont, sBind, sPar, sAug, Mir.sPut, Mir.sFld, Mir.sFldAug, mFld, pNil, pCons, sFor, iAny, mIter, iZip, bName, bTup, bsCons, bsNil, mAdd, mAddI, mSub, mMul, mDiv, mMod, mPow, mNeg, mLt, mLe, mGt, mGe, mEq, mNe, eqD, mIsN, mNotN, mIx, mIn, mNotIn, inD, fLen, fAbs, fMax2, fMin2, fInt, fStr, itemsD, isKey, boolsD, eSlice, oNone, oSome, mSl, eMth, eMeth, methK, eMake, eFmt, eJoin, jGo, mIsi, tyN, isT, ew]
    have eif : (sIf (tOr (tVal (eBin mNe (eApp fRepr (aCons (eApp (M (L + 65) .saying_text) (aCons (eVar 2) aNil)) aNil)) (eApp fRepr (aCons (eVar 4) aNil)))) (tVal (eBin mNe (eApp fRepr (aCons (eApp (M (L + 65) .read_saying) (aCons (eVar 4) aNil)) aNil)) (eApp fRepr (aCons (eVar 2) aNil))))) (sRet (eLit (.bl false))) sNil)
        [some (.loc m), some (.loc k), some s.toD, x3, some (.str s.written)] h3' = .nx [some (.loc m), some (.loc k), some s.toD, x3, some (.str s.written)] h4 := by
      generalize s.toD = sd at *
      simp [fnM, runB, eLit, eVar, eBin, eUn, aNil, aCons, eApp, eTup, eLst, eIf, eAnd, eOr, eNot, eChain, tVal, Mir.tAnd, Mir.tOr, Mir.tNot, Mir.tYes, sCons, sNil, sExpr, sSet, sRet, sRetN, sIf, sPass, sBreak, sCont, sBind, sPar, sAug, Mir.sPut, Mir.sFld, Mir.sFldAug, mFld, pNil, pCons, sFor, iAny, mIter, iZip, bName, bTup, bsCons, bsNil, mAdd, mAddI, mSub, mMul, mDiv, mMod, mPow, mNeg, mLt, mLe, mGt, mGe, mEq, mNe, eqD, mIsN, mNotN, mIx, mIn, mNotIn, inD, fLen, fAbs, fMax2, fMin2, fInt, fStr, itemsD, isKey, boolsD, eSlice, oNone, oSome, mSl, eMth, eMeth, methK, eMake, eFmt, eJoin, jGo, mIsi, tyN, isT, et, fRepr, g1, e4, g2]
    unfold b__law_saying_right
    rw [sCons_nx e0, sCons_nx efor, sCons_nx ew', sCons_nx eif, sCons_nx efor5]
    simp [fnM, runB, eLit, eVar, eBin, eUn, aNil, aCons, eApp, eTup, eLst, eIf, eAnd, eOr, eNot, eChain, tVal, Mir.tAnd, Mir.tOr, Mir.tNot, Mir.tYes, sCons, sNil, sExpr, sSet, sRet, sRetN, sIf, sPass, sBreak, sCont, sBind, sPar, sAug, Mir.sPut, Mir.sFld, Mir.sFldAug, mFld, pNil, pCons, sFor, iAny, mIter, iZip, bName, bTup, bsCons, bsNil, mAdd, mAddI, mSub, mMul, mDiv, mMod, mPow, mNeg, mLt, mLe, mGt, mGe, mEq, mNe, eqD, mIsN, mNotN, mIx, mIn, mNotIn, inD, fLen, fAbs, fMax2, fMin2, fInt, fStr, itemsD, isKey, boolsD, eSlice, oNone, oSome, mSl, eMth, eMeth, methK, eMake, eFmt, eJoin, jGo, mIsi, tyN, isT]
  rw [M__law_saying_right]
  have hrun := runB_rt (N := 5) (ds := [.loc m, .loc k]) rfl run
  exact go_fn hs rfl hrun rfl rfl (s5.mono (by omega)) ((((v1.trans v2).trans v3).trans m4.ev).trans v5)
end K65
set_option Elab.async false
set_option linter.all false
set_option maxRecDepth 100000
set_option autoImplicit false
namespace K65
open Mir PySem
theorem cut_map {α β : Type} (f : α → β) (xs : List α) (lo hi : Option Int) : cutL (xs.map f) lo hi = (cutL xs lo hi).map f := by
  unfold cutL
  rw [List.length_map, List.map_take, List.map_drop]
theorem cut_mem {α : Type} {xs : List α} {lo hi : Option Int} {x : α} (h : x ∈ cutL xs lo hi) : x ∈ xs := List.mem_of_mem_drop (List.mem_of_mem_take h)
theorem cut_le {α : Type} {xs : List α} {lo hi : Option Int} : (cutL xs lo hi).length ≤ xs.length := by
  unfold cutL
  simp only [List.length_take, List.length_drop]
  omega
theorem comp_filter {I : Itb} {b : MB} {t : MT} {e : ME} {ρ : En} {h : MH} (hs : I.same h = true) (p : Int → Bool) (q : ∀ z : Int, ∃ ρ1, b (.int z) ρ = some ρ1 ∧ t ρ1 h = .ok (p z) h ∧ e ρ1 h = .ok (.int z) h) :
    ∀ (ns : List Int) (acc : List D), compGo I b t e ρ (ns.map .int) acc h = .ok (acc ++ (ns.filter p).map .int) h
  | [], acc => by
    unfold compGo
    rw [List.map_nil]
    dsimp only
    rw [if_pos hs]
    simp
  | z :: ns, acc => by
    obtain ⟨ρ1, e1, e2, e3⟩ := q z
    rw [List.map_cons]
    unfold compGo
    rw [if_pos hs, e1]
    dsimp only
    rw [e2]
    dsimp only
    by_cases hp : p z = true
    · rw [if_pos hp, e3]
      dsimp only
      rw [comp_filter hs p q ns, List.filter_cons, if_pos hp]
      simp
    · rw [if_neg hp, comp_filter hs p q ns, List.filter_cons, if_neg hp]
theorem gc_loc {h' : MH} {n k : Nat} {o : MO} (hk : n ≤ k) (e : h'[k]? = some o) (hb : MO.bel n o = false) : gc n (.ok (.loc k) h') = .ok (.loc k) h' := by
  unfold gc
  dsimp only
  have : D.bel n (.loc k) = false := by
    unfold D.bel
    exact decide_eq_false (by omega)
  rw [this, Bool.and_false, if_neg Bool.false_ne_true, e]
  dsimp only
  rw [hb, Bool.and_false, if_neg Bool.false_ne_true]
structure BI (ns : List Int) (k : Nat) (h : MH) (L c3 : Nat) (j : Nat) (ρ : En) (hh : MH) : Prop where
  ex : ∃ (v : Int) (x5 : Option D), ρ = [some (scr ns), some (.int k), some (.loc L), some (.loc c3), some (.int v), x5] ∧ 0 ≤ v ∧ v < 2147483647
  he : hh = h
theorem begun_ok (n : Nat) {ns : List Int} {k : Nat} (h : MH) (hk : k ≤ 1) (hn : ns.length ≤ 63) (hb : ∀ z ∈ ns, z.natAbs < 2 ^ 1048577) :
    ∃ m c cs H, M (n + 1) ._law_begun [scr ns, .int k] h = .ok (.loc m) H ∧ S m c cs 0 H := by
  -- the lists
  obtain ⟨s1, hs1⟩ : ∃ s1, cutL ns (some (k : Int)) none = s1 := ⟨_, rfl⟩
  obtain ⟨s2, hs2⟩ : ∃ s2, cutL ns none (some (k : Int)) = s2 := ⟨_, rfl⟩
  obtain ⟨gr, hgr⟩ : ∃ gr, ns.filter (fun z => decide (z ≥ 1000000000000000000)) = gr := ⟨_, rfl⟩
  have l1 : s1.length ≤ 63 := by have := cut_le (xs := ns) (lo := some (k : Int)) (hi := none); rw [hs1] at this; omega
  have l2 : s2.length ≤ 63 := by have := cut_le (xs := ns) (lo := none) (hi := some (k : Int)); rw [hs2] at this; omega
  have l3 : gr.length ≤ 63 := by rw [← hgr]; exact Nat.le_trans (List.length_filter_le _ _) hn
  have hm : ∀ z ∈ s1 ++ s2, z ∈ ns := fun z hz => by
    rcases List.mem_append.mp hz with hz | hz
    · rw [← hs1] at hz; exact cut_mem hz
    · rw [← hs2] at hz; exact cut_mem hz
  have c1 : cutL (ns.map D.int) (some (k : Int)) none = s1.map D.int := by rw [cut_map, hs1]
  have c2 : cutL (ns.map D.int) none (some (k : Int)) = s2.map D.int := by rw [cut_map, hs2]
  obtain ⟨H1, hH1⟩ : ∃ H1, h ++ [MO.lst (s1.map .int), .lst (s2.map .int), .lst ((s1 ++ s2).map .int)] = H1 := ⟨_, rfl⟩
  have len1 : H1.length = h.length + 3 := by rw [← hH1]; simp
  have e2 : sSet 2 (eBin mAdd (eSlice (eVar 0) (oSome (eVar 1)) oNone) (eSlice (eVar 0) oNone (oSome (eVar 1)))) [some (scr ns), some (.int k), none, none, none, none] h = .nx [some (scr ns), some (.int k), some (.loc (h.length + 2)), none, none, none] H1 := by
    unfold scr
    have lq : s1.length + s2.length ≤ 100000 := by omega
    rw [← hH1]
    simp [fnM, runB, eLit, eVar, eBin, eUn, aNil, aCons, eApp, eTup, eLst, eIf, eAnd, eOr, eNot, eChain, tVal, Mir.tAnd, Mir.tOr, Mir.tNot, Mir.tYes, sCons, sNil, sExpr, sSet, sRet, sRetN, sIf, sPass, sBreak, sCont, sBind, sPar, sAug, Mir.sPut, Mir.sFld, Mir.sFldAug, mFld, pNil, pCons, sFor, iAny, mIter, iZip, bName, bTup, bsCons, bsNil, mAdd, mAddI, mSub, mMul, mDiv, mMod, mPow, mNeg, mLt, mLe, mGt, mGe, mEq, mNe, eqD, mIsN, mNotN, mIx, mIn, mNotIn, inD, fLen, fAbs, fMax2, fMin2, fInt, fStr, itemsD, isKey, boolsD, eSlice, oNone, oSome, mSl, eMth, eMeth, methK, eMake, eFmt, eJoin, jGo, mIsi, tyN, isT, c1, c2, lq]
  have cm := comp_filter (I := ⟨ns.map .int, []⟩) (b := bName 5) (t := tVal (eBin mGe (eVar 5) (eBin mPow (eLit (.int 10)) (eLit (.int 18))))) (e := eVar 5) (ρ := [some (scr ns), some (.int k), some (.loc (h.length + 2)), none, none, none]) (h := H1) rfl (fun z => decide (z ≥ 1000000000000000000)) (fun z => ⟨_, rfl, by simp [fnM, runB, eLit, eVar, eBin, eUn, aNil, aCons, eApp, eTup, eLst, eIf, eAnd, eOr, eNot, eChain, tVal, Mir.tAnd, Mir.tOr, Mir.tNot, Mir.tYes, sCons, sNil, sExpr, sSet, sRet, sRetN, sIf, sPass, sBreak, sCont, sBind, sPar, sAug, Mir.sPut, Mir.sFld, Mir.sFldAug, mFld, pNil, pCons, sFor, iAny, mIter, iZip, bName, bTup, bsCons, bsNil, mAdd, mAddI, mSub, mMul, mDiv, mMod, mPow, mNeg, mLt, mLe, mGt, mGe, mEq, mNe, eqD, mIsN, mNotN, mIx, mIn, mNotIn, inD, fLen, fAbs, fMax2, fMin2, fInt, fStr, itemsD, isKey, boolsD, eSlice, oNone, oSome, mSl, eMth, eMeth, methK, eMake, eFmt, eJoin, jGo, mIsi, tyN, isT], rfl⟩) ns []
  rw [List.nil_append, hgr] at cm
  have e3c : eComp (iAny (eVar 0)) (bName 5) (tVal (eBin mGe (eVar 5) (eBin mPow (eLit (.int 10)) (eLit (.int 18))))) (eVar 5) [5] [some (scr ns), some (.int k), some (.loc (h.length + 2)), none, none, none] H1 = .ok (.loc H1.length) (H1 ++ [.lst (gr.map .int)]) :=
    eComp_ok (I := ⟨ns.map .int, []⟩) rfl rfl cm (by rw [List.length_map]; omega)
  obtain ⟨H2, hH2⟩ : ∃ H2, H1 ++ [MO.lst (gr.map .int)] = H2 := ⟨_, rfl⟩
  rw [hH2] at e3c
  have e3 : sSet 3 (eComp (iAny (eVar 0)) (bName 5) (tVal (eBin mGe (eVar 5) (eBin mPow (eLit (.int 10)) (eLit (.int 18))))) (eVar 5) [5]) [some (scr ns), some (.int k), some (.loc (h.length + 2)), none, none, none] H1 = .nx [some (scr ns), some (.int k), some (.loc (h.length + 2)), some (.loc H1.length), none, none] H2 := by
    unfold sSet
    rw [e3c]
    rfl
  have e4 : sSet 4 (eBin mAdd (eLit (.int 53)) (eBin mMul (eLit (.int 8)) (eVar 1))) [some (scr ns), some (.int k), some (.loc (h.length + 2)), some (.loc H1.length), none, none] H2 = .nx [some (scr ns), some (.int k), some (.loc (h.length + 2)), some (.loc H1.length), some (.int (53 + 8 * (k : Int))), none] H2 := by
    have o : mulOk 8 (k : Int) = true := mulOk_log (a := 100) (b := 100) (by decide) (by omega) (by decide)
    simp [fnM, runB, eLit, eVar, eBin, eUn, aNil, aCons, eApp, eTup, eLst, eIf, eAnd, eOr, eNot, eChain, tVal, Mir.tAnd, Mir.tOr, Mir.tNot, Mir.tYes, sCons, sNil, sExpr, sSet, sRet, sRetN, sIf, sPass, sBreak, sCont, sBind, sPar, sAug, Mir.sPut, Mir.sFld, Mir.sFldAug, mFld, pNil, pCons, sFor, iAny, mIter, iZip, bName, bTup, bsCons, bsNil, mAdd, mAddI, mSub, mMul, mDiv, mMod, mPow, mNeg, mLt, mLe, mGt, mGe, mEq, mNe, eqD, mIsN, mNotN, mIx, mIn, mNotIn, inD, fLen, fAbs, fMax2, fMin2, fInt, fStr, itemsD, isKey, boolsD, eSlice, oNone, oSome, mSl, eMth, eMeth, methK, eMake, eFmt, eJoin, jGo, mIsi, tyN, isT, o]
  have gC : H2[h.length + 2]? = some (.lst ((s1 ++ s2).map .int)) := by rw [← hH2, ← hH1]; simp
  have gG : H2[H1.length]? = some (.lst (gr.map .int)) := by rw [← hH2]; simp
  obtain ⟨ρ', h2', ef, ⟨v, x5, rfl, v0, v1⟩, hh2⟩ := for_all (I := ⟨(s1 ++ s2).map .int, [(h.length + 2, .lst ((s1 ++ s2).map .int))]⟩) (b := bName 5) (body := (sSet 4 (eBin mMod (eApp fInt (aCons (eBin mAdd (eBin mMul (eVar 4) (eLit (.int 48271))) (eVar 5)) aNil)) (eLit (.int 2147483647))))) (BI ns k H2 (h.length + 2) H1.length)
    (fun j ρ hh I => by rw [I.he]; unfold Itb.same; simp [gC]) (fun j x ρ hh hx ⟨⟨v, x5, e, v0, v1⟩, eh⟩ => by
      subst e
      subst eh
      obtain ⟨z, _, rfl⟩ := List.mem_map.mp (List.mem_of_getElem? hx)
      have o : mulOk v 48271 = true := mulOk_log (a := 100) (b := 100) (by omega) (by decide) (by decide)
      refine ⟨_, [some (scr ns), some (.int k), some (.loc (h.length + 2)), some (.loc H1.length), some (.int ((v * 48271 + z) % 2147483647)), some (.int z)], _, rfl, ?_, ⟨_, _, rfl, Int.emod_nonneg _ (by decide), Int.emod_lt_of_pos _ (by decide)⟩, rfl⟩
      simp [fnM, runB, eLit, eVar, eBin, eUn, aNil, aCons, eApp, eTup, eLst, eIf, eAnd, eOr, eNot, eChain, tVal, Mir.tAnd, Mir.tOr, Mir.tNot, Mir.tYes, sCons, sNil, sExpr, sSet, sRet, sRetN, sIf, sPass, sBreak, sCont, sBind, sPar, sAug, Mir.sPut, Mir.sFld, Mir.sFldAug, mFld, pNil, pCons, sFor, iAny, mIter, iZip, bName, bTup, bsCons, bsNil, mAdd, mAddI, mSub, mMul, mDiv, mMod, mPow, mNeg, mLt, mLe, mGt, mGe, mEq, mNe, eqD, mIsN, mNotN, mIx, mIn, mNotIn, inD, fLen, fAbs, fMax2, fMin2, fInt, fStr, itemsD, isKey, boolsD, eSlice, oNone, oSome, mSl, eMth, eMeth, methK, eMake, eFmt, eJoin, jGo, mIsi, tyN, isT, o])
    (ρ := [some (scr ns), some (.int k), some (.loc (h.length + 2)), some (.loc H1.length), some (.int (53 + 8 * (k : Int))), none]) (h := H2) ⟨⟨_, _, rfl, by omega, by omega⟩, rfl⟩
  rw [hh2] at ef
  have hit : iAny (eVar 2) [some (scr ns), some (.int k), some (.loc (h.length + 2)), some (.loc H1.length), some (.int (53 + 8 * (k : Int))), none] H2 = .ok ⟨(s1 ++ s2).map .int, [(h.length + 2, .lst ((s1 ++ s2).map .int))]⟩ H2 := by simp [fnM, runB, eLit, eVar, eBin, eUn, aNil, aCons, eApp, eTup, eLst, eIf, eAnd, eOr, eNot, eChain, tVal, Mir.tAnd, Mir.tOr, Mir.tNot, Mir.tYes, sCons, sNil, sExpr, sSet, sRet, sRetN, sIf, sPass, sBreak, sCont, sBind, sPar, sAug, Mir.sPut, Mir.sFld, Mir.sFldAug, mFld, pNil, pCons, sFor, iAny, mIter, iZip, bName, bTup, bsCons, bsNil, mAdd, mAddI, mSub, mMul, mDiv, mMod, mPow, mNeg, mLt, mLe, mGt, mGe, mEq, mNe, eqD, mIsN, mNotN, mIx, mIn, mNotIn, inD, fLen, fAbs, fMax2, fMin2, fInt, fStr, itemsD, isKey, boolsD, eSlice, oNone, oSome, mSl, eMth, eMeth, methK, eMake, eFmt, eJoin, jGo, mIsi, tyN, isT, gC]
  have efor := sFor_nx (b := bName 5) hit ef
  -- what is left
  obtain ⟨l, hl0, hleft⟩ : ∃ l : Int, 0 ≤ l ∧ eIf (tVal (eBin mLt (eVar 1) (eApp fLen (aCons (eVar 3) aNil)))) (eBin mIx (eVar 3) (eVar 1)) (eLit (.int 0)) [some (scr ns), some (.int k), some (.loc (h.length + 2)), some (.loc H1.length), some (.int v), x5] H2 = .ok (.int l) H2 := by
    by_cases hk : k < gr.length
    · have gm : gr[k] ∈ ns.filter (fun z => decide (z ≥ 1000000000000000000)) := by rw [hgr]; exact List.getElem_mem _
      have gp := of_decide_eq_true (List.mem_filter.mp gm).2
      have ga : L2.atI (gr.map D.int) (k : Int) = some (.int gr[k]) := by rw [atI_nn (by omega)]; simp [hk]
      refine ⟨gr[k], by omega, ?_⟩
      generalize gr[k] = g0 at *
      simp [fnM, runB, eLit, eVar, eBin, eUn, aNil, aCons, eApp, eTup, eLst, eIf, eAnd, eOr, eNot, eChain, tVal, Mir.tAnd, Mir.tOr, Mir.tNot, Mir.tYes, sCons, sNil, sExpr, sSet, sRet, sRetN, sIf, sPass, sBreak, sCont, sBind, sPar, sAug, Mir.sPut, Mir.sFld, Mir.sFldAug, mFld, pNil, pCons, sFor, iAny, mIter, iZip, bName, bTup, bsCons, bsNil, mAdd, mAddI, mSub, mMul, mDiv, mMod, mPow, mNeg, mLt, mLe, mGt, mGe, mEq, mNe, eqD, mIsN, mNotN, mIx, mIn, mNotIn, inD, fLen, fAbs, fMax2, fMin2, fInt, fStr, itemsD, isKey, boolsD, eSlice, oNone, oSome, mSl, eMth, eMeth, methK, eMake, eFmt, eJoin, jGo, mIsi, tyN, isT, gG, hk, ga]
    · refine ⟨0, by omega, ?_⟩
      simp [fnM, runB, eLit, eVar, eBin, eUn, aNil, aCons, eApp, eTup, eLst, eIf, eAnd, eOr, eNot, eChain, tVal, Mir.tAnd, Mir.tOr, Mir.tNot, Mir.tYes, sCons, sNil, sExpr, sSet, sRet, sRetN, sIf, sPass, sBreak, sCont, sBind, sPar, sAug, Mir.sPut, Mir.sFld, Mir.sFldAug, mFld, pNil, pCons, sFor, iAny, mIter, iZip, bName, bTup, bsCons, bsNil, mAdd, mAddI, mSub, mMul, mDiv, mMod, mPow, mNeg, mLt, mLe, mGt, mGe, mEq, mNe, eqD, mIsN, mNotN, mIx, mIn, mNotIn, inD, fLen, fAbs, fMax2, fMin2, fInt, fStr, itemsD, isKey, boolsD, eSlice, oNone, oSome, mSl, eMth, eMeth, methK, eMake, eFmt, eJoin, jGo, mIsi, tyN, isT, gG, hk]
  obtain ⟨cs, hcs⟩ : ∃ cs : List Int, s1 ++ s2 ++ [41 * (k : Int) + 13] = cs := ⟨_, rfl⟩
  obtain ⟨H4, hH4⟩ : ∃ H4, H2 ++ [MO.lst [.int (41 * (k : Int) + 13)], .lst (cs.map .int)] = H4 := ⟨_, rfl⟩
  have ecells : eBin mAdd (eVar 2) (eLst (aCons (eBin mAdd (eBin mMul (eLit (.int 41)) (eVar 1)) (eLit (.int 13))) aNil)) [some (scr ns), some (.int k), some (.loc (h.length + 2)), some (.loc H1.length), some (.int v), x5] H2 = .ok (.loc (H2.length + 1)) H4 := by
    have o : mulOk 41 (k : Int) = true := mulOk_log (a := 100) (b := 100) (by decide) (by omega) (by decide)
    have gC2 : (H2 ++ [MO.lst [.int (41 * (k : Int) + 13)]])[h.length + 2]? = some (.lst ((s1 ++ s2).map .int)) := by rw [List.getElem?_append_left (List.getElem?_eq_some_iff.mp gC).1]; exact gC
    have gN := get_last H2 (MO.lst [.int (41 * (k : Int) + 13)])
    have lq : s1.length + s2.length + 1 ≤ 100000 := by omega
    rw [← hH4, ← hcs]
    simp only [List.map_append] at gC2
    ((try simp [fnM, runB, eLit, eVar, eBin, eUn, aNil, aCons, eApp, eTup, eLst, eIf, eAnd, eOr, eNot, eChain, tVal, Mir.tAnd, Mir.tOr, Mir.tNot, Mir.tYes, sCons, sNil, sExpr, sSet, sRet, sRetN, sIf, sPass, sBreak, sCont, sBind, sPar, sAug, Mir.sPut, Mir.sFld, Mir.sFldAug, mFld, pNil, pCons, sFor, iAny, mIter, iZip, bName, bTup, bsCons, bsNil, mAdd, mAddI, mSub, mMul, mDiv, mMod, mPow, mNeg, mLt, mLe, mGt, mGe, mEq, mNe, eqD, mIsN, mNotN, mIx, mIn, mNotIn, inD, fLen, fAbs, fMax2, fMin2, fInt, fStr, itemsD, isKey, boolsD, eSlice, oNone, oSome, mSl, eMth, eMeth, methK, eMake, eFmt, eJoin, jGo, mIsi, tyN, isT, o, gC2, gN]); repeat (rw [if_pos (by (try simp only [List.length_append, List.length_cons, List.length_nil, List.length_replicate]); omega)]; try simp [fnM, runB, eLit, eVar, eBin, eUn, aNil, aCons, eApp, eTup, eLst, eIf, eAnd, eOr, eNot, eChain, tVal, Mir.tAnd, Mir.tOr, Mir.tNot, Mir.tYes, sCons, sNil, sExpr, sSet, sRet, sRetN, sIf, sPass, sBreak, sCont, sBind, sPar, sAug, Mir.sPut, Mir.sFld, Mir.sFldAug, mFld, pNil, pCons, sFor, iAny, mIter, iZip, bName, bTup, bsCons, bsNil, mAdd, mAddI, mSub, mMul, mDiv, mMod, mPow, mNeg, mLt, mLe, mGt, mGe, mEq, mNe, eqD, mIsN, mNotN, mIx, mIn, mNotIn, inD, fLen, fAbs, fMax2, fMin2, fInt, fStr, itemsD, isKey, boolsD, eSlice, oNone, oSome, mSl, eMth, eMeth, methK, eMake, eFmt, eJoin, jGo, mIsi, tyN, isT, o, gC2, gN]))
    omega
  obtain ⟨H5, hH5⟩ : ∃ H5, H4 ++ [MO.dic (dk l v (H2.length + 1) 0)] = H5 := ⟨_, rfl⟩
  have eret : sRet (eDict (pCons (eLit (.str [108, 101, 102, 116])) (eIf (tVal (eBin mLt (eVar 1) (eApp fLen (aCons (eVar 3) aNil)))) (eBin mIx (eVar 3) (eVar 1)) (eLit (.int 0))) (pCons (eLit (.str [115, 101, 101, 100])) (eVar 4) (pCons (eLit (.str [99, 101, 108, 108, 115])) (eBin mAdd (eVar 2) (eLst (aCons (eBin mAdd (eBin mMul (eLit (.int 41)) (eVar 1)) (eLit (.int 13))) aNil))) (pCons (eLit (.str [115, 112, 111, 116])) (eLit (.int 0)) pNil)))))
      [some (scr ns), some (.int k), some (.loc (h.length + 2)), some (.loc H1.length), some (.int v), x5] H2 = .rt (.loc H4.length) H5 := by
    rw [← hH5]
    generalize eIf (tVal (eBin mLt (eVar 1) (eApp fLen (aCons (eVar 3) aNil)))) (eBin mIx (eVar 3) (eVar 1)) (eLit (.int 0)) = J1 at *
    generalize eBin mAdd (eVar 2) (eLst (aCons (eBin mAdd (eBin mMul (eLit (.int 41)) (eVar 1)) (eLit (.int 13))) aNil)) = J2 at *
    have kd : (if ([(D.str [108, 101, 102, 116], D.int l), (D.str [115, 101, 101, 100], D.int v), (D.str [99, 101, 108, 108, 115], D.loc (H2.length + 1)), (D.str [115, 112, 111, 116], D.int 0)] : List (D × D)).length ≤ 15 ∧ (([(D.str [108, 101, 102, 116], D.int l), (D.str [115, 101, 101, 100], D.int v), (D.str [99, 101, 108, 108, 115], D.loc (H2.length + 1)), (D.str [115, 112, 111, 116], D.int 0)] : List (D × D)).all fun p => isKey p.1) = true ∧ (([(D.str [108, 101, 102, 116], D.int l), (D.str [115, 101, 101, 100], D.int v), (D.str [99, 101, 108, 108, 115], D.loc (H2.length + 1)), (D.str [115, 112, 111, 116], D.int 0)] : List (D × D)).map (·.1)).Nodup then (R.ok (D.loc H4.length) (H4 ++ [MO.dic (dk l v (H2.length + 1) 0)]) : R D) else .stuck) = R.ok (D.loc H4.length) (H4 ++ [MO.dic (dk l v (H2.length + 1) 0)]) := if_pos ⟨by simp, rfl, by show ([D.str [108, 101, 102, 116], D.str [115, 101, 101, 100], D.str [99, 101, 108, 108, 115], D.str [115, 112, 111, 116]] : List D).Nodup; decide⟩
    unfold sRet eDict pCons pNil
    simp only [eLit, bind_ok]
    rw [hleft]
    simp only [bind_ok]
    simp only [pCons, eLit, bind_ok, eVar, List.getElem?_cons_succ, List.getElem?_cons_zero, ecells, pNil]
    have := congrArg (fun r : R D => r.toS [some (scr ns), some (.int k), some (.loc (h.length + 2)), some (.loc H1.length), some (.int v), x5] fun d h1 => SR.rt d h1) kd
    exact this
  have run : b__law_begun (M n) [some (scr ns), some (.int k), none, none, none, none] h = .rt (.loc H4.length) H5 := by
    unfold b__law_begun
    rw [sCons_nx e2, sCons_nx e3, sCons_nx e4, sCons_nx efor]
    exact eret
  have hrun := runB_rt (N := 6) (ds := [scr ns, .int k]) rfl run
  have lenH4 : H4.length = h.length + 6 := by
    rw [← hH4, ← hH2]
    simp
    omega
  have lenH2 : H2.length = h.length + 4 := by
    rw [← hH2]
    simp
    omega
  have gM : H5[H4.length]? = some (.dic (dk l v (H2.length + 1) 0)) := by rw [← hH5]; simp
  have gc5 : H5[H2.length + 1]? = some (.lst (cs.map .int)) := by
    rw [← hH5, List.getElem?_append_left (by omega), ← hH4]
    simp
  refine ⟨H4.length, H2.length + 1, cs, H5, ?_, ⟨⟨l, v, 0, gM, hl0, v0, v1, by omega, by omega⟩, gc5, by rw [← hcs]; simp, fun z hz => ?_, by omega⟩⟩
  · rw [M__law_begun]
    unfold fnM
    rw [if_pos (show ([scr ns, D.int (k : Int)] : List D).length = 2 from rfl), hrun]
    refine gc_loc (by omega) gM ?_
    simp [MO.bel, dk, D.bel]
    omega
  · rw [← hcs] at hz
    rcases List.mem_append.mp hz with hz | hz
    · exact hb z (hm z hz)
    · rw [List.mem_singleton.mp hz]
      have : (2 : Nat) ^ 10 ≤ 2 ^ 1048577 := Nat.pow_le_pow_right (by decide) (by decide)
      have e10 : (2 : Nat) ^ 10 = 1024 := by decide
      generalize (2 : Nat) ^ 1048577 = P at *
      omega

/-! the law -/
structure GI (m c N : Nat) (cs : List Int) (ns : List Int) (t : D) (H0 : MH) (j : Nat) (ρ : En) (hh : MH) : Prop where
  ex : ∃ (names : List (List Nat)) (x2 x5 : Option D), ρ = [some (scr ns), some t, x2, some (.loc m), some (.loc N), x5] ∧ hh[N]? = some (.lst (names.map .str)) ∧ (∀ w ∈ names, Nm w) ∧ names.length ≤ j ∧ (1 ≤ j → names ≠ [])
  s : S m c cs (1 + 20 * j) hh
theorem turn_ok (ns : List Int) (t : Nat) (h : MH) (x2 x3 x4 x5 : Option D) (ht : t ≤ 1) (hn : ns.length ≤ 63) (hb : ∀ z ∈ ns, z.natAbs < 2 ^ 1048577) :
    ∃ y2 y3 y4 y5 h2, (sCons (sPar [3, 4] (aCons (eApp (M 71 ._law_begun) (aCons (eVar 0) (aCons (eVar 1) aNil))) (aCons (eLst aNil) aNil)))
  (sCons (sFor (iRange1 (aCons (eBin mAdd (eLit (.int 1)) (eApp (M 71 ._law_draw) (aCons (eVar 3) (aCons (eLit (.int 4)) aNil)))) aNil)) (bName 2) (sCons (sSet 5 (eApp (M 71 ._law_name) (aCons (eVar 3) aNil)))
  (sIf (tVal (eBin mNotIn (eVar 5) (eVar 4))) (sExpr (eMth isLst yAppend (eVar 4) (aCons (eVar 5) aNil))) sNil)))
  (sIf (tOr (tNot (tVal (eApp (M 71 ._law_saying_right) (aCons (eVar 3) (aCons (eVar 4) aNil))))) (tNot (tVal (eApp (M 71 ._law_values_right) (aCons (eVar 3) (aCons (eVar 4) aNil)))))) (sRet (eLit (.bl false))) sNil)))
      [some (scr ns), some (.int t), x2, x3, x4, x5] h = .nx [some (scr ns), some (.int t), y2, y3, y4, y5] h2 := by
  obtain ⟨m, c, cs, H, eb, s0⟩ := begun_ok 70 h ht hn hb
  have e0 : sPar [3, 4] (aCons (eApp (M 71 ._law_begun) (aCons (eVar 0) (aCons (eVar 1) aNil))) (aCons (eLst aNil) aNil)) [some (scr ns), some (.int t), x2, x3, x4, x5] h = .nx [some (scr ns), some (.int t), x2, some (.loc m), some (.loc H.length), x5] (H ++ [.lst []]) := by
    simp [fnM, runB, eLit, eVar, eBin, eUn, aNil, aCons, eApp, eTup, eLst, eIf, eAnd, eOr, eNot, eChain, tVal, Mir.tAnd, Mir.tOr, Mir.tNot, Mir.tYes, sCons, sNil, sExpr, sSet, sRet, sRetN, sIf, sPass, sBreak, sCont, sBind, sPar, sAug, Mir.sPut, Mir.sFld, Mir.sFldAug, mFld, pNil, pCons, sFor, iAny, mIter, iZip, bName, bTup, bsCons, bsNil, mAdd, mAddI, mSub, mMul, mDiv, mMod, mPow, mNeg, mLt, mLe, mGt, mGe, mEq, mNe, eqD, mIsN, mNotN, mIx, mIn, mNotIn, inD, fLen, fAbs, fMax2, fMin2, fInt, fStr, itemsD, isKey, boolsD, eSlice, oNone, oSome, mSl, eMth, eMeth, methK, eMake, eFmt, eJoin, jGo, mIsi, tyN, isT, eb]
  obtain ⟨q, h1, e1, q0, q1, s1, v1⟩ := draw' 70 (below := 4) (s0.push [MO.lst []]) (by omega) (by omega) (by omega)
  obtain ⟨K, hK⟩ : ∃ K : Nat, 1 + q = (K : Int) := ⟨(1 + q).toNat, by omega⟩
  have hlt := s0.lt
  have hNm : H.length ≠ m := by omega
  have hNc : H.length ≠ c := by omega
  have gN := v1.get (get_last H (MO.lst [])) hNm
  obtain ⟨ρ', h2, ef, ⟨names, y2, y5, rfl, gN2, gnm, gle, gne⟩, s2⟩ := for_rng (i := 2) (lo := 0) (n := K) (GI m c H.length cs ns (.int t) h1)
    (body := sCons (sSet 5 (eApp (M 71 ._law_name) (aCons (eVar 3) aNil)))
  (sIf (tVal (eBin mNotIn (eVar 5) (eVar 4))) (sExpr (eMth isLst yAppend (eVar 4) (aCons (eVar 5) aNil))) sNil)) (fun j ρ hh hj ⟨⟨names, x2, x5, e, g1, g2, g3, g4⟩, sj⟩ => by
      subst e
      obtain ⟨d, h3, e3, ⟨w, rfl, hw⟩, s3, v3⟩ := name_ok 69 sj (by omega)
      have g1' := v3.get g1 hNm
      have hin : ∀ H : MH, inP (.str w) (names.map .str) H = some (names.contains w) := fun H => by
        unfold inP
        rw [if_pos ⟨rfl, by simp [flatD]⟩]
        congr 1
        rw [List.any_map, Bool.eq_iff_iff, List.any_eq_true, List.contains_iff_mem]
        constructor
        · rintro ⟨x, hx, e⟩
          have : x = w := by simpa [eqF] using e
          exact this ▸ hx
        · intro hw
          exact ⟨w, hw, by simp [eqF]⟩
      by_cases hm : w ∈ names
      · have hin := fun H => (hin H).trans (congrArg some (List.contains_iff_mem.mpr hm))
        refine ⟨[some (scr ns), some (.int t), some (.int (0 + (j : Nat))), some (.loc m), some (.loc H.length), some (.str w)], h3, ?_, ⟨names, _, _, rfl, g1', g2, by omega, fun _ => List.ne_nil_of_mem hm⟩, s3.mono (by omega)⟩
        generalize names.map D.str = NN at *
        simp [fnM, runB, eLit, eVar, eBin, eUn, aNil, aCons, eApp, eTup, eLst, eIf, eAnd, eOr, eNot, eChain, tVal, Mir.tAnd, Mir.tOr, Mir.tNot, Mir.tYes, sCons, sNil, sExpr, sSet, sRet, sRetN, sIf, sPass, sBreak, sCont, sBind, sPar, sAug, Mir.sPut, Mir.sFld, Mir.sFldAug, mFld, pNil, pCons, sFor, iAny, mIter, iZip, bName, bTup, bsCons, bsNil, mAdd, mAddI, mSub, mMul, mDiv, mMod, mPow, mNeg, mLt, mLe, mGt, mGe, mEq, mNe, eqD, mIsN, mNotN, mIx, mIn, mNotIn, inD, fLen, fAbs, fMax2, fMin2, fInt, fStr, itemsD, isKey, boolsD, eSlice, oNone, oSome, mSl, eMth, eMeth, methK, eMake, eFmt, eJoin, jGo, mIsi, tyN, isT, e3, g1', hin]
      · have hf : names.contains w = false := by rw [Bool.eq_false_iff]; exact fun z => hm (List.contains_iff_mem.mp z)
        have hin := fun H => (hin H).trans (congrArg some hf)
        refine ⟨[some (scr ns), some (.int t), some (.int (0 + (j : Nat))), some (.loc m), some (.loc H.length), some (.str w)], h3.set H.length (.lst (names.map .str ++ [.str w])), ?_, ⟨names ++ [w], _, _, rfl, ?_, fun u hu => ?_, by rw [List.length_append]; show names.length + 1 ≤ _; omega, fun _ => by simp⟩, ?_⟩
        · have hl : (names.map D.str).length < 100000 := by rw [List.length_map]; omega
          generalize names.map D.str = NN at *
          simp [fnM, runB, eLit, eVar, eBin, eUn, aNil, aCons, eApp, eTup, eLst, eIf, eAnd, eOr, eNot, eChain, tVal, Mir.tAnd, Mir.tOr, Mir.tNot, Mir.tYes, sCons, sNil, sExpr, sSet, sRet, sRetN, sIf, sPass, sBreak, sCont, sBind, sPar, sAug, Mir.sPut, Mir.sFld, Mir.sFldAug, mFld, pNil, pCons, sFor, iAny, mIter, iZip, bName, bTup, bsCons, bsNil, mAdd, mAddI, mSub, mMul, mDiv, mMod, mPow, mNeg, mLt, mLe, mGt, mGe, mEq, mNe, eqD, mIsN, mNotN, mIx, mIn, mNotIn, inD, fLen, fAbs, fMax2, fMin2, fInt, fStr, itemsD, isKey, boolsD, eSlice, oNone, oSome, mSl, eMth, eMeth, methK, eMake, eFmt, eJoin, jGo, mIsi, tyN, isT, e3, g1', hin, isLst, yAppend, hl]
        · have := (List.getElem?_eq_some_iff.mp g1').1
          simp [this]
        · rcases List.mem_append.mp hu with hu | hu
          · exact g2 u hu
          · rw [List.mem_singleton.mp hu]; exact hw
        · exact (s3.same (List.getElem?_set_ne hNm) (List.getElem?_set_ne hNc)).mono (by omega))
    (ρ := [some (scr ns), some (.int t), x2, some (.loc m), some (.loc H.length), x5]) (h := h1) ⟨⟨[], _, _, rfl, gN, by simp, by simp, by omega⟩, s1⟩
  have hit : iRange1 (aCons (eBin mAdd (eLit (.int 1)) (eApp (M 71 ._law_draw) (aCons (eVar 3) (aCons (eLit (.int 4)) aNil)))) aNil) [some (scr ns), some (.int t), x2, some (.loc m), some (.loc H.length), x5] (H ++ [.lst []]) = .ok ⟨rng 0 K, []⟩ h1 := iRange1_nat (i := 1 + q) (by simp [fnM, runB, eLit, eVar, eBin, eUn, aNil, aCons, eApp, eTup, eLst, eIf, eAnd, eOr, eNot, eChain, tVal, Mir.tAnd, Mir.tOr, Mir.tNot, Mir.tYes, sCons, sNil, sExpr, sSet, sRet, sRetN, sIf, sPass, sBreak, sCont, sBind, sPar, sAug, Mir.sPut, Mir.sFld, Mir.sFldAug, mFld, pNil, pCons, sFor, iAny, mIter, iZip, bName, bTup, bsCons, bsNil, mAdd, mAddI, mSub, mMul, mDiv, mMod, mPow, mNeg, mLt, mLe, mGt, mGe, mEq, mNe, eqD, mIsN, mNotN, mIx, mIn, mNotIn, inD, fLen, fAbs, fMax2, fMin2, fInt, fStr, itemsD, isKey, boolsD, eSlice, oNone, oSome, mSl, eMth, eMeth, methK, eMake, eFmt, eJoin, jGo, mIsi, tyN, isT, e1]) hK (by omega)
  have efor := sFor_nx (b := bName 2) hit ef
  obtain ⟨d4, h4, e4, rfl, s4, v4⟩ := saying_right 5 s2 gN2 hNm (gne (by omega)) (by omega) gnm (by omega)
  obtain ⟨d5, h5, e5, rfl, s5, v5⟩ := values_right 66 s4 (v4.get gN2 hNm) hNm (by omega) gnm (by omega)
  refine ⟨y2, some (.loc m), some (.loc H.length), y5, h5, ?_⟩
  rw [sCons_nx e0, sCons_nx efor]
  simp [fnM, runB, eLit, eVar, eBin, eUn, aNil, aCons, eApp, eTup, eLst, eIf, eAnd, eOr, eNot, eChain, tVal, Mir.tAnd, Mir.tOr, Mir.tNot, Mir.tYes, sCons, sNil, sExpr, sSet, sRet, sRetN, sIf, sPass, sBreak, sCont, sBind, sPar, sAug, Mir.sPut, Mir.sFld, Mir.sFldAug, mFld, pNil, pCons, sFor, iAny, mIter, iZip, bName, bTup, bsCons, bsNil, mAdd, mAddI, mSub, mMul, mDiv, mMod, mPow, mNeg, mLt, mLe, mGt, mGe, mEq, mNe, eqD, mIsN, mNotN, mIx, mIn, mNotIn, inD, fLen, fAbs, fMax2, fMin2, fInt, fStr, itemsD, isKey, boolsD, eSlice, oNone, oSome, mSl, eMth, eMeth, methK, eMake, eFmt, eJoin, jGo, mIsi, tyN, isT, e4, e5]
abbrev NN : Nat := 72
theorem bits_lt {z : Int} (h : PySem.Builtin.Int.intBits z ≤ 1048576) : z.natAbs < 2 ^ 1048577 := by
  unfold PySem.Builtin.Int.intBits at h
  split at h
  · rename_i e
    have : z = 0 := by simpa using e
    subst this
    exact Nat.two_pow_pos _
  · rename_i e
    have h0 : z.natAbs ≠ 0 := by
      intro q
      have : z = 0 := by omega
      subst this
      simp at e
    exact (Nat.log2_lt h0).mp (by omega)
theorem law_true : ∀ ns : List Int, ns.length ≤ 63 → (∀ z ∈ ns, PySem.Builtin.Int.intBits z ≤ 1048576) → ∃ h', M NN .law [Mir.scr ns] [] = .ok (.bl true) h' := by
  intro ns hn hb
  have hb' : ∀ z ∈ ns, z.natAbs < 2 ^ 1048577 := fun z hz => bits_lt (hb z hz)
  obtain ⟨R, hR, hR2⟩ : ∃ R : Nat, (1 : Int) + (if (2 : Int) < (ns.length : Int) then 1 else 0) = (R : Int) ∧ R ≤ 2 := by
    by_cases h : (2 : Int) < (ns.length : Int)
    · rw [if_pos h]; exact ⟨2, rfl, by omega⟩
    · rw [if_neg h]; exact ⟨1, rfl, by omega⟩
  have lp := for_rng (i := 1) (lo := 0) (n := R) (fun j ρ hh => ∃ x1 x2 x3 x4 x5, ρ = [some (scr ns), x1, x2, x3, x4, x5])
    (body := (sCons (sPar [3, 4] (aCons (eApp (M 71 ._law_begun) (aCons (eVar 0) (aCons (eVar 1) aNil))) (aCons (eLst aNil) aNil)))
  (sCons (sFor (iRange1 (aCons (eBin mAdd (eLit (.int 1)) (eApp (M 71 ._law_draw) (aCons (eVar 3) (aCons (eLit (.int 4)) aNil)))) aNil)) (bName 2) (sCons (sSet 5 (eApp (M 71 ._law_name) (aCons (eVar 3) aNil)))
  (sIf (tVal (eBin mNotIn (eVar 5) (eVar 4))) (sExpr (eMth isLst yAppend (eVar 4) (aCons (eVar 5) aNil))) sNil)))
  (sIf (tOr (tNot (tVal (eApp (M 71 ._law_saying_right) (aCons (eVar 3) (aCons (eVar 4) aNil))))) (tNot (tVal (eApp (M 71 ._law_values_right) (aCons (eVar 3) (aCons (eVar 4) aNil)))))) (sRet (eLit (.bl false))) sNil)))) (fun j ρ hh hj ⟨x1, x2, x3, x4, x5, e⟩ => by
      subst e
      obtain ⟨y2, y3, y4, y5, h2, e⟩ := turn_ok ns j hh x2 x3 x4 x5 (by omega) hn hb'
      refine ⟨[some (scr ns), some (.int (j : Int)), y2, y3, y4, y5], h2, ?_, _, _, _, _, _, rfl⟩
      rw [show (0 : Int) + ((j : Nat) : Int) = ((j : Nat) : Int) by omega]
      exact e)
    (ρ := [some (scr ns), none, none, none, none, none]) (h := []) ⟨_, _, _, _, _, rfl⟩
  obtain ⟨ρ', h', ef, x1, x2, x3, x4, x5, rfl⟩ := lp
  have hit : iRange1 (aCons (eBin mAdd (eLit (.int 1)) (eApp fInt (aCons (eBin mGt (eApp fLen (aCons (eVar 0) aNil)) (eLit (.int 2))) aNil))) aNil) [some (scr ns), none, none, none, none, none] [] = .ok ⟨rng 0 R, []⟩ [] := by
    refine iRange1_nat (i := (1 : Int) + (if (2 : Int) < (ns.length : Int) then 1 else 0)) ?_ hR (by omega)
    unfold scr
    by_cases h : (2 : Int) < (ns.length : Int)
    · simp [fnM, runB, eLit, eVar, eBin, eUn, aNil, aCons, eApp, eTup, eLst, eIf, eAnd, eOr, eNot, eChain, tVal, Mir.tAnd, Mir.tOr, Mir.tNot, Mir.tYes, sCons, sNil, sExpr, sSet, sRet, sRetN, sIf, sPass, sBreak, sCont, sBind, sPar, sAug, Mir.sPut, Mir.sFld, Mir.sFldAug, mFld, pNil, pCons, sFor, iAny, mIter, iZip, bName, bTup, bsCons, bsNil, mAdd, mAddI, mSub, mMul, mDiv, mMod, mPow, mNeg, mLt, mLe, mGt, mGe, mEq, mNe, eqD, mIsN, mNotN, mIx, mIn, mNotIn, inD, fLen, fAbs, fMax2, fMin2, fInt, fStr, itemsD, isKey, boolsD, eSlice, oNone, oSome, mSl, eMth, eMeth, methK, eMake, eFmt, eJoin, jGo, mIsi, tyN, isT, h]
    · simp [fnM, runB, eLit, eVar, eBin, eUn, aNil, aCons, eApp, eTup, eLst, eIf, eAnd, eOr, eNot, eChain, tVal, Mir.tAnd, Mir.tOr, Mir.tNot, Mir.tYes, sCons, sNil, sExpr, sSet, sRet, sRetN, sIf, sPass, sBreak, sCont, sBind, sPar, sAug, Mir.sPut, Mir.sFld, Mir.sFldAug, mFld, pNil, pCons, sFor, iAny, mIter, iZip, bName, bTup, bsCons, bsNil, mAdd, mAddI, mSub, mMul, mDiv, mMod, mPow, mNeg, mLt, mLe, mGt, mGe, mEq, mNe, eqD, mIsN, mNotN, mIx, mIn, mNotIn, inD, fLen, fAbs, fMax2, fMin2, fInt, fStr, itemsD, isKey, boolsD, eSlice, oNone, oSome, mSl, eMth, eMeth, methK, eMake, eFmt, eJoin, jGo, mIsi, tyN, isT, h]
  have efor := sFor_nx (b := bName 1) hit ef
  have run : b_law (M 71) [some (scr ns), none, none, none, none, none] [] = .rt (.bl true) h' := by
    unfold b_law
    rw [sCons_nx efor]
    rfl
  have hrun := runB_rt (N := 6) (ds := [scr ns]) rfl run
  obtain ⟨h9, e9, _⟩ := fnM_ev (P := 1) rfl hrun rfl (Nat.zero_le _)
  exact ⟨h9, by rw [show NN = 71 + 1 from rfl, M_law]; exact e9⟩
end K65
set_option Elab.async false
set_option linter.all false
set_option maxRecDepth 100000
set_option autoImplicit false
/-! printed by gen.py: the end. -/
open PySem PySem.W PyProof.Rows
set_option maxHeartbeats 0 in
theorem PySem.Challenge.cw_halftruths_k65_texts_there_and_back_holds : PySem.Challenge.rw_halftruths_k65_texts_there_and_back.Holds := by
  w_on; o_law; k_head; (case hw => w_witness2)
  k_fill
  refine Mir.walkG (l := PySem.Challenge.rw_halftruths_k65_texts_there_and_back) (n := 63) (k := 2 * K65.NN) (x := "_law_script") (m := K65.M K65.NN .law) (lv := K65.lv) rfl (by decide) rfl ⟨rfl, by decide, by decide⟩ (fun w h Y => PySem.W.kIn_of Y) ?F ?hm
  case hm => exact K65.law_true
  case F =>
    intro w mg fa h KX G L hmg
    refine K65.all_mk K65.NN KX L hmg ?D ?Fx
    case D =>
      constructor
      case f_is_name =>
        refine' Mir.df_mk KX G ?a ?l ?c ?k ?hb
        (case a => k_is); (case l => k_is); (case c => k_is); (case k => k_is)
        (case hb => exact fun _ _ _ _ _ _ us hl => match us, hl with | [_], _ => rfl)
      case f_common =>
        refine' Mir.df_mk KX G ?a ?l ?c ?k ?hb
        (case a => k_is); (case l => k_is); (case c => k_is); (case k => k_is)
        (case hb => exact fun _ _ _ _ _ _ us hl => match us, hl with | [_, _], _ => rfl)
      case f_lowest =>
        refine' Mir.df_mk KX G ?a ?l ?c ?k ?hb
        (case a => k_is); (case l => k_is); (case c => k_is); (case k => k_is)
        (case hb => exact fun _ _ _ _ _ _ us hl => match us, hl with | [_, _], _ => rfl)
      case f_fraction =>
        refine' Mir.df_mk KX G ?a ?l ?c ?k ?hb
        (case a => k_is); (case l => k_is); (case c => k_is); (case k => k_is)
        (case hb => exact fun _ _ _ _ _ _ us hl => match us, hl with | [_, _], _ => rfl)
      case f_saying_text =>
        refine' Mir.df_mk KX G ?a ?l ?c ?k ?hb
        (case a => k_is); (case l => k_is); (case c => k_is); (case k => k_is)
        (case hb => exact fun _ _ _ _ _ _ us hl => match us, hl with | [_], _ => rfl)
      case f_value_text =>
        refine' Mir.df_mk KX G ?a ?l ?c ?k ?hb
        (case a => k_is); (case l => k_is); (case c => k_is); (case k => k_is)
        (case hb => exact fun _ _ _ _ _ _ us hl => match us, hl with | [_], _ => rfl)
      case f_point_text =>
        refine' Mir.df_mk KX G ?a ?l ?c ?k ?hb
        (case a => k_is); (case l => k_is); (case c => k_is); (case k => k_is)
        (case hb => exact fun _ _ _ _ _ _ us hl => match us, hl with | [_, _], _ => rfl)
      case f__word_from =>
        refine' Mir.df_mk KX G ?a ?l ?c ?k ?hb
        (case a => k_is); (case l => k_is); (case c => k_is); (case k => k_is)
        (case hb => exact fun _ _ _ _ _ _ us hl => match us, hl with | [_, _], _ => rfl)
      case f__tokens =>
        refine' Mir.df_mk KX G ?a ?l ?c ?k ?hb
        (case a => k_is); (case l => k_is); (case c => k_is); (case k => k_is)
        (case hb => exact fun _ _ _ _ _ _ us hl => match us, hl with | [_], _ => rfl)
      case i_Reader =>
        refine' Mir.di_mk KX G ?aC ?mk ?kc ?a ?i ?l ?cc ?k ?hb
        (case aC => k_is); (case mk => k_is); (case kc => k_is); (case a => k_is); (case i => k_is); (case l => k_is); (case cc => k_is); (case k => k_is)
        (case hb => exact fun _ _ _ _ _ _ us hl => match us, hl with | [_, _], _ => rfl)
      case m_Reader_now =>
        refine' Mir.dm_mk KX G ?aC ?pg ?hd ?po ?sa ?a ?i ?l ?cc ?k ?hb
        (case aC => k_is); (case pg => k_is); (case hd => k_is); (case po => k_is); (case sa => k_is); (case a => k_is); (case i => k_is); (case l => k_is); (case cc => k_is); (case k => k_is)
        (case hb => exact fun _ _ _ _ _ _ us hl => match us, hl with | [_], _ => rfl)
      case m_Reader_place =>
        refine' Mir.dm_mk KX G ?aC ?pg ?hd ?po ?sa ?a ?i ?l ?cc ?k ?hb
        (case aC => k_is); (case pg => k_is); (case hd => k_is); (case po => k_is); (case sa => k_is); (case a => k_is); (case i => k_is); (case l => k_is); (case cc => k_is); (case k => k_is)
        (case hb => exact fun _ _ _ _ _ _ us hl => match us, hl with | [_], _ => rfl)
      case m_Reader_take =>
        refine' Mir.dm_mk KX G ?aC ?pg ?hd ?po ?sa ?a ?i ?l ?cc ?k ?hb
        (case aC => k_is); (case pg => k_is); (case hd => k_is); (case po => k_is); (case sa => k_is); (case a => k_is); (case i => k_is); (case l => k_is); (case cc => k_is); (case k => k_is)
        (case hb => exact fun _ _ _ _ _ _ us hl => match us, hl with | [_, _], _ => rfl)
      case m_Reader_item =>
        refine' Mir.dm_mk KX G ?aC ?pg ?hd ?po ?sa ?a ?i ?l ?cc ?k ?hb
        (case aC => k_is); (case pg => k_is); (case hd => k_is); (case po => k_is); (case sa => k_is); (case a => k_is); (case i => k_is); (case l => k_is); (case cc => k_is); (case k => k_is)
        (case hb => exact fun _ _ _ _ _ _ us hl => match us, hl with | [_], _ => rfl)
      case m_Reader_pair =>
        refine' Mir.dm_mk KX G ?aC ?pg ?hd ?po ?sa ?a ?i ?l ?cc ?k ?hb
        (case aC => k_is); (case pg => k_is); (case hd => k_is); (case po => k_is); (case sa => k_is); (case a => k_is); (case i => k_is); (case l => k_is); (case cc => k_is); (case k => k_is)
        (case hb => exact fun _ _ _ _ _ _ us hl => match us, hl with | [_], _ => rfl)
      case f_read_saying =>
        refine' Mir.df_mk KX G ?a ?l ?c ?k ?hb
        (case a => k_is); (case l => k_is); (case c => k_is); (case k => k_is)
        (case hb => exact fun _ _ _ _ _ _ us hl => match us, hl with | [_], _ => rfl)
      case f__digits_from =>
        refine' Mir.df_mk KX G ?a ?l ?c ?k ?hb
        (case a => k_is); (case l => k_is); (case c => k_is); (case k => k_is)
        (case hb => exact fun _ _ _ _ _ _ us hl => match us, hl with | [_, _], _ => rfl)
      case f_read_value =>
        refine' Mir.df_mk KX G ?a ?l ?c ?k ?hb
        (case a => k_is); (case l => k_is); (case c => k_is); (case k => k_is)
        (case hb => exact fun _ _ _ _ _ _ us hl => match us, hl with | [_], _ => rfl)
      case f__law_begun =>
        refine' Mir.df_mk KX G ?a ?l ?c ?k ?hb
        (case a => k_is); (case l => k_is); (case c => k_is); (case k => k_is)
        (case hb => exact fun _ _ _ _ _ _ us hl => match us, hl with | [_, _], _ => rfl)
      case f__law_draw =>
        refine' Mir.df_mk KX G ?a ?l ?c ?k ?hb
        (case a => k_is); (case l => k_is); (case c => k_is); (case k => k_is)
        (case hb => exact fun _ _ _ _ _ _ us hl => match us, hl with | [_, _], _ => rfl)
      case f__law_of =>
        refine' Mir.df_mk KX G ?a ?l ?c ?k ?hb
        (case a => k_is); (case l => k_is); (case c => k_is); (case k => k_is)
        (case hb => exact fun _ _ _ _ _ _ us hl => match us, hl with | [_, _], _ => rfl)
      case f__law_saying =>
        refine' Mir.df_mk KX G ?a ?l ?c ?k ?hb
        (case a => k_is); (case l => k_is); (case c => k_is); (case k => k_is)
        (case hb => exact fun _ _ _ _ _ _ us hl => match us, hl with | [_, _, _], _ => rfl)
      case f__law_lowest =>
        refine' Mir.df_mk KX G ?a ?l ?c ?k ?hb
        (case a => k_is); (case l => k_is); (case c => k_is); (case k => k_is)
        (case hb => exact fun _ _ _ _ _ _ us hl => match us, hl with | [_, _], _ => rfl)
      case f__law_name =>
        refine' Mir.df_mk KX G ?a ?l ?c ?k ?hb
        (case a => k_is); (case l => k_is); (case c => k_is); (case k => k_is)
        (case hb => exact fun _ _ _ _ _ _ us hl => match us, hl with | [_], _ => rfl)
      case f__law_written =>
        refine' Mir.df_mk KX G ?a ?l ?c ?k ?hb
        (case a => k_is); (case l => k_is); (case c => k_is); (case k => k_is)
        (case hb => exact fun _ _ _ _ _ _ us hl => match us, hl with | [_], _ => rfl)
      case f__law_blanks =>
        refine' Mir.df_mk KX G ?a ?l ?c ?k ?hb
        (case a => k_is); (case l => k_is); (case c => k_is); (case k => k_is)
        (case hb => exact fun _ _ _ _ _ _ us hl => match us, hl with | [_, _], _ => rfl)
      case f__law_loose =>
        refine' Mir.df_mk KX G ?a ?l ?c ?k ?hb
        (case a => k_is); (case l => k_is); (case c => k_is); (case k => k_is)
        (case hb => exact fun _ _ _ _ _ _ us hl => match us, hl with | [_, _], _ => rfl)
      case f__law_value =>
        refine' Mir.df_mk KX G ?a ?l ?c ?k ?hb
        (case a => k_is); (case l => k_is); (case c => k_is); (case k => k_is)
        (case hb => exact fun _ _ _ _ _ _ us hl => match us, hl with | [_], _ => rfl)
      case f__law_value_written =>
        refine' Mir.df_mk KX G ?a ?l ?c ?k ?hb
        (case a => k_is); (case l => k_is); (case c => k_is); (case k => k_is)
        (case hb => exact fun _ _ _ _ _ _ us hl => match us, hl with | [_], _ => rfl)
      case f__law_saying_right =>
        refine' Mir.df_mk KX G ?a ?l ?c ?k ?hb
        (case a => k_is); (case l => k_is); (case c => k_is); (case k => k_is)
        (case hb => exact fun _ _ _ _ _ _ us hl => match us, hl with | [_, _], _ => rfl)
      case f__law_values_right =>
        refine' Mir.df_mk KX G ?a ?l ?c ?k ?hb
        (case a => k_is); (case l => k_is); (case c => k_is); (case k => k_is)
        (case hb => exact fun _ _ _ _ _ _ us hl => match us, hl with | [_, _], _ => rfl)
      case f_law =>
        refine' Mir.df_mk KX G ?a ?l ?c ?k ?hb
        (case a => k_is); (case l => k_is); (case c => k_is); (case k => k_is)
        (case hb => exact fun _ _ _ _ _ _ us hl => match us, hl with | [_], _ => rfl)
    case Fx =>
      constructor
      case z_abs => (refine' PySem.W.mg_none_of KX G ?a; (case a => k_is))
      case z_all => (refine' PySem.W.mg_none_of KX G ?a; (case a => k_is))
      case z_int => (refine' PySem.W.mg_none_of KX G ?a; (case a => k_is))
      case z_isinstance => (refine' PySem.W.mg_none_of KX G ?a; (case a => k_is))
      case z_len => (refine' PySem.W.mg_none_of KX G ?a; (case a => k_is))
      case z_max => (refine' PySem.W.mg_none_of KX G ?a; (case a => k_is))
      case z_range => (refine' PySem.W.mg_none_of KX G ?a; (case a => k_is))
      case z_repr => (refine' PySem.W.mg_none_of KX G ?a; (case a => k_is))
      case z_str => (refine' PySem.W.mg_none_of KX G ?a; (case a => k_is))
      case z_tuple => (refine' PySem.W.mg_none_of KX G ?a; (case a => k_is))
      case z_zip => (refine' PySem.W.mg_none_of KX G ?a; (case a => k_is))
      case k_DIGITS => (refine' Mir.gc_str KX G ?a; (case a => k_is))
      case k_FIRST_SIGNS => (refine' Mir.gc_str KX G ?a; (case a => k_is))
      case k_LOWER => (refine' Mir.gc_str KX G ?a; (case a => k_is))
      case k_MOST_DEPTH => (refine' Mir.gc_int KX G ?a; (case a => k_is))
      case k_MOST_DIGITS => (refine' Mir.gc_int KX G ?a; (case a => k_is))
      case k_MOST_LETTERS => (refine' Mir.gc_int KX G ?a; (case a => k_is))
      case k_MOST_OPEN => (refine' Mir.gc_int KX G ?a; (case a => k_is))
      case k_MOST_SIGNS => (refine' Mir.gc_int KX G ?a; (case a => k_is))
      case k_MOST_WORDS => (refine' Mir.gc_int KX G ?a; (case a => k_is))
      case k_NAME_SIGNS => (refine' Mir.gc_str KX G ?a; (case a => k_is))
      case k_SINGLE => (refine' Mir.gc_str KX G ?a; (case a => k_is))
      case k_WORD_SIGNS => (refine' Mir.gc_str KX G ?a; (case a => k_is))
      case t_PAIRS => (refine' Mir.gt_strs KX G ?a ?l ?hz ?hs; (case a => k_is); (case l => k_is); (case hz => decide); (case hs => (repeat (first | exact .nil | refine .cons (by decide +kernel) ?_))))
      case fl_Reader_at => (refine' Mir.gfld_mk KX G ?aC ?pg ?hd ?po ?sa ?n; (case aC => k_is); (case pg => k_is); (case hd => k_is); (case po => k_is); (case sa => k_is); (case n => k_is))
      case fl_Reader_length => (refine' Mir.gfld_mk KX G ?aC ?pg ?hd ?po ?sa ?n; (case aC => k_is); (case pg => k_is); (case hd => k_is); (case po => k_is); (case sa => k_is); (case n => k_is))
      case fl_Reader_opened => (refine' Mir.gfld_mk KX G ?aC ?pg ?hd ?po ?sa ?n; (case aC => k_is); (case pg => k_is); (case hd => k_is); (case po => k_is); (case sa => k_is); (case n => k_is))
      case fl_Reader_pieces => (refine' Mir.gfld_mk KX G ?aC ?pg ?hd ?po ?sa ?n; (case aC => k_is); (case pg => k_is); (case hd => k_is); (case po => k_is); (case sa => k_is); (case n => k_is))
