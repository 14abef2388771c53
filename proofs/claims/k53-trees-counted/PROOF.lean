import PyProof.Rows.All
import PyProof.P3Statements
import HandS.List
import HandS.Dict
import KE.DataEq
import HandS.Text
import HandS.Style
import KE.DataFind
import HandS.ForMost
import HandS.ForExc
import HandS.Walk
import HandS.Deep
import HandS.Flow
import HandS.Wide
import HandS.EndBits
import HandS.WordsExc
import PyProof.StrOps2
import HandS.IsInst
import HandS.Sort
import HandS.SortInts
import HandS.More
import HandS.Iter
import HandS.ExcOwn
import PyProof.ReprRoads
import HandS.SortOrd
import KE.SortData
import Wide.All
import OpenK.AllK
import Wide.FinOn
import PySem.Challenge.RW_ziplanes_k53_trees_counted
set_option Elab.async false
set_option Elab.async false
set_option linter.all false
/-! Zp: bodies as functions of data. No heap. -/
namespace Z
open PySem

abbrev D := PyData
def keyD : L2.Key → D
  | .inl i => .int i
  | .inr x => .str x
/-- what an owned object holds -/
inductive Ow where
  | ls (xs : List D)
  | dk (kvs : List (L2.Key × D))
  | dt (kvs : List (List L2.Key × D))
@[simp] def Ow.d : Ow → D
  | .ls xs => .list xs
  | .dk kvs => .dict (kvs.map fun p => (keyD p.1, p.2))
  | .dt kvs => .dict ((.none, .none) :: kvs.map fun p => (PyData.tuple (p.1.map keyD), p.2))
/-- a name: shared data; an object of this body's own; an object that the caller lends; one that a loop walks -/
inductive Slot where
  | sh (d : D)
  | ow (c : Ow)
  | le (c : Ow)
  | hd (c : Ow)
abbrev DEnv := List (Option Slot)
/-- an expression's value: data; a new object; the object of a name -/
inductive Opd where
  | va (d : D)
  | fr (c : Ow)
  | sl (i : Nat)
@[simp] def Slot.own? : Slot → Option Ow
  | .sh _ => none
  | .ow c => some c
  | .le c => some c
  | .hd _ => none
@[simp] def Slot.any? : Slot → Option Ow
  | .sh _ => none
  | .ow c => some c
  | .le c => some c
  | .hd c => some c
@[simp] def Slot.d : Slot → D
  | .sh d => d
  | .ow c => c.d
  | .le c => c.d
  | .hd c => c.d
def slotAt (env : DEnv) (i : Nat) : Option Slot := (env[i]?).bind id
@[simp] theorem slotAt_nil (i : Nat) : slotAt [] i = none := by cases i <;> rfl
@[simp] theorem slotAt_zero (s : Option Slot) (r : DEnv) : slotAt (s :: r) 0 = s := by cases s <;> rfl
@[simp] theorem slotAt_succ (s : Option Slot) (r : DEnv) (i : Nat) : slotAt (s :: r) (i + 1) = slotAt r i := rfl
def ownAt (env : DEnv) (i : Nat) : Option Ow := (slotAt env i).bind Slot.own?
def anyAt (env : DEnv) (i : Nat) : Option Ow := (slotAt env i).bind Slot.any?
@[simp] def rd (o : Opd) (env : DEnv) : Option D :=
  match o with
  | .va d => some d
  | .fr c => some c.d
  | .sl i => (slotAt env i).map Slot.d
/-- an outcome: a value and the names behind it; an exception of a class; no answer -/
inductive R (α : Type) where
  | ok (a : α) (env : DEnv)
  | exc (c : Str) (env : DEnv)
  | bad
def R.bind {α β : Type} (m : R α) (k : α → DEnv → R β) : R β :=
  match m with
  | .ok a env => k a env
  | .exc c env => .exc c env
  | .bad => .bad
section
variable {α β : Type} {a : α} {env : DEnv} {c : Str} {k : α → DEnv → R β}
@[simp] theorem bind_ok : (R.ok a env).bind k = k a env := rfl
@[simp] theorem bind_exc : (R.exc c env : R α).bind k = .exc c env := rfl
@[simp] theorem bind_bad : (R.bad : R α).bind k = .bad := rfl
end
abbrev E := DEnv → R Opd
abbrev T := DEnv → R Bool
abbrev Da := DEnv → R (List D)
inductive Fl where
  | nx
  | rt (o : Opd)
  | bk
  | ct
abbrev S := DEnv → R Fl

/-! ### values as data -/
@[simp] def share (o : Opd) (env : DEnv) : R D :=
  match o with
  | .va d => .ok d env
  | .fr c => .ok c.d env
  | .sl i => match slotAt env i with
    | some (.sh d) => .ok d env
    | some (.ow c) => .ok c.d (env.set i (some (.sh c.d)))
    | _ => .bad
@[simp] def eC (d : D) (env : DEnv) : R Opd := .ok (.va d) env
@[simp] def eVar (i : Nat) (env : DEnv) : R Opd :=
  match slotAt env i with
  | some (.sh d) => .ok (.va d) env
  | some (.ow _) => .ok (.sl i) env
  | some (.le _) => .ok (.sl i) env
  | _ => .bad
@[simp] def dNil (env : DEnv) : R (List D) := .ok [] env
@[simp] def dCons (e : E) (r : Da) (env : DEnv) : R (List D) :=
  (e env).bind fun o env1 => (share o env1).bind fun d env2 => (r env2).bind fun ds env3 => .ok (d :: ds) env3
def lineN : Nat := 16777216
@[simp] def eTup (es : Da) (env : DEnv) : R Opd := (es env).bind fun ds env1 => if ds.length ≤ lineN then .ok (.va (.tuple ds)) env1 else .bad
@[simp] def eLst (es : Da) (env : DEnv) : R Opd := (es env).bind fun ds env1 => if ds.length ≤ lineN then .ok (.fr (.ls ds)) env1 else .bad
/-- [*a, b, ..] -/
@[simp] def eStar (a : E) (es : Da) (env : DEnv) : R Opd :=
  (a env).bind fun o env1 => match rd o env1 with
    | some (.list xs) => (es env1).bind fun ds env2 => if xs.length + ds.length ≤ lineN then .ok (.fr (.ls (xs ++ ds))) env2 else .bad
    | _ => .bad
@[simp] def eDk (env : DEnv) : R Opd := .ok (.fr (.dk [])) env
@[simp] def eDt (env : DEnv) : R Opd := .ok (.fr (.dt [])) env
/-- what an operation gives: data that stand, a new tuple, a new list -/
inductive Out where
  | va (d : D)
  | nt (ds : List D)
  | nl (ds : List D)
@[simp] def outR : Option Out → DEnv → R Opd
  | some (.va d), env => .ok (.va d) env
  | some (.nt ds), env => .ok (.va (.tuple ds)) env
  | some (.nl ds), env => .ok (.fr (.ls ds)) env
  | none, _ => .bad
@[simp] def eUn (g : D → Option Out) (a : E) (env : DEnv) : R Opd :=
  (a env).bind fun o env1 => match rd o env1 with
    | some d => outR (g d) env1
    | none => .bad
@[simp] def eBin (g : D → D → Option Out) (a b : E) (env : DEnv) : R Opd :=
  (a env).bind fun o1 env1 => (b env1).bind fun o2 env2 => match rd o1 env2, rd o2 env2 with
    | some d1, some d2 => outR (g d1 d2) env2
    | _, _ => .bad
@[simp] def tE1 (a : E) (env : DEnv) : R Bool :=
  (a env).bind fun o env1 => match rd o env1 with
    | some (.bool b) => .ok b env1
    | _ => .bad
@[simp] def tNot (a : T) (env : DEnv) : R Bool := (a env).bind fun b env1 => .ok (!b) env1
@[simp] def tAnd (a b : T) (env : DEnv) : R Bool := (a env).bind fun x env1 => if x = true then b env1 else .ok false env1
@[simp] def tOr (a b : T) (env : DEnv) : R Bool := (a env).bind fun x env1 => if x = true then .ok true env1 else b env1
@[simp] def eT (a : T) (env : DEnv) : R Opd := (a env).bind fun b env1 => .ok (.va (.bool b)) env1
@[simp] def eIf (t : T) (a b : E) (env : DEnv) : R Opd := (t env).bind fun x env1 => if x = true then a env1 else b env1
/-- truth of data -/
@[simp] def truD : D → Bool
  | .none => false
  | .bool b => b
  | .int i => i != 0
  | .str x => x.length != 0
  | .list xs => !xs.isEmpty
  | .tuple xs => !xs.isEmpty
  | .dict _ => false

/-! ### statements -/
@[simp] def sNil (env : DEnv) : R Fl := .ok .nx env
def sSeq (a b : S) (env : DEnv) : R Fl := (a env).bind fun f env1 => match f with
  | .nx => b env1
  | .rt o => .ok (.rt o) env1
  | .bk => .ok .bk env1
  | .ct => .ok .ct env1
/-- a name is given a slot; a lent one, one that is walked can't be given away -/
def put (env : DEnv) (i : Nat) (s : Slot) : Option DEnv :=
  match slotAt env i with
  | some (.le _) => none
  | some (.hd _) => none
  | _ => if i < env.length then some (env.set i (some s)) else none
@[simp] def stO (o : Opd) (i : Nat) (env : DEnv) : R Fl :=
  match o with
  | .va d => match put env i (.sh d) with
    | some e => .ok .nx e
    | none => .bad
  | .fr c => match put env i (.ow c) with
    | some e => .ok .nx e
    | none => .bad
  | .sl j => (share (.sl j) env).bind fun d env1 => match put env1 i (.sh d) with
    | some e => .ok .nx e
    | none => .bad
@[simp] def sSet (i : Nat) (e : E) (env : DEnv) : R Fl := (e env).bind fun o env1 => stO o i env1
@[simp] def sExpr (e : E) (env : DEnv) : R Fl := (e env).bind fun _ env1 => .ok .nx env1
@[simp] def sRet (e : E) (env : DEnv) : R Fl := (e env).bind fun o env1 => .ok (.rt o) env1
@[simp] def sRetN (env : DEnv) : R Fl := .ok (.rt (.va .none)) env
@[simp] def sIf (t : T) (a b : S) (env : DEnv) : R Fl := (t env).bind fun x env1 => if x = true then a env1 else b env1
@[simp] def sBreak (env : DEnv) : R Fl := .ok .bk env
@[simp] def sCont (env : DEnv) : R Fl := .ok .ct env
@[simp] def sRaise (c : Str) (env : DEnv) : R Fl := .exc c env

/-- a test by truth -/
@[simp] def tTru (a : E) (env : DEnv) : R Bool := (a env).bind fun o env1 => match rd o env1 with
  | some d => .ok (truD d) env1
  | none => .bad
/-- x op= e, x a name -/
@[simp] def sAug (i : Nat) (g : D → D → Option D) (e : E) (env : DEnv) : R Fl := match slotAt env i with
  | some (.sh d1) => (e env).bind fun o env1 => match rd o env1 with
    | some d2 => match g d1 d2 with
      | some d => match put env1 i (.sh d) with
        | some e => .ok .nx e
        | none => .bad
      | none => .bad
    | none => .bad
  | _ => .bad
/-- values for names that are given at once -/
abbrev Oa := DEnv → R (List Opd)
@[simp] def oNil (env : DEnv) : R (List Opd) := .ok [] env
@[simp] def unSl (o : Opd) (env : DEnv) : R Opd := match o with
  | .va d => .ok (.va d) env
  | .fr c => .ok (.fr c) env
  | .sl i => (share (.sl i) env).bind fun d env1 => .ok (.va d) env1
@[simp] def oCons (e : E) (r : Oa) (env : DEnv) : R (List Opd) := (e env).bind fun o env1 => (unSl o env1).bind fun o env2 => (r env2).bind fun os env3 => .ok (o :: os) env3
def stOs : List Opd → List Nat → DEnv → R Fl
  | [], [], env => .ok .nx env
  | o :: os, i :: is, env => (stO o i env).bind fun _ env1 => stOs os is env1
  | _, _, _ => .bad
@[simp] theorem stOs_nil (env : DEnv) : stOs [] [] env = .ok .nx env := rfl
@[simp] theorem stOs_cons (o : Opd) (os : List Opd) (i : Nat) (is : List Nat) (env : DEnv) : stOs (o :: os) (i :: is) env = (stO o i env).bind fun _ env1 => stOs os is env1 := rfl
@[simp] def sPar (is : List Nat) (os : Oa) (env : DEnv) : R Fl := (os env).bind fun vs env1 => stOs vs is env1

/-! ### targets -/
abbrev Tg := D → DEnv → Option DEnv
abbrev Tgs := List D → DEnv → Option DEnv
@[simp] def gName (i : Nat) (d : D) (env : DEnv) : Option DEnv := put env i (.sh d)
@[simp] def gsNil (ds : List D) (env : DEnv) : Option DEnv := match ds with
  | [] => some env
  | _ => none
@[simp] def gsCons (g : Tg) (gs : Tgs) (ds : List D) (env : DEnv) : Option DEnv := match ds with
  | [] => none
  | d :: r => (g d env).bind fun e => gs r e
@[simp] def gTup (gs : Tgs) (d : D) (env : DEnv) : Option DEnv := match d with
  | .tuple ds => gs ds env
  | _ => none
@[simp] def sAsg (g : Tg) (e : E) (env : DEnv) : R Fl := (e env).bind fun o env1 => (share o env1).bind fun d env2 => match g d env2 with
  | some e => .ok .nx e
  | none => .bad

/-! ### loops -/
@[simp] def itemsOf : D → Option (List D)
  | .list xs => some xs
  | .tuple xs => some xs
  | .str x => some (x.cps.toList.map fun c => .str ⟨#[c]⟩)
  | _ => none
/-- what a loop walks; the slot that is held meanwhile -/
abbrev I := DEnv → R (List D × Option Nat)
@[simp] def iE (e : E) (env : DEnv) : R (List D × Option Nat) := (e env).bind fun o env1 => (share o env1).bind fun d env2 => match itemsOf d with
  | some ds => .ok (ds, none) env2
  | none => .bad
/-- over a list at a name; the name is not used meanwhile -/
@[simp] def iHold (i : Nat) (env : DEnv) : R (List D × Option Nat) := match slotAt env i with
  | some (.ow (.ls ds)) => .ok (ds, some i) env
  | some (.sh d) => match itemsOf d with
    | some ds => .ok (ds, none) env
    | none => .bad
  | _ => .bad
def rangeL (lo : Int) (n : Nat) : List D := (List.range n).map fun (k : Nat) => .int (lo + (k : Int))
@[simp] def iRange1 (a : E) (env : DEnv) : R (List D × Option Nat) := (a env).bind fun o env1 => match rd o env1 with
  | some (.int j) => if -(2 ^ 62) ≤ j ∧ j < 2 ^ 62 then .ok (rangeL 0 j.toNat, none) env1 else .bad
  | _ => .bad
@[simp] def iRange2 (a b : E) (env : DEnv) : R (List D × Option Nat) := (a env).bind fun o env1 => (b env1).bind fun p env2 => match rd o env2, rd p env2 with
  | some (.int i), some (.int j) => if -(2 ^ 62) ≤ i ∧ i < 2 ^ 62 ∧ -(2 ^ 62) ≤ j ∧ j < 2 ^ 62 then .ok (rangeL i (j - i).toNat, none) env2 else .bad
  | _, _ => .bad
def take1 (env : DEnv) : Option Nat → DEnv
  | none => env
  | some i => match slotAt env i with
    | some (.ow c) => env.set i (some (.hd c))
    | _ => env
@[simp] theorem take1_none (env : DEnv) : take1 env none = env := rfl
@[simp] theorem take1_some (env : DEnv) (i : Nat) : take1 env (some i) = match slotAt env i with
    | some (.ow c) => env.set i (some (.hd c))
    | _ => env := rfl
/-- the slot is given back -/
def give1 (env : DEnv) : Option Nat → DEnv
  | none => env
  | some i => match slotAt env i with
    | some (.hd c) => env.set i (some (.ow c))
    | _ => env
@[simp] theorem give1_none (env : DEnv) : give1 env none = env := rfl
@[simp] theorem give1_some (env : DEnv) (i : Nat) : give1 env (some i) = match slotAt env i with
    | some (.hd c) => env.set i (some (.ow c))
    | _ => env := rfl
/-- the list that is walked stands -/
def heldP (env : DEnv) (ds : List D) : Option Nat → Prop
  | none => True
  | some i => slotAt env i = some (.hd (.ls ds))
@[simp] theorem heldP_none (env : DEnv) (ds : List D) : heldP env ds none = True := rfl
@[simp] theorem heldP_some (env : DEnv) (ds : List D) (i : Nat) : heldP env ds (some i) = (slotAt env i = some (.hd (.ls ds))) := rfl
mutual
def eqb : D → D → Bool
  | .none, y => match y with | .none => true | _ => false
  | .bool a, y => match y with | .bool b => a == b | _ => false
  | .int a, y => match y with | .int b => decide (a = b) | _ => false
  | .str a, y => match y with | .str b => decide (a = b) | _ => false
  | .list a, y => match y with | .list b => eqbs a b | _ => false
  | .tuple a, y => match y with | .tuple b => eqbs a b | _ => false
  | .dict a, y => match y with | .dict b => eqbk a b | _ => false
def eqbs : List D → List D → Bool
  | [], ys => ys.isEmpty
  | x :: xs, ys => match ys with | y :: ys => eqb x y && eqbs xs ys | [] => false
def eqbk : List (D × D) → List (D × D) → Bool
  | [], ys => ys.isEmpty
  | (k, x) :: xs, ys => match ys with | (k', y) :: ys => eqb k k' && (eqb x y && eqbk xs ys) | [] => false
end
mutual
theorem eqb_eq : ∀ (x y : D), eqb x y = true → x = y
  | .none, y, h => by cases y <;> simp [eqb] at h ⊢
  | .bool a, y, h => by cases y <;> simp [eqb] at h ⊢; exact h
  | .int a, y, h => by cases y <;> simp [eqb] at h ⊢; exact h
  | .str a, y, h => by cases y <;> simp [eqb] at h ⊢; exact h
  | .list a, y, h => by cases y <;> simp [eqb] at h ⊢; exact eqbs_eq _ _ h
  | .tuple a, y, h => by cases y <;> simp [eqb] at h ⊢; exact eqbs_eq _ _ h
  | .dict a, y, h => by cases y <;> simp [eqb] at h ⊢; exact eqbk_eq _ _ h
theorem eqbs_eq : ∀ (x y : List D), eqbs x y = true → x = y
  | [], y, h => by cases y <;> simp [eqbs] at h ⊢
  | x :: xs, y, h => by
    cases y with
    | nil => simp [eqbs] at h
    | cons z zs => simp [eqbs] at h; rw [eqb_eq _ _ h.1, eqbs_eq _ _ h.2]
theorem eqbk_eq : ∀ (x y : List (D × D)), eqbk x y = true → x = y
  | [], y, h => by cases y <;> simp [eqbk] at h ⊢
  | (k, x) :: xs, y, h => by
    cases y with
    | nil => simp [eqbk] at h
    | cons z zs => obtain ⟨k', z⟩ := z; simp [eqbk] at h; rw [eqb_eq _ _ h.1, eqb_eq _ _ h.2.1, eqbk_eq _ _ h.2.2]
end
mutual
theorem eqb_refl : ∀ (x : D), eqb x x = true
  | .none => by simp [eqb]
  | .bool a => by simp [eqb]
  | .int a => by simp [eqb]
  | .str a => by simp [eqb]
  | .list a => by simp [eqb]; exact eqbs_refl _
  | .tuple a => by simp [eqb]; exact eqbs_refl _
  | .dict a => by simp [eqb]; exact eqbk_refl _
theorem eqbs_refl : ∀ (x : List D), eqbs x x = true
  | [] => by simp [eqbs]
  | x :: xs => by simp [eqbs, eqb_refl x, eqbs_refl xs]
theorem eqbk_refl : ∀ (x : List (D × D)), eqbk x x = true
  | [] => by simp [eqbk]
  | (k, x) :: xs => by simp [eqbk, eqb_refl k, eqb_refl x, eqbk_refl xs]
end
instance decD : DecidableEq D := fun x y => if h : eqb x y = true then isTrue (eqb_eq _ _ h) else isFalse fun e => h (e ▸ eqb_refl x)
instance decHeld (env : DEnv) (ds : List D) (h : Option Nat) : Decidable (heldP env ds h) := match h with
  | none => isTrue trivial
  | some i => match e : slotAt env i with
    | some (.hd (.ls xs)) => if q : xs = ds then isTrue (by rw [heldP_some, e, q]) else isFalse (by rw [heldP_some, e]; intro z; cases z; exact q rfl)
    | some (.hd (.dk _)) => isFalse (by rw [heldP_some, e]; intro z; cases z)
    | some (.hd (.dt _)) => isFalse (by rw [heldP_some, e]; intro z; cases z)
    | some (.sh _) => isFalse (by rw [heldP_some, e]; intro z; cases z)
    | some (.ow _) => isFalse (by rw [heldP_some, e]; intro z; cases z)
    | some (.le _) => isFalse (by rw [heldP_some, e]; intro z; cases z)
    | none => isFalse (by rw [heldP_some, e]; intro z; cases z)
def R.givx {α : Type} (h : Option Nat) : R α → R α
  | .ok a env => .ok a env
  | .exc c env => .exc c (give1 env h)
  | .bad => .bad
section
variable {α : Type} {env : DEnv} {h : Option Nat} {a : α} {c : Str}
@[simp] theorem givx_ok : (R.ok a env).givx h = .ok a env := rfl
@[simp] theorem givx_exc : (R.exc c env : R α).givx h = .exc c (give1 env h) := rfl
@[simp] theorem givx_bad : (R.bad : R α).givx h = .bad := rfl
@[simp] theorem givx_none (m : R α) : m.givx none = m := by cases m <;> rfl
end
/-- no exception may leave -/
def R.nox {α : Type} : R α → R α
  | .exc _ _ => .bad
  | r => r
section
variable {α : Type} {env : DEnv} {a : α} {c : Str}
@[simp] theorem nox_ok : (R.ok a env).nox = .ok a env := rfl
@[simp] theorem nox_exc : (R.exc c env : R α).nox = .bad := rfl
@[simp] theorem nox_bad : (R.bad : R α).nox = .bad := rfl
end
def forL (h : Option Nat) (all : List D) (g : Tg) (body : S) : List D → DEnv → R Fl
  | [], env => if heldP env all h then .ok .nx (give1 env h) else .bad
  | d :: ds, env => if heldP env all h then match g d env with
    | none => .bad
    | some env1 => ((body env1).givx h).bind fun f env2 => match f with
      | .nx => forL h all g body ds env2
      | .ct => forL h all g body ds env2
      | .bk => .ok .nx (give1 env2 h)
      | .rt o => .ok (.rt o) (give1 env2 h)
    else .bad
@[simp] def sFor (it : I) (g : Tg) (body : S) (env : DEnv) : R Fl := (it env).bind fun p env1 => forL p.2 p.1 g body p.1 (take1 env1 p.2)
def whileL (t : T) (body : S) : Nat → DEnv → R Fl
  | 0, _ => .bad
  | n + 1, env => (t env).bind fun b env1 => if b = true then (body env1).bind fun f env2 => match f with
      | .nx => whileL t body n env2
      | .ct => whileL t body n env2
      | .bk => .ok .nx env2
      | .rt o => .ok (.rt o) env2
    else .ok .nx env1
def whileFuel : Nat := 1000000
@[simp] def sWhile (t : T) (body : S) (env : DEnv) : R Fl := whileL t body whileFuel env

/-! ### comprehensions -/
def wipeD (env : DEnv) : List Nat → DEnv
  | [] => env
  | i :: is => (wipeD env is).set i none
@[simp] theorem wipeD_nil (env : DEnv) : wipeD env [] = env := rfl
@[simp] theorem wipeD_cons (env : DEnv) (i : Nat) (is : List Nat) : wipeD env (i :: is) = (wipeD env is).set i none := rfl
def backD (env0 env : DEnv) : List Nat → DEnv
  | [] => env
  | i :: is => (backD env0 env is).set i (slotAt env0 i)
@[simp] theorem backD_nil (env0 env : DEnv) : backD env0 env [] = env := rfl
@[simp] theorem backD_cons (env0 env : DEnv) (i : Nat) (is : List Nat) : backD env0 env (i :: is) = (backD env0 env is).set i (slotAt env0 i) := rfl
/-- the names hold nothing of their own -/
def freeD (env : DEnv) (is : List Nat) : Bool := is.all fun i => (anyAt env i).isNone
def compL (h : Option Nat) (all : List D) (g : Tg) (t : T) (e : E) (vs : List Nat) : List D → List D → DEnv → R (List D)
  | [], acc, env => if heldP env all h then .ok acc env else .bad
  | d :: ds, acc, env => if heldP env all h then match g d env with
    | none => .bad
    | some env1 => (t env1).nox.bind fun b env2 => if b = true then (e env2).nox.bind fun o env3 => (share o env3).bind fun x env4 => if acc.length < lineN then compL h all g t e vs ds (acc ++ [x]) (wipeD env4 vs) else .bad
      else compL h all g t e vs ds acc (wipeD env2 vs)
    else .bad
@[simp] def tYes (env : DEnv) : R Bool := .ok true env
@[simp] def eComp (it : I) (g : Tg) (t : T) (e : E) (vs : List Nat) (env : DEnv) : R Opd := (it env).bind fun p env1 =>
  if freeD env1 vs = true then (compL p.2 p.1 g t e vs p.1 [] (wipeD (take1 env1 p.2) vs)).bind fun ds env2 => .ok (.fr (.ls ds)) (give1 (backD env1 env2 vs) p.2)
  else .bad

/-! ### calls -/
/-- an argument: data; the object of a slot, lent; the object of a slot, to be read -/
inductive Arg where
  | d (d : D)
  | le (i : Nat)
  | bo (i : Nat)
abbrev As := DEnv → R (List Arg)
@[simp] def aNil (env : DEnv) : R (List Arg) := .ok [] env
@[simp] def aSh (e : E) (r : As) (env : DEnv) : R (List Arg) := (e env).bind fun o env1 => (share o env1).bind fun d env2 => (r env2).bind fun as env3 => .ok (.d d :: as) env3
@[simp] def aLe (i : Nat) (r : As) (env : DEnv) : R (List Arg) := match ownAt env i with
  | some _ => (r env).bind fun as env3 => .ok (.le i :: as) env3
  | none => .bad
/-- an object that is read by the callee; data as data -/
@[simp] def aBo (i : Nat) (r : As) (env : DEnv) : R (List Arg) := match slotAt env i with
  | some (.sh d) => (r env).bind fun as env3 => .ok (.d d :: as) env3
  | some (.ow _) => (r env).bind fun as env3 => .ok (.bo i :: as) env3
  | some (.le _) => (r env).bind fun as env3 => .ok (.bo i :: as) env3
  | _ => .bad
/-- what a def is given: data; an object, lent -/
inductive FArg where
  | sh (d : D)
  | le (c : Ow)
/-- what a def gives back -/
inductive RO where
  | ok (o : Opd) (outs : List Ow)
  | exc (c : Str) (outs : List Ow)
  | bad
abbrev Fn := List FArg → RO
def fargs (env : DEnv) : List Arg → Option (List FArg)
  | [] => some []
  | .d d :: r => (fargs env r).map (.sh d :: ·)
  | .le i :: r => match ownAt env i with
    | some c => (fargs env r).map (.le c :: ·)
    | none => none
  | .bo i :: r => match ownAt env i with
    | some c => (fargs env r).map (.sh c.d :: ·)
    | none => none
@[simp] def reC (s : Slot) (c : Ow) : Slot := match s with
  | .ow _ => .ow c
  | .le _ => .le c
  | s => s
@[simp] def setOw (env : DEnv) (i : Nat) (c : Ow) : DEnv := match slotAt env i with
  | some s => env.set i (some (reC s c))
  | none => env
def setOws (env : DEnv) : List Arg → List Ow → Option DEnv
  | [], [] => some env
  | .le i :: r, c :: cs => setOws (setOw env i c) r cs
  | .le _ :: _, [] => none
  | .d _ :: r, cs => setOws env r cs
  | .bo _ :: r, cs => setOws env r cs
  | [], _ :: _ => none
@[simp] def slotA : FArg → Option Slot
  | .sh d => some (.sh d)
  | .le c => some (.le c)
def outsOf (env : DEnv) : List Nat → Option (List Ow)
  | [] => some []
  | i :: is => match slotAt env i with
    | some (.le c) => (outsOf env is).map (c :: ·)
    | _ => none
def lentIx : Nat → List FArg → List Nat
  | _, [] => []
  | k, .sh _ :: r => lentIx (k + 1) r
  | k, .le _ :: r => k :: lentIx (k + 1) r
/-- what leaves a body -/
@[simp] def leave (o : Opd) (env : DEnv) : Option Opd := match o with
  | .va d => some (.va d)
  | .fr c => some (.fr c)
  | .sl i => match slotAt env i with
    | some (.sh d) => some (.va d)
    | some (.ow c) => some (.fr c)
    | _ => none
@[simp] def endOf (ls : List Nat) (o : Opd) (env : DEnv) : RO := match leave o env, outsOf env ls with
  | some o', some cs => .ok o' cs
  | _, _ => .bad
/-- a def of p parameters, n names, by its body -/
def runD (p n : Nat) (body : S) : Fn := fun args => if args.length = p ∧ p ≤ n then
    match body (args.map slotA ++ List.replicate (n - args.length) none) with
    | .ok .nx env => endOf (lentIx 0 args) (.va .none) env
    | .ok (.rt o) env => endOf (lentIx 0 args) o env
    | .ok .bk _ => .bad
    | .ok .ct _ => .bad
    | .exc c env => match outsOf env (lentIx 0 args) with
      | some cs => .exc c cs
      | none => .bad
    | .bad => .bad
  else .bad
mutual
/-- no list, no dict within -/
def fz : D → Bool
  | .list _ => false
  | .dict _ => false
  | .tuple xs => fzAll xs
  | .none => true
  | .bool _ => true
  | .int _ => true
  | .str _ => true
def fzAll : List D → Bool
  | [] => true
  | x :: xs => fz x && fzAll xs
end
def fzOw : Ow → Bool
  | .ls xs => fzAll xs
  | .dk kvs => fzAll (kvs.map (·.2))
  | .dt kvs => fzAll (kvs.map (·.2))
def fzO : Opd → Bool
  | .va d => fz d
  | .fr c => fzOw c
  | .sl _ => false
def leIx : List Arg → List Nat
  | [] => []
  | .le i :: r => i :: leIx r
  | .d _ :: r => leIx r
  | .bo _ :: r => leIx r
def boIx : List Arg → List Nat
  | [] => []
  | .bo i :: r => i :: boIx r
  | .d _ :: r => boIx r
  | .le _ :: r => boIx r
/-- no slot is lent twice, or lent and read -/
def okArgs (as : List Arg) : Bool := decide (leIx as).Nodup && (boIx as).all fun i => decide (i ∉ leIx as)
def eCall (np : Nat) (f : Fn) (as : As) (env : DEnv) : R Opd := (as env).bind fun args env1 => if args.length = np ∧ okArgs args = true then match fargs env1 args with
  | none => .bad
  | some fas => match f fas with
    | .ok o outs => match setOws env1 args outs with
      | some env2 => if boIx args = [] ∨ (fzO o = true ∧ outs.all fzOw = true) then .ok o env2 else .bad
      | none => .bad
    | .exc c outs => match setOws env1 args outs with
      | some env2 => if boIx args = [] ∨ outs.all fzOw = true then .exc c env2 else .bad
      | none => .bad
    | .bad => .bad
  else .bad
end Z

set_option Elab.async false
set_option linter.all false
/-! Zq: operations on data. -/
namespace Z
open PySem
def big (i : Int) : Nat := i.natAbs.log2
@[simp] def gAdd : D → D → Option Out
  | .int i, .int j => some (.va (.int (i + j)))
  | .str a, .str b => if a.length + b.length ≤ lineN then some (.va (.str (a ++ b))) else none
  | .list xs, .list ys => if xs.length + ys.length ≤ lineN then some (.nl (xs ++ ys)) else none
  | .tuple xs, .tuple ys => if xs = [] ∨ lineN < xs.length + ys.length then none else if ys = [] then some (.va (.tuple xs)) else some (.nt (xs ++ ys))
  | _, _ => none
@[simp] def gSub : D → D → Option Out
  | .int i, .int j => some (.va (.int (i - j)))
  | _, _ => none
@[simp] def gMul : D → D → Option Out
  | .int i, .int j => if i.natAbs < 2 ^ 63 ∨ j.natAbs < 2 ^ 63 ∨ (i.natAbs < 2 ^ 4000 ∧ j.natAbs < 2 ^ 4000) then some (.va (.int (i * j))) else none
  | .list xs, .int k => if -(2 ^ 63) ≤ k ∧ k < 2 ^ 63 ∧ xs.length * k.toNat ≤ lineN then some (.nl (List.replicate k.toNat xs).flatten) else none
  | .str x, .int k => if k < 2 ^ 63 ∧ 0 ≤ k ∧ x.length * k.toNat ≤ lineN then some (.va (.str ⟨(List.replicate k.toNat x.cps.toList).flatten.toArray⟩)) else none
  | _, _ => none
@[simp] def gFdiv : D → D → Option Out
  | .int i, .int j => if 0 < j ∧ j.natAbs < 2 ^ 8000 then some (.va (.int (i / j))) else none
  | _, _ => none
@[simp] def gMod : D → D → Option Out
  | .int i, .int j => if 0 < j then some (.va (.int (i % j))) else none
  | _, _ => none
@[simp] def gPow : D → D → Option Out
  | .int i, .int j => if 0 ≤ j ∧ j ≤ 1000 ∧ i.natAbs < 2 ^ 4000 then some (.va (.int (i ^ j.toNat))) else none
  | _, _ => none
@[simp] def gNeg : D → Option Out
  | .int i => some (.va (.int (-i)))
  | _ => none
@[simp] def gLt : D → D → Option Out
  | .int i, .int j => some (.va (.bool (decide (i < j))))
  | _, _ => none
@[simp] def gLe : D → D → Option Out
  | .int i, .int j => some (.va (.bool (decide (i ≤ j))))
  | _, _ => none
@[simp] def gGt : D → D → Option Out
  | .int i, .int j => some (.va (.bool (decide (j < i))))
  | _, _ => none
@[simp] def gGe : D → D → Option Out
  | .int i, .int j => some (.va (.bool (decide (j ≤ i))))
  | _, _ => none
/-- data that can be compared -/
def okD (d : D) : Bool := d.plain && decide (d.depth ≤ 64)
@[simp] theorem okD_none : okD .none = true := rfl
@[simp] theorem okD_bool (b : Bool) : okD (.bool b) = true := rfl
@[simp] theorem okD_int (i : Int) : okD (.int i) = true := rfl
@[simp] theorem okD_str (x : Str) : okD (.str x) = true := rfl
def eqD (x y : D) : Bool := PyData.eqv x y
@[simp] def gEq (x y : D) : Option Out := if okD x = true ∧ okD y = true then some (.va (.bool (eqD x y))) else none
@[simp] def gNe (x y : D) : Option Out := if okD x = true ∧ okD y = true then some (.va (.bool (!eqD x y))) else none
@[simp] def isFl : D → Bool
  | .none => true
  | .bool _ => true
  | .int _ => true
  | .str _ => true
  | _ => false
/-- a key of a dict -/
@[simp] def keyOf : D → Option L2.Key
  | .int i => some (.inl i)
  | .str x => some (.inr x)
  | _ => none
def keysOf : List D → Option (List L2.Key)
  | [] => some []
  | d :: r => (keyOf d).bind fun k => (keysOf r).map (k :: ·)
@[simp] theorem keysOf_nil : keysOf [] = some [] := rfl
@[simp] theorem keysOf_cons (d : D) (r : List D) : keysOf (d :: r) = (keyOf d).bind fun k => (keysOf r).map (k :: ·) := rfl
/-- what a dict holds at a key -/
def lookK (kvs : List (D × D)) (k : L2.Key) : Option D := (kvs.find? fun p => decide (keyOf p.1 = some k)).map (·.2)
def keysD : D → Option (List L2.Key)
  | .tuple ds => keysOf ds
  | _ => none
def lookT (kvs : List (D × D)) (k : List L2.Key) : Option D := (kvs.find? fun p => decide (keysD p.1 = some k)).map (·.2)
/-- (a dict with tuples for keys begins with a mark) -/
def lookD (kvs : List (D × D)) (k : D) : Option (Option D) := match kvs with
  | (.none, _) :: r => (keysD k).map (lookT r)
  | _ => (keyOf k).map (lookK kvs)
/-- is x in c -/
@[simp] def inD (x c : D) : Option Bool := match c with
  | .list ds => if okD x = true ∧ okD (.list ds) = true then some (ds.any fun z => eqD z x) else none
  | .tuple ds => if isFl x = true ∧ ds.all isFl = true then some (ds.any fun z => eqD z x) else none
  | .str z => match x with
    | .str y => if y.length = 1 then some (decide (y.cps.toList.headD 0 ∈ z.cps.toList)) else none
    | _ => none
  | .dict kvs => (lookD kvs x).map Option.isSome
  | _ => none
@[simp] def gIn (x c : D) : Option Out := (inD x c).map fun b => .va (.bool b)
@[simp] def gNotIn (x c : D) : Option Out := (inD x c).map fun b => .va (.bool !b)
@[simp] def isNone : D → Bool
  | .none => true
  | _ => false
@[simp] def gIsN (x : D) : Option Out := some (.va (.bool (isNone x)))
@[simp] def gIsNotN (x : D) : Option Out := some (.va (.bool !isNone x))
/-- o[i] -/
@[simp] def gIxS (c i : D) : Option Out := match c with
  | .list ds => match i with
    | .int k => (L2.atI ds k).map Out.va
    | _ => none
  | .tuple ds => match i with
    | .int k => (L2.atI ds k).map Out.va
    | _ => none
  | .str z => match i with
    | .int k => if z.length ≤ lineN then (L2.atI z.cps.toList k).map fun c => .va (.str ⟨#[c]⟩) else none
    | _ => none
  | _ => none
@[simp] def gIxD (c i : D) : Option Out := match c with
  | .dict kvs => ((lookD kvs i).bind id).map Out.va
  | _ => none
@[simp] def gIx (c i : D) : Option Out := match c with
  | .list ds => match i with
    | .int k => (L2.atI ds k).map Out.va
    | _ => none
  | .tuple ds => match i with
    | .int k => (L2.atI ds k).map Out.va
    | _ => none
  | .str z => match i with
    | .int k => if z.length ≤ lineN then (L2.atI z.cps.toList k).map fun c => .va (.str ⟨#[c]⟩) else none
    | _ => none
  | .dict kvs => ((lookD kvs i).bind id).map Out.va
  | _ => none
def cutD (xs : List D) (lo hi : Option Int) : List D := (xs.drop (HT.sIx xs.length 0 lo)).take (HT.sIx xs.length xs.length hi - HT.sIx xs.length 0 lo)
/-- o[lo:hi] -/
@[simp] def gSl (lo hi : Option Int) (c : D) : Option Out := match c with
  | .list ds => some (.nl (cutD ds lo hi))
  | .tuple ds => if HT.sIx ds.length 0 lo = 0 ∧ HT.sIx ds.length ds.length hi = ds.length then none else some (.nt (cutD ds lo hi))
  | .str z => if z.length ≤ lineN then some (.va (.str (L2.cutS z lo hi))) else none
  | _ => none
/-- o[::-1] -/
@[simp] def gRev (c : D) : Option Out := match c with
  | .list ds => some (.nl ds.reverse)
  | _ => none
abbrev Po := DEnv → R (Option Int)
@[simp] def poNone (env : DEnv) : R (Option Int) := .ok none env
@[simp] def poSome (e : E) (env : DEnv) : R (Option Int) := (e env).bind fun o env1 => match rd o env1 with
  | some (.int i) => .ok (some i) env1
  | _ => .bad
@[simp] def eSl (c : E) (lo hi : Po) (env : DEnv) : R Opd := (c env).bind fun o env1 => (lo env1).bind fun l env2 => (hi env2).bind fun h env3 => match rd o env3 with
  | some d => outR (gSl l h d) env3
  | none => .bad

/-! ### built-ins -/
def toInts : List D → Option (List Int)
  | [] => some []
  | .int i :: r => (toInts r).map (i :: ·)
  | _ :: _ => none
@[simp] theorem toInts_nil : toInts [] = some [] := rfl
@[simp] theorem toInts_cons (i : Int) (r : List D) : toInts (.int i :: r) = (toInts r).map (i :: ·) := rfl
@[simp] theorem toInts_map : ∀ ns : List Int, toInts (ns.map PyData.int) = some ns
  | [] => rfl
  | n :: r => by rw [List.map_cons, toInts_cons, toInts_map r]; rfl
def toBools : List D → Option (List Bool)
  | [] => some []
  | .bool i :: r => (toBools r).map (i :: ·)
  | _ :: _ => none
@[simp] theorem toBools_nil : toBools [] = some [] := rfl
@[simp] theorem toBools_cons (i : Bool) (r : List D) : toBools (.bool i :: r) = (toBools r).map (i :: ·) := rfl
@[simp] theorem toBools_map : ∀ ns : List Bool, toBools (ns.map PyData.bool) = some ns
  | [] => rfl
  | n :: r => by rw [List.map_cons, toBools_cons, toBools_map r]; rfl
def maxL : List Int → Option Int
  | [] => none
  | x :: xs => some (xs.foldl max x)
def minL : List Int → Option Int
  | [] => none
  | x :: xs => some (xs.foldl min x)
@[simp] def gLen (c : D) : Option Out := match c with
  | .list ds => some (.va (.int ds.length))
  | .tuple ds => some (.va (.int ds.length))
  | .str z => if z.length ≤ lineN then some (.va (.int z.length)) else none
  | _ => none
@[simp] def gMin2 : D → D → Option Out
  | .int i, .int j => some (.va (.int (min i j)))
  | _, _ => none
@[simp] def gMax2 : D → D → Option Out
  | .int i, .int j => some (.va (.int (max i j)))
  | _, _ => none
@[simp] def gMin (c : D) : Option Out := match c with
  | .list ds => ((toInts ds).bind minL).map fun i => .va (.int i)
  | _ => none
@[simp] def gMax (c : D) : Option Out := match c with
  | .list ds => ((toInts ds).bind maxL).map fun i => .va (.int i)
  | _ => none
@[simp] def gSum (c : D) : Option Out := match c with
  | .list ds => (toInts ds).map fun ns => .va (.int ns.sum)
  | _ => none
@[simp] def gAll (c : D) : Option Out := match c with
  | .list ds => (toBools ds).map fun ns => .va (.bool (ns.all id))
  | _ => none
@[simp] def gAny (c : D) : Option Out := match c with
  | .list ds => (toBools ds).map fun ns => .va (.bool (ns.any id))
  | _ => none
@[simp] def gList (c : D) : Option Out := match c with
  | .list ds => some (.nl ds)
  | .tuple ds => some (.nl ds)
  | .dict kvs => (keysOf (kvs.map (·.1))).map fun _ => .nl (kvs.map (·.1))
  | _ => none
@[simp] def gInt (c : D) : Option Out := match c with
  | .int i => some (.va (.int i))
  | .bool b => some (.va (.int (if b then 1 else 0)))
  | _ => none
@[simp] def gAbs (c : D) : Option Out := match c with
  | .int i => some (.va (.int (if i < 0 then -i else i)))
  | _ => none
/-- the types of data -/
inductive Ty where
  | int | bool | str | tuple | list
@[simp] def isTy : Ty → D → Bool
  | .int, .int _ => true
  | .int, .bool _ => true
  | .bool, .bool _ => true
  | .str, .str _ => true
  | .tuple, .tuple _ => true
  | .list, .list _ => true
  | _, _ => false
@[simp] def gIsi (T : Ty) (c : D) : Option Out := some (.va (.bool (isTy T c)))
/-! ### methods -/
@[simp] def gCount (c x : D) : Option Out := match c with
  | .list ds => if okD x = true ∧ okD (.list ds) = true then some (.va (.int (ds.countP fun z => eqD z x))) else none
  | _ => none
@[simp] def gIndex (c x : D) : Option Out := match c with
  | .list ds => if okD x = true ∧ okD (.list ds) = true then (ds.findIdx? fun z => eqD z x).map fun (i : Nat) => .va (.int i) else none
  | _ => none
/-- d.get(k, z) -/
@[simp] def gGet (c k z : D) : Option D := match c with
  | .dict kvs => (lookD kvs k).map fun o => o.getD z
  | _ => none

/-! ### what changes an object -/
abbrev Mu := Ow → List D → Option (D × Ow)
@[simp] def mAppend (c : Ow) (as : List D) : Option (D × Ow) := match c, as with
  | .ls xs, [d] => if xs.length < lineN then some (.none, .ls (xs ++ [d])) else none
  | _, _ => none
@[simp] def mExtend (c : Ow) (as : List D) : Option (D × Ow) := match c, as with
  | .ls xs, [.list ys] => if xs.length + ys.length ≤ lineN then some (.none, .ls (xs ++ ys)) else none
  | _, _ => none
@[simp] def mPop (c : Ow) (as : List D) : Option (D × Ow) := match c, as with
  | .ls xs, [] => (xs.getLast?).map fun d => (d, .ls xs.dropLast)
  | .ls xs, [.int i] => match L2.ixN xs.length i with
    | some k => (xs[k]?).map fun d => (d, .ls (xs.eraseIdx k))
    | none => none
  | _, _ => none
@[simp] def mReverse (c : Ow) (as : List D) : Option (D × Ow) := match c, as with
  | .ls xs, [] => some (.none, .ls xs.reverse)
  | _, _ => none
@[simp] def eMut (m : Mu) (i : Nat) (as : Da) (env : DEnv) : R Opd := match ownAt env i with
  | none => .bad
  | some _ => (as env).bind fun ds env1 => match ownAt env1 i with
    | some c => match m c ds with
      | some (r, c') => .ok (.va r) (setOw env1 i c')
      | none => .bad
    | none => .bad
/-- what a[k] = d makes -/
def putK {κ : Type} [DecidableEq κ] (kvs : List (κ × D)) (k : κ) (v : D) : List (κ × D) :=
  if (kvs.any fun kv => decide (kv.1 = k)) = true then kvs.map (fun kv => if kv.1 = k then (kv.1, v) else kv) else kvs ++ [(k, v)]
@[simp] def mSet (c : Ow) (k d : D) : Option Ow := match c with
  | .ls xs => match k with
    | .int i => (L2.ixN xs.length i).map fun j => .ls (xs.set j d)
    | _ => none
  | .dk kvs => match keyOf k with
    | some k => if kvs.length < lineN then some (.dk (putK kvs k d)) else none
    | none => none
  | .dt kvs => match keysD k with
    | some k => if kvs.length < lineN then some (.dt (putK kvs k d)) else none
    | none => none
/-- x[k] = v, x a name of an object -/
@[simp] def sSetIx (i : Nat) (ix v : E) (env : DEnv) : R Fl := (v env).bind fun o env1 => (share o env1).bind fun d env2 => match ownAt env2 i with
  | none => .bad
  | some _ => (ix env2).bind fun o2 env3 => match rd o2 env3, ownAt env3 i with
    | some k, some c => match mSet c k d with
      | some c' => .ok .nx (setOw env3 i c')
      | none => .bad
    | _, _ => .bad
end Z

set_option Elab.async false
set_option linter.all false
set_option maxRecDepth 100000
set_option maxHeartbeats 4000000
/-! Z1: data in the abstract heap, environments of data, what a body's state stands for. -/
namespace Z
open PySem PySem.Spec L2

/-! ### data in the abstract heap -/
mutual
inductive At (K : PySem.W.Frag) (H : Hp) : V → D → Prop
  | non : At K H .non .none
  | bl (b : Bool) : At K H (.bl b) (.bool b)
  | int (i : Int) : At K H (.int i) (.int i)
  | str (x : Str) : At K H (.str x) (.str x)
  | lst {a : Addr} {xs : List V} {ds : List D} : SqL K H a xs → AtAll K H xs ds → At K H (.ref a) (.list ds)
  | tup {a : Addr} {xs : List V} {ds : List D} : H a = some (.tup xs) → AtAll K H xs ds → At K H (.ref a) (.tuple ds)
  | dk {a : Addr} {kvs : List (Key × V)} {ds : List D} : H a = some (.dK kvs) → AtAll K H (kvs.map (·.2)) ds → At K H (.ref a) (.dict ((kvs.map fun p => keyD p.1).zip ds))
  | dt {a : Addr} {kvs : List (List Key × V)} {ds : List D} : H a = some (.dT kvs) → AtAll K H (kvs.map (·.2)) ds → At K H (.ref a) (.dict ((PyData.none, PyData.none) :: (kvs.map fun p => PyData.tuple (p.1.map keyD)).zip ds))
inductive AtAll (K : PySem.W.Frag) (H : Hp) : List V → List D → Prop
  | nil : AtAll K H [] []
  | cons {v : V} {vs : List V} {d : D} {ds : List D} : At K H v d → AtAll K H vs ds → AtAll K H (v :: vs) (d :: ds)
end

section
variable {K : PySem.W.Frag} {H H' : Hp}
theorem Same.sqt {a : Addr} {xs : List V} (e : Same H H') (h : SqT K H a xs) : SqT K H' a xs := by
  rcases h with h | h
  · rcases h with h | ⟨o, h⟩
    · exact .inl (.inl (e _ _ h))
    · exact .inl (.inr ⟨o, e _ _ h⟩)
  · exact .inr h
mutual
theorem At.mono (e : Same H H') : ∀ {v : V} {d : D}, At K H v d → At K H' v d
  | _, _, .non => .non
  | _, _, .bl b => .bl b
  | _, _, .int i => .int i
  | _, _, .str x => .str x
  | _, _, .lst h t => .lst (e.seq h) (AtAll.mono e t)
  | _, _, .tup h t => .tup (e _ _ h) (AtAll.mono e t)
  | _, _, .dk h t => .dk (e _ _ h) (AtAll.mono e t)
  | _, _, .dt h t => .dt (e _ _ h) (AtAll.mono e t)
theorem AtAll.mono (e : Same H H') : ∀ {vs : List V} {ds : List D}, AtAll K H vs ds → AtAll K H' vs ds
  | _, _, .nil => .nil
  | _, _, .cons h t => .cons (At.mono e h) (AtAll.mono e t)
end
theorem AtAll.length : ∀ {vs : List V} {ds : List D}, AtAll K H vs ds → vs.length = ds.length
  | _, _, .nil => rfl
  | _, _, .cons _ t => congrArg Nat.succ (AtAll.length t)
theorem AtAll.append : ∀ {vs ws : List V} {ds es : List D}, AtAll K H vs ds → AtAll K H ws es → AtAll K H (vs ++ ws) (ds ++ es)
  | _, _, _, _, .nil, s => s
  | _, _, _, _, .cons h t, s => .cons h (AtAll.append t s)
theorem AtAll.get : ∀ {vs : List V} {ds : List D} {i : Nat} {d : D}, AtAll K H vs ds → ds[i]? = some d → ∃ v, vs[i]? = some v ∧ At K H v d
  | _, _, _, _, .nil, e => by simp at e
  | _, _, 0, _, .cons r _, e => by simp at e; subst e; exact ⟨_, rfl, r⟩
  | _, _, i + 1, d, .cons _ t, e => by
    obtain ⟨u, h1, h2⟩ := AtAll.get (i := i) (d := d) t (by simpa using e)
    exact ⟨u, by simpa using h1, h2⟩
theorem AtAll.get' : ∀ {vs : List V} {ds : List D} {i : Nat} {v : V}, AtAll K H vs ds → vs[i]? = some v → ∃ d, ds[i]? = some d ∧ At K H v d
  | _, _, _, _, .nil, e => by simp at e
  | _, _, 0, _, .cons r _, e => by simp at e; subst e; exact ⟨_, rfl, r⟩
  | _, _, i + 1, v, .cons _ t, e => by
    obtain ⟨u, h1, h2⟩ := AtAll.get' (i := i) (v := v) t (by simpa using e)
    exact ⟨u, by simpa using h1, h2⟩
theorem AtAll.take : ∀ {vs : List V} {ds : List D} (n : Nat), AtAll K H vs ds → AtAll K H (vs.take n) (ds.take n)
  | _, _, 0, _ => .nil
  | _, _, _ + 1, .nil => .nil
  | _, _, n + 1, .cons r t => .cons r (AtAll.take n t)
theorem AtAll.drop : ∀ {vs : List V} {ds : List D} (n : Nat), AtAll K H vs ds → AtAll K H (vs.drop n) (ds.drop n)
  | _, _, 0, r => r
  | _, _, _ + 1, .nil => .nil
  | _, _, n + 1, .cons _ t => AtAll.drop n t
theorem AtAll.set {v : V} {d : D} (r : At K H v d) : ∀ {vs : List V} {ds : List D} (i : Nat), AtAll K H vs ds → AtAll K H (vs.set i v) (ds.set i d)
  | _, _, _, .nil => .nil
  | _, _, 0, .cons _ t => .cons r t
  | _, _, i + 1, .cons q t => .cons q (AtAll.set r i t)
theorem AtAll.eraseIdx : ∀ {vs : List V} {ds : List D} (i : Nat), AtAll K H vs ds → AtAll K H (vs.eraseIdx i) (ds.eraseIdx i)
  | _, _, _, .nil => .nil
  | _, _, 0, .cons _ t => t
  | _, _, i + 1, .cons q t => .cons q (AtAll.eraseIdx i t)
theorem AtAll.dropLast {vs : List V} {ds : List D} (h : AtAll K H vs ds) : AtAll K H vs.dropLast ds.dropLast := by
  rw [List.dropLast_eq_take, List.dropLast_eq_take, h.length]
  exact h.take _
theorem AtAll.one {v : V} {d : D} (h : At K H v d) : AtAll K H [v] [d] := .cons h .nil
theorem AtAll.reverse : ∀ {vs : List V} {ds : List D}, AtAll K H vs ds → AtAll K H vs.reverse ds.reverse
  | _, _, .nil => .nil
  | _, _, .cons h t => by
    rw [List.reverse_cons, List.reverse_cons]
    exact (AtAll.reverse t).append (.one h)
theorem AtAll.rep {vs : List V} {ds : List D} (h : AtAll K H vs ds) : ∀ k : Nat, AtAll K H (List.replicate k vs).flatten (List.replicate k ds).flatten
  | 0 => .nil
  | k + 1 => by
    rw [List.replicate_succ, List.replicate_succ, List.flatten_cons, List.flatten_cons]
    exact h.append (AtAll.rep h k)
theorem AtAll.ints : ∀ {ns : List Int}, AtAll K H (ns.map V.int) (ns.map PyData.int)
  | [] => .nil
  | n :: r => .cons (.int n) AtAll.ints
theorem AtAll.of_ints : ∀ {ns : List Int} {vs : List V}, AtAll K H vs (ns.map PyData.int) → vs = ns.map V.int
  | [], _, h => by cases h; rfl
  | n :: r, _, h => by
    cases h with
    | cons h t =>
      cases h
      rw [AtAll.of_ints t]
      rfl
theorem AtAll.strs : ∀ {ns : List Str}, AtAll K H (ns.map V.str) (ns.map PyData.str)
  | [] => .nil
  | n :: r => .cons (.str n) AtAll.strs
theorem AtAll.of_strs : ∀ {ns : List Str} {vs : List V}, AtAll K H vs (ns.map PyData.str) → vs = ns.map V.str
  | [], _, h => by cases h; rfl
  | n :: r, _, h => by
    cases h with
    | cons h t =>
      cases h
      rw [AtAll.of_strs t]
      rfl
theorem AtAll.of_bools : ∀ {ns : List Bool} {vs : List V}, AtAll K H vs (ns.map PyData.bool) → vs = ns.map V.bl
  | [], _, h => by cases h; rfl
  | n :: r, _, h => by
    cases h with
    | cons h t =>
      cases h
      rw [AtAll.of_bools t]
      rfl
mutual
theorem At.dp : ∀ {d : D} {v : V}, PyData.plain d = true → At K H v d → Dp K H v d
  | .none, _, _, .non => .non
  | .bool _, _, _, .bl b => .bl b
  | .int _, _, _, .int i => .int i
  | .str _, _, _, .str x => .str x
  | .list ds, _, n, .lst h t => .lst h (AtAll.dp (by simpa [PyData.plain] using n) t)
  | .tuple ds, _, n, .tup h t => .tup (SqT.of h) (AtAll.dp (by simpa [PyData.plain] using n) t)
  | .dict _, _, n, _ => by simp [PyData.plain] at n
theorem AtAll.dp : ∀ {ds : List D} {vs : List V}, PyData.plainAll ds = true → AtAll K H vs ds → DpAll K H vs ds
  | [], _, _, .nil => .nil
  | d :: ds, _, n, .cons h t => by
    have n' : PyData.plain d = true ∧ PyData.plainAll ds = true := by simpa [PyData.plainAll] using n
    exact .cons (At.dp n'.1 h) (AtAll.dp n'.2 t)
end
end

/-! ### environments of data -/
/-- the object o holds c, its items in F -/
inductive OwAt (K : PySem.W.Frag) (F : Hp) : HO → Ow → Prop
  | ls {vs : List V} {ds : List D} : AtAll K F vs ds → OwAt K F (.lst vs) (.ls ds)
  | dk {kvs : List (Key × V)} {kvs' : List (Key × D)} : kvs.map (·.1) = kvs'.map (·.1) → AtAll K F (kvs.map (·.2)) (kvs'.map (·.2)) → OwAt K F (.dK kvs) (.dk kvs')
  | dt {kvs : List (List Key × V)} {kvs' : List (List Key × D)} : kvs.map (·.1) = kvs'.map (·.1) → AtAll K F (kvs.map (·.2)) (kvs'.map (·.2)) → OwAt K F (.dT kvs) (.dt kvs')
theorem OwAt.mono {K : PySem.W.Frag} {F F' : Hp} (e : Same F F') {o : HO} {c : Ow} (h : OwAt K F o c) : OwAt K F' o c := by
  cases h with
  | ls h => exact .ls (AtAll.mono e h)
  | dk h1 h2 => exact .dk h1 (AtAll.mono e h2)
  | dt h1 h2 => exact .dt h1 (AtAll.mono e h2)
theorem zip_fst_snd {κ β : Type} (f : κ → D) : ∀ (kvs : List (κ × β)) (kvs' : List (κ × D)), kvs.map (·.1) = kvs'.map (·.1) → (kvs.map fun p => f p.1).zip (kvs'.map (·.2)) = kvs'.map fun p => (f p.1, p.2)
  | [], [], _ => rfl
  | [], _ :: _, h => by simp at h
  | _ :: _, [], h => by simp at h
  | p :: r, q :: r', h => by
    simp only [List.map_cons, List.cons.injEq] at h
    rw [List.map_cons, List.map_cons, List.map_cons, List.zip_cons_cons, zip_fst_snd f r r' h.2, h.1]
theorem OwAt.at {K : PySem.W.Frag} {F H : Hp} {a : Addr} (e : Same F H) {o : HO} {c : Ow} (ha : H a = some o) (h : OwAt K F o c) : At K H (.ref a) c.d := by
  cases h with
  | ls h => exact .lst (SqL.of ha) (AtAll.mono e h)
  | dk h1 h2 =>
    have q : At K H (.ref a) _ := At.dk ha (AtAll.mono e h2)
    rw [zip_fst_snd keyD _ _ h1] at q
    exact q
  | dt h1 h2 =>
    have q : At K H (.ref a) _ := At.dt ha (AtAll.mono e h2)
    rw [zip_fst_snd (fun k : List Key => PyData.tuple (k.map keyD)) _ _ h1] at q
    exact q
theorem OwAt.mut {K : PySem.W.Frag} {F : Hp} {o : HO} {c : Ow} (h : OwAt K F o c) : Mut (some o) := by
  cases h <;> trivial

/-- a body's entry: the heap, its part that is data for good, what is lent, what is walked (slot, address) -/
structure Base where
  H0 : Hp
  F0 : Hp
  lent : List (Nat × Addr)
  hold : List (Nat × Addr)

/-- the state of a body: env is what σ and H hold; F: the part of H that stays as it is; tm: new objects that no name has -/
structure Rep (K : PySem.W.Frag) (B : Base) (tm : List (Addr × HO)) (env : DEnv) (σ : L2.St) (F H : Hp) : Prop where
  sub : Same F H
  keep : ∀ a o, B.H0 a = some o → (∀ i, (i, a) ∉ B.lent) → H a = some o
  old : ∀ a, B.H0 a ≠ none → B.F0 a = none → F a = none
  big : Same B.F0 F
  len : env.length = σ.length
  sh : ∀ (i : Nat) (d : D), slotAt env i = some (.sh d) → ∃ v, σ[i]? = some (some v) ∧ At K F v d
  ow : ∀ (i : Nat) (c : Ow), slotAt env i = some (.ow c) → ∃ a o, σ[i]? = some (some (.ref a)) ∧ H a = some o ∧ OwAt K F o c ∧ F a = none ∧ B.H0 a = none
  le : ∀ (i : Nat) (a : Addr), (i, a) ∈ B.lent → ∃ c o, slotAt env i = some (.le c) ∧ σ[i]? = some (some (.ref a)) ∧ H a = some o ∧ OwAt K F o c ∧ F a = none ∧ B.H0 a ≠ none
  lei : ∀ (i : Nat) (c : Ow), slotAt env i = some (.le c) → ∃ a, (i, a) ∈ B.lent
  hd : ∀ (i : Nat) (a : Addr), (i, a) ∈ B.hold → ∃ c o, slotAt env i = some (.hd c) ∧ σ[i]? = some (some (.ref a)) ∧ H a = some o ∧ OwAt K F o c ∧ F a = none ∧ B.H0 a = none
  hdi : ∀ (i : Nat) (c : Ow), slotAt env i = some (.hd c) → ∃ a, (i, a) ∈ B.hold
  tmk : ∀ p ∈ tm, H p.1 = some p.2 ∧ F p.1 = none ∧ B.H0 p.1 = none
  tmd : (tm.map (·.1)).Nodup
  tmo : ∀ p ∈ tm, ∀ (i : Nat) (c : Ow), anyAt env i = some c → σ[i]? ≠ some (some (.ref p.1))
  one : ∀ (i j : Nat) (a : Addr) (c c' : Ow), anyAt env i = some c → anyAt env j = some c' → σ[i]? = some (some (.ref a)) → σ[j]? = some (some (.ref a)) → i = j

/-- what an expression's value is in the heap -/
def OpdAt (K : PySem.W.Frag) (B : Base) (tm : List (Addr × HO)) (env : DEnv) (σ : L2.St) (F H : Hp) (o : Opd) (v : V) : Prop :=
  match o with
  | .va d => At K F v d
  | .fr c => ∃ a ob, v = .ref a ∧ H a = some ob ∧ OwAt K F ob c ∧ F a = none ∧ B.H0 a = none ∧ (∀ p ∈ tm, p.1 ≠ a) ∧ ∀ (i : Nat) (c' : Ow), anyAt env i = some c' → σ[i]? ≠ some (some (.ref a))
  | .sl i => σ[i]? = some (some v)
/-- .. once it is kept: a new object is data -/
def KeptAt (K : PySem.W.Frag) (F : Hp) (σ : L2.St) (o : Opd) (v : V) : Prop :=
  match o with
  | .va d => At K F v d
  | .fr c => At K F v c.d
  | .sl i => σ[i]? = some (some v)
theorem KeptAt.mono {K : PySem.W.Frag} {F F' : Hp} {σ : L2.St} {o : Opd} {v : V} (e : Same F F') (h : KeptAt K F σ o v) : KeptAt K F' σ o v := by
  cases o with
  | va d => exact At.mono e h
  | fr c => exact At.mono e h
  | sl i => exact h
/-- what can be read now -/
def Cn (K : PySem.W.Frag) (F H : Hp) (v : V) (d : D) : Prop := At K F v d ∨ ∃ a o c, v = .ref a ∧ H a = some o ∧ OwAt K F o c ∧ d = c.d
section
variable {K : PySem.W.Frag} {B : Base} {tm : List (Addr × HO)} {env : DEnv} {σ : L2.St} {F H : Hp}
theorem Cn.at {v : V} {d : D} (e : Same F H) (h : Cn K F H v d) : At K H v d := by
  rcases h with h | ⟨a, o, c, rfl, ho, hc, rfl⟩
  · exact At.mono e h
  · exact hc.at e ho
theorem Cn.lst {v : V} {ds : List D} (e : Same F H) (h : Cn K F H v (.list ds)) : ∃ a xs, v = .ref a ∧ SqL K H a xs ∧ AtAll K F xs ds := by
  rcases h with h | ⟨a, o, c, rfl, ho, hc, q⟩
  · cases h with
    | lst h t => exact ⟨_, _, rfl, e.seq h, t⟩
  · cases hc with
    | ls h =>
      simp only [Ow.d, PyData.list.injEq] at q
      subst q
      exact ⟨a, _, rfl, SqL.of ho, h⟩
    | dk h1 h2 => simp [Ow.d] at q
    | dt h1 h2 => simp [Ow.d] at q
theorem Cn.tup {v : V} {ds : List D} (e : Same F H) (h : Cn K F H v (.tuple ds)) : ∃ a xs, v = .ref a ∧ SqT K H a xs ∧ AtAll K F xs ds := by
  rcases h with h | ⟨a, o, c, rfl, ho, hc, q⟩
  · cases h with
    | tup h t => exact ⟨_, _, rfl, SqT.of (e _ _ h), t⟩
  · cases hc <;> simp [Ow.d] at q
theorem Cn.int {v : V} {i : Int} (h : Cn K F H v (.int i)) : v = .int i := by
  rcases h with h | ⟨a, o, c, rfl, ho, hc, q⟩
  · cases h; rfl
  · cases hc <;> simp [Ow.d] at q
theorem Cn.str {v : V} {x : Str} (h : Cn K F H v (.str x)) : v = .str x := by
  rcases h with h | ⟨a, o, c, rfl, ho, hc, q⟩
  · cases h; rfl
  · cases hc <;> simp [Ow.d] at q
theorem Cn.bl {v : V} {b : Bool} (h : Cn K F H v (.bool b)) : v = .bl b := by
  rcases h with h | ⟨a, o, c, rfl, ho, hc, q⟩
  · cases h; rfl
  · cases hc <;> simp [Ow.d] at q
theorem Cn.non {v : V} (h : Cn K F H v .none) : v = .non := by
  rcases h with h | ⟨a, o, c, rfl, ho, hc, q⟩
  · cases h; rfl
  · cases hc <;> simp [Ow.d] at q

theorem same_upd {H : Hp} {p : Addr} {o : HO} (h : H p = none) : Same H (upd H p o) := fun b u q => by
  rw [upd_ne (ne_of_none q h)]
  exact q
theorem Rep.fresh {p : Addr} (r : Rep K B tm env σ F H) (h : H p = none) : F p = none ∧ B.H0 p = none := by
  refine ⟨r.sub.free h, ?_⟩
  cases e : B.H0 p with
  | none => rfl
  | some o =>
    by_cases q : ∀ i, (i, p) ∉ B.lent
    · rw [r.keep p o e q] at h; cases h
    · simp only [Classical.not_forall, Classical.not_not] at q
      obtain ⟨i, q⟩ := q
      obtain ⟨_, o', _, _, z, _⟩ := r.le i p q
      rw [z] at h; cases h
theorem any_cases {i : Nat} {c : Ow} (h : anyAt env i = some c) : slotAt env i = some (.ow c) ∨ slotAt env i = some (.le c) ∨ slotAt env i = some (.hd c) := by
  unfold anyAt at h
  cases e : slotAt env i with
  | none => rw [e] at h; simp at h
  | some s =>
    rw [e] at h
    cases s with
    | sh d => simp at h
    | ow c' => simp at h; subst h; exact .inl rfl
    | le c' => simp at h; subst h; exact .inr (.inl rfl)
    | hd c' => simp at h; subst h; exact .inr (.inr rfl)
theorem any_of_ow {i : Nat} {c : Ow} (h : slotAt env i = some (.ow c)) : anyAt env i = some c := by
  unfold anyAt; rw [h]; rfl
theorem any_of_hd {i : Nat} {c : Ow} (h : slotAt env i = some (.hd c)) : anyAt env i = some c := by
  unfold anyAt; rw [h]; rfl
theorem any_of_le {i : Nat} {c : Ow} (h : slotAt env i = some (.le c)) : anyAt env i = some c := by
  unfold anyAt; rw [h]; rfl
theorem own_cases {i : Nat} {c : Ow} (h : ownAt env i = some c) : slotAt env i = some (.ow c) ∨ slotAt env i = some (.le c) := by
  unfold ownAt at h
  cases e : slotAt env i with
  | none => rw [e] at h; simp at h
  | some s =>
    rw [e] at h
    cases s with
    | sh d => simp at h
    | ow c' => simp at h; subst h; exact .inl rfl
    | le c' => simp at h; subst h; exact .inr rfl
    | hd c' => simp at h
theorem any_of_own {i : Nat} {c : Ow} (h : ownAt env i = some c) : anyAt env i = some c := (own_cases h).elim any_of_ow any_of_le
/-- an owned object -/
theorem Rep.own {i : Nat} {c : Ow} (r : Rep K B tm env σ F H) (h : anyAt env i = some c) : ∃ a o, σ[i]? = some (some (.ref a)) ∧ H a = some o ∧ OwAt K F o c ∧ F a = none := by
  rcases any_cases h with h | h | h
  · obtain ⟨a, o, h1, h2, h3, h4, _⟩ := r.ow i c h
    exact ⟨a, o, h1, h2, h3, h4⟩
  · obtain ⟨a, ha⟩ := r.lei i c h
    obtain ⟨c', o, h1, h2, h3, h4, h5, _⟩ := r.le i a ha
    rw [h] at h1
    cases h1
    exact ⟨a, o, h2, h3, h4, h5⟩
  · obtain ⟨a, ha⟩ := r.hdi i c h
    obtain ⟨c', o, h1, h2, h3, h4, h5, _⟩ := r.hd i a ha
    rw [h] at h1
    cases h1
    exact ⟨a, o, h2, h3, h4, h5⟩
/-- a new object that is data for good -/
theorem Rep.grow {p : Addr} {o : HO} (r : Rep K B tm env σ F H) (h : H p = none) : Rep K B tm env σ (upd F p o) (upd H p o) := by
  obtain ⟨f0, h0⟩ := r.fresh h
  have sF : Same F (upd F p o) := same_upd f0
  refine ⟨fun a u q => ?_, fun a u q hl => ?_, fun a q1 q2 => ?_, fun a u q => sF a u (r.big a u q), r.len, fun i d q => ?_, fun i c q => ?_, fun i a q => ?_, r.lei, fun i a q => ?_, r.hdi, fun q hq => ?_, r.tmd, r.tmo, r.one⟩
  · by_cases e : a = p
    · subst e; rw [upd_same] at q ⊢; exact q
    · rw [upd_ne e] at q ⊢; exact r.sub a u q
  · rw [upd_ne (ne_of_none (r.keep a u q hl) h)]; exact r.keep a u q hl
  · have e : a ≠ p := fun e => q1 (e ▸ h0)
    rw [upd_ne e]; exact r.old a q1 q2
  · obtain ⟨v, h1, h2⟩ := r.sh i d q
    exact ⟨v, h1, At.mono sF h2⟩
  · obtain ⟨a, u, h1, h2, h3, h4, h5⟩ := r.ow i c q
    have e : a ≠ p := ne_of_none h2 h
    exact ⟨a, u, h1, by rw [upd_ne e]; exact h2, h3.mono sF, by rw [upd_ne e]; exact h4, h5⟩
  · obtain ⟨c, u, h1, h2, h3, h4, h5, h6⟩ := r.le i a q
    have e : a ≠ p := ne_of_none h3 h
    exact ⟨c, u, h1, h2, by rw [upd_ne e]; exact h3, h4.mono sF, by rw [upd_ne e]; exact h5, h6⟩
  · obtain ⟨c, u, h1, h2, h3, h4, h5, h6⟩ := r.hd i a q
    have e : a ≠ p := ne_of_none h3 h
    exact ⟨c, u, h1, h2, by rw [upd_ne e]; exact h3, h4.mono sF, by rw [upd_ne e]; exact h5, h6⟩
  · obtain ⟨h1, h2, h3⟩ := r.tmk q hq
    have e : q.1 ≠ p := ne_of_none h1 h
    exact ⟨by rw [upd_ne e]; exact h1, by rw [upd_ne e]; exact h2, h3⟩
/-- a new object that no name has -/
theorem Rep.newObj {p : Addr} {o : HO} (r : Rep K B tm env σ F H) (h : H p = none) : Rep K B tm env σ F (upd H p o) := by
  have sH : Same H (upd H p o) := same_upd h
  refine ⟨fun a u q => sH a u (r.sub a u q), fun a u q hl => sH a u (r.keep a u q hl), r.old, r.big, r.len, r.sh, fun i c q => ?_, fun i a q => ?_, r.lei, fun i a q => ?_, r.hdi, fun q hq => ?_, r.tmd, r.tmo, r.one⟩
  · obtain ⟨a, u, h1, h2, h3, h4, h5⟩ := r.ow i c q
    exact ⟨a, u, h1, sH _ _ h2, h3, h4, h5⟩
  · obtain ⟨c, u, h1, h2, h3, h4⟩ := r.le i a q
    exact ⟨c, u, h1, h2, sH _ _ h3, h4⟩
  · obtain ⟨c, u, h1, h2, h3, h4⟩ := r.hd i a q
    exact ⟨c, u, h1, h2, sH _ _ h3, h4⟩
  · obtain ⟨h1, h2⟩ := r.tmk q hq
    exact ⟨sH _ _ h1, h2⟩
theorem Rep.newFr {p : Addr} {o : HO} {c : Ow} (r : Rep K B tm env σ F H) (h : H p = none) (hc : OwAt K F o c) : OpdAt K B tm env σ F (upd H p o) (.fr c) (.ref p) := by
  obtain ⟨f0, h0⟩ := r.fresh h
  refine ⟨p, o, rfl, upd_same, hc, f0, h0, fun q hq e => ?_, fun i c' q e => ?_⟩
  · have := (r.tmk q hq).1
    rw [e, h] at this; cases this
  · obtain ⟨a, u, h1, h2, _⟩ := r.own q
    rw [e] at h1
    cases h1
    rw [h] at h2; cases h2
/-- a new object that no name has becomes data for good -/
theorem Rep.fz {v : V} {c : Ow} (r : Rep K B tm env σ F H) (h : OpdAt K B tm env σ F H (.fr c) v) : ∃ F', Same F F' ∧ Rep K B tm env σ F' H ∧ At K F' v c.d := by
  obtain ⟨a, o, rfl, ha, hc, fa, h0, ht, hn⟩ := h
  have sF : Same F (upd F a o) := same_upd fa
  refine ⟨upd F a o, sF, ⟨fun b u q => ?_, r.keep, fun b q1 q2 => ?_, fun b u q => sF b u (r.big b u q), r.len, fun i d q => ?_, fun i c q => ?_, fun i b q => ?_, r.lei, fun i b q => ?_, r.hdi, fun q hq => ?_, r.tmd, r.tmo, r.one⟩, OwAt.at sF upd_same hc⟩
  · by_cases e : b = a
    · subst e; rw [upd_same] at q; cases q; exact ha
    · rw [upd_ne e] at q; exact r.sub b u q
  · have e : b ≠ a := fun e => q1 (e ▸ h0)
    rw [upd_ne e]; exact r.old b q1 q2
  · obtain ⟨v, h1, h2⟩ := r.sh i d q
    exact ⟨v, h1, At.mono sF h2⟩
  · obtain ⟨b, u, h1, h2, h3, h4, h5⟩ := r.ow i c q
    have e : b ≠ a := fun e => hn i c (any_of_ow q) (e ▸ h1)
    exact ⟨b, u, h1, h2, h3.mono sF, by rw [upd_ne e]; exact h4, h5⟩
  · obtain ⟨c', u, h1, h2, h3, h4, h5, h6⟩ := r.le i b q
    have e : b ≠ a := fun e => h6 (e ▸ h0)
    exact ⟨c', u, h1, h2, h3, h4.mono sF, by rw [upd_ne e]; exact h5, h6⟩
  · obtain ⟨c', u, h1, h2, h3, h4, h5, h6⟩ := r.hd i b q
    have e : b ≠ a := fun e => hn i c' (any_of_hd h1) (e ▸ h2)
    exact ⟨c', u, h1, h2, h3, h4.mono sF, by rw [upd_ne e]; exact h5, h6⟩
  · obtain ⟨h1, h2, h3⟩ := r.tmk q hq
    exact ⟨h1, by rw [upd_ne (ht q hq)]; exact h2, h3⟩
theorem Rep.keepO {o : Opd} {v : V} (r : Rep K B tm env σ F H) (h : OpdAt K B tm env σ F H o v) : ∃ F', Same F F' ∧ Rep K B tm env σ F' H ∧ KeptAt K F' σ o v := by
  cases o with
  | va d => exact ⟨F, Same.refl _, r, h⟩
  | fr c => exact r.fz h
  | sl i => exact ⟨F, Same.refl _, r, h⟩
theorem Rep.rdK {o : Opd} {v : V} {d : D} (r : Rep K B tm env σ F H) (h : KeptAt K F σ o v) (e : rd o env = some d) : Cn K F H v d := by
  cases o with
  | va d' => simp at e; subst e; exact .inl h
  | fr c => simp at e; subst e; exact .inl h
  | sl i =>
    have h : σ[i]? = some (some v) := h
    simp only [rd, Option.map_eq_some_iff] at e
    obtain ⟨s, hs, rfl⟩ := e
    cases s with
    | sh d =>
      obtain ⟨u, h1, h2⟩ := r.sh i d hs
      rw [h] at h1; cases h1
      exact .inl h2
    | ow c =>
      obtain ⟨a, o, h1, h2, h3, _⟩ := r.own (any_of_ow hs)
      rw [h] at h1; cases h1
      exact .inr ⟨a, o, c, rfl, h2, h3, rfl⟩
    | le c =>
      obtain ⟨a, o, h1, h2, h3, _⟩ := r.own (any_of_le hs)
      rw [h] at h1; cases h1
      exact .inr ⟨a, o, c, rfl, h2, h3, rfl⟩
    | hd c =>
      obtain ⟨a, o, h1, h2, h3, _⟩ := r.own (any_of_hd hs)
      rw [h] at h1; cases h1
      exact .inr ⟨a, o, c, rfl, h2, h3, rfl⟩
theorem slotAt_set {env : DEnv} {i j : Nat} {s : Option Slot} (h : i < env.length) : slotAt (env.set i s) j = if i = j then s else slotAt env j := by
  unfold slotAt
  by_cases e : i = j
  · subst e; rw [if_pos rfl, List.getElem?_set_self h]; cases s <;> rfl
  · rw [if_neg e, List.getElem?_set_ne e]
theorem slotAt_lt {env : DEnv} {i : Nat} {s : Slot} (h : slotAt env i = some s) : i < env.length := by
  unfold slotAt at h
  cases e : env[i]? with
  | none => rw [e] at h; cases h
  | some z => exact (List.getElem?_eq_some_iff.mp e).1
theorem ownAt_set_sh {env : DEnv} {i j : Nat} {d : D} {c : Ow} (h : anyAt (env.set i (some (.sh d))) j = some c) : i ≠ j ∧ anyAt env j = some c := by
  by_cases hi : i < env.length
  · unfold anyAt at h ⊢
    rw [slotAt_set hi] at h
    by_cases e : i = j
    · rw [if_pos e] at h; cases h
    · rw [if_neg e] at h; exact ⟨e, h⟩
  · rw [List.set_eq_of_length_le (by omega)] at h
    refine ⟨fun e => ?_, h⟩
    subst e
    unfold anyAt at h
    cases q : slotAt env i with
    | none => rw [q] at h; cases h
    | some s => exact hi (slotAt_lt q)
/-- an owned object of a name becomes data for good -/
theorem Rep.fzSlot {i : Nat} {c : Ow} (r : Rep K B tm env σ F H) (h : slotAt env i = some (.ow c)) : ∃ F', Same F F' ∧ Rep K B tm (env.set i (some (.sh c.d))) σ F' H ∧ ∀ v, σ[i]? = some (some v) → At K F' v c.d := by
  obtain ⟨a, o, hs, ha, hc, fa, h0⟩ := r.ow i c h
  have hi := slotAt_lt h
  have sF : Same F (upd F a o) := same_upd fa
  have here : ∀ v, σ[i]? = some (some v) → At K (upd F a o) v c.d := fun v q => by
    rw [hs] at q; cases q
    exact OwAt.at sF upd_same hc
  refine ⟨upd F a o, sF, ⟨fun b u q => ?_, r.keep, fun b q1 q2 => ?_, fun b u q => sF b u (r.big b u q), by rw [List.length_set]; exact r.len, fun j d q => ?_, fun j c' q => ?_, fun j b q => ?_, fun j c' q => ?_, fun j b q => ?_, fun j c' q => ?_, fun q hq => ?_, r.tmd, fun q hq j c' z => r.tmo q hq j c' (ownAt_set_sh z).2,
    fun j k b c' c'' z1 z2 => r.one j k b c' c'' (ownAt_set_sh z1).2 (ownAt_set_sh z2).2⟩, here⟩
  · by_cases e : b = a
    · subst e; rw [upd_same] at q; cases q; exact ha
    · rw [upd_ne e] at q; exact r.sub b u q
  · have e : b ≠ a := fun e => q1 (e ▸ h0)
    rw [upd_ne e]; exact r.old b q1 q2
  · rw [slotAt_set hi] at q
    by_cases e : i = j
    · subst e; rw [if_pos rfl] at q; cases q
      exact ⟨.ref a, hs, here _ hs⟩
    · rw [if_neg e] at q
      obtain ⟨v, h1, h2⟩ := r.sh j d q
      exact ⟨v, h1, At.mono sF h2⟩
  · rw [slotAt_set hi] at q
    by_cases e : i = j
    · rw [if_pos e] at q; cases q
    · rw [if_neg e] at q
      obtain ⟨b, u, h1, h2, h3, h4, h5⟩ := r.ow j c' q
      have e : b ≠ a := fun z => e (r.one i j a c c' (any_of_ow h) (any_of_ow q) hs (z ▸ h1))
      exact ⟨b, u, h1, h2, h3.mono sF, by rw [upd_ne e]; exact h4, h5⟩
  · obtain ⟨c', u, h1, h2, h3, h4, h5, h6⟩ := r.le j b q
    have e : b ≠ a := fun e => h6 (e ▸ h0)
    refine ⟨c', u, ?_, h2, h3, h4.mono sF, by rw [upd_ne e]; exact h5, h6⟩
    rw [slotAt_set hi, if_neg (fun z => by subst z; rw [h] at h1; cases h1)]
    exact h1
  · rw [slotAt_set hi] at q
    by_cases e : i = j
    · rw [if_pos e] at q; cases q
    · rw [if_neg e] at q; exact r.lei j c' q
  · obtain ⟨c', u, h1, h2, h3, h4, h5, h6⟩ := r.hd j b q
    have ij : i ≠ j := fun z => by subst z; rw [h] at h1; cases h1
    have e : b ≠ a := fun z => ij (r.one i j a c c' (any_of_ow h) (any_of_hd h1) hs (z ▸ h2))
    refine ⟨c', u, ?_, h2, h3, h4.mono sF, by rw [upd_ne e]; exact h5, h6⟩
    rw [slotAt_set hi, if_neg ij]
    exact h1
  · rw [slotAt_set hi] at q
    by_cases e : i = j
    · rw [if_pos e] at q; cases q
    · rw [if_neg e] at q; exact r.hdi j c' q
  · obtain ⟨h1, h2, h3⟩ := r.tmk q hq
    have e : q.1 ≠ a := fun e => r.tmo q hq i c (any_of_ow h) (e ▸ hs)
    exact ⟨h1, by rw [upd_ne e]; exact h2, h3⟩
theorem Rep.share {o : Opd} {v : V} {d : D} {env' : DEnv} (r : Rep K B tm env σ F H) (h : OpdAt K B tm env σ F H o v) (e : share o env = .ok d env') : ∃ F', Same F F' ∧ Rep K B tm env' σ F' H ∧ At K F' v d := by
  cases o with
  | va d' => simp at e; obtain ⟨rfl, rfl⟩ := e; exact ⟨F, Same.refl _, r, h⟩
  | fr c => simp at e; obtain ⟨rfl, rfl⟩ := e; exact r.fz h
  | sl i =>
    have h : σ[i]? = some (some v) := h
    simp only [Z.share] at e
    split at e
    · rename_i d' hs
      simp at e
      obtain ⟨rfl, rfl⟩ := e
      obtain ⟨u, h1, h2⟩ := r.sh i _ hs
      rw [h] at h1; cases h1
      exact ⟨F, Same.refl _, r, h2⟩
    · rename_i c hs
      simp at e
      obtain ⟨rfl, rfl⟩ := e
      obtain ⟨F', h1, h2, h3⟩ := r.fzSlot hs
      exact ⟨F', h1, h2, h3 v h⟩
    · cases e
theorem share_no_exc {o : Opd} {env env' : DEnv} {c : Str} : share o env ≠ .exc c env' := by
  cases o with
  | va d => simp
  | fr c => simp
  | sl i => simp only [Z.share]; split <;> simp
end
end Z

set_option Elab.async false
set_option linter.all false
set_option maxRecDepth 100000
set_option maxHeartbeats 4000000
/-! Z2: the judgements over data; expressions. -/
namespace Z
open PySem PySem.Spec L2

theorem PE.imp {X : Cx} {e : Expr} {t t' : TE} (h : PE X e t) (hi : ∀ σ H Q, t' σ H Q → t σ H Q) : PE X e t' := ⟨fun pins s σ H Q I hq => h.run pins s σ H Q I (hi σ H Q hq)⟩
theorem PT.imp {X : Cx} {e : Expr} {t t' : TT} (h : PT X e t) (hi : ∀ σ H Q, t' σ H Q → t σ H Q) : PT X e t' := ⟨fun pins s σ H Q I hq => h.run pins s σ H Q I (hi σ H Q hq)⟩
theorem PW.imp {X : Cx} {e : Expr} {t t' : TT} (h : PW X e t) (hi : ∀ σ H Q, t' σ H Q → t σ H Q) : PW X e t' := ⟨fun wh pins s σ H Q I hq => h.run wh pins s σ H Q I (hi σ H Q hq)⟩
theorem PA.imp {X : Cx} {es : List Expr} {t t' : TA} (h : PA X es t) (hi : ∀ σ H Q, t' σ H Q → t σ H Q) : PA X es t' := ⟨fun pos pins s σ H Q I hq => h.run pos pins s σ H Q I (hi σ H Q hq)⟩
theorem PS.imp {X : Cx} {st : Stmt} {t t' : TS} (h : PS X st t) (hi : ∀ D σ H, t' D σ H → t D σ H) : PS X st t' := ⟨fun pins s σ H D I hq => h.run pins s σ H D I (hi D σ H hq)⟩
theorem PSs.imp {X : Cx} {st : List Stmt} {t t' : TS} (h : PSs X st t) (hi : ∀ D σ H, t' D σ H → t D σ H) : PSs X st t' := ⟨fun pins s σ H D I hq => h.run pins s σ H D I (hi D σ H hq)⟩

/-- what is wanted of an outcome -/
def RQ {α : Type} (X : Cx) (W : WX) (B : Base) (tm : List (Addr × HO)) (σ : L2.St) (P : α → DEnv → Prop) (r : R α) : Prop :=
  match r with
  | .ok a env => P a env
  | .exc c env => ∀ F H, Rep X.K B tm env σ F H → ∀ C, X.mg c = some (.ref C) → W (.ref C) none σ H
  | .bad => False
section
variable {α β : Type} {X : Cx} {W : WX} {B : Base} {tm : List (Addr × HO)} {σ : L2.St}
theorem RQ.bind {P : β → DEnv → Prop} {m : R α} {k : α → DEnv → R β} (h : RQ X W B tm σ P (m.bind k)) : RQ X W B tm σ (fun a env => RQ X W B tm σ P (k a env)) m := by
  cases m <;> exact h
theorem RQ.imp {P P' : α → DEnv → Prop} {r : R α} (h : RQ X W B tm σ P r) (hi : ∀ a env, P a env → P' a env) : RQ X W B tm σ P' r := by
  cases r with
  | ok a env => exact hi _ _ h
  | exc c env => exact h
  | bad => exact h
end
/-- the reading of an expression by a function of data -/
def tE (X : Cx) (W : WX) (f : E) : TE := fun σ H Q => ∃ B tm env F, Rep X.K B tm env σ F H ∧
  RQ X W B tm σ (fun o env' => ∀ v F' H', Same F F' → Rep X.K B tm env' σ F' H' → OpdAt X.K B tm env' σ F' H' o v → Q v H') (f env)
def tT (X : Cx) (W : WX) (f : T) : TT := fun σ H Q => ∃ B tm env F, Rep X.K B tm env σ F H ∧
  RQ X W B tm σ (fun b env' => ∀ F' H', Same F F' → Rep X.K B tm env' σ F' H' → Q b H') (f env)
def tD (X : Cx) (W : WX) (f : Da) : TA := fun σ H Q => ∃ B tm env F, Rep X.K B tm env σ F H ∧
  RQ X W B tm σ (fun ds env' => ∀ vs F' H', Same F F' → Rep X.K B tm env' σ F' H' → AtAll X.K F' vs ds → Q vs H') (f env)
abbrev DE (X : Cx) (W : WX) (e : Expr) (f : E) : Prop := PE X e (tE X W f)
abbrev DT (X : Cx) (W : WX) (e : Expr) (f : T) : Prop := PT X e (tT X W f)
abbrev DW (X : Cx) (W : WX) (e : Expr) (f : T) : Prop := PW X e (tT X W f)
abbrev DD (X : Cx) (W : WX) (es : List Expr) (f : Da) : Prop := PA X es (tD X W f)

section
variable {X : Cx} {W : WX} {a b c e : Expr} {es : List Expr} {fa fb fc f : E} {ta tb : T} {fd : Da} {pos : Pos}

/-! ### names, constants -/
theorem de_var (i : Nat) {x : Str} {pos : Pos} (hN : X.N[i]? = some x := by rfl) (hv : Vis X.env.scope x := by first | exact Or.inl rfl | exact Or.inr (Or.inl rfl) | exact Or.inr (Or.inr rfl)) (hd : (x == ("__debug__" : Str)) = false := by decide)
    (hcd : (x == ("__classdict__" : Str)) = false := by decide) : DE X W (.Name x pos) (eVar i) := by
  refine PE.imp (pe_var hN hv hd hcd) fun σ H Q ⟨B, tm, env, F, r, h⟩ => ?_
  simp only [eVar] at h
  split at h
  · rename_i d hs
    obtain ⟨v, h1, h2⟩ := r.sh i d hs
    exact ⟨v, h1, h v F H (Same.refl _) r h2⟩
  · rename_i c hs
    obtain ⟨a, o, h1, _⟩ := r.own (any_of_ow hs)
    exact ⟨_, h1, h _ F H (Same.refl _) r h1⟩
  · rename_i c hs
    obtain ⟨a, o, h1, _⟩ := r.own (any_of_le hs)
    exact ⟨_, h1, h _ F H (Same.refl _) r h1⟩
  · exact h.elim
/-- a value that is the same everywhere -/
theorem de_const {v : V} {d : D} (h : PE X e (tC v)) (hv : ∀ F, At X.K F v d) : DE X W e (eC d) :=
  PE.imp h fun σ H Q ⟨B, tm, env, F, r, h⟩ => h v F H (Same.refl _) r (hv F)
theorem de_int {i : Int} {j : Nat} : DE X W (.Constant (.int i) j pos) (eC (.int i)) := de_const pe_int fun _ => .int i
theorem de_bl {b : Bool} {j : Nat} : DE X W (.Constant (.bool b) j pos) (eC (.bool b)) := de_const pe_bl fun _ => .bl b
theorem de_non {j : Nat} : DE X W (.Constant .none j pos) (eC .none) := de_const pe_non fun _ => .non
theorem de_str {x : Str} {j : Nat} : DE X W (.Constant (.str x) j pos) (eC (.str x)) := de_const pe_str fun _ => .str x
/-- a constant of the module -/
theorem de_gint {x : Str} {i : Int} {t : Tok} (hg : Gl X x) (hm : X.mg x = some (.int i t)) (hd : (x == ("__debug__" : Str)) = false := by decide) : DE X W (.Name x pos) (eC (.int i)) :=
  de_const (pe_glob (v := .int i) hg hm ⟨_, rfl⟩ hd) fun _ => .int i
theorem de_gstr {x z : Str} {t : Tok} (hg : Gl X x) (hm : X.mg x = some (.str z t)) (hd : (x == ("__debug__" : Str)) = false := by decide) : DE X W (.Name x pos) (eC (.str z)) :=
  de_const (pe_glob (v := .str z) hg hm ⟨_, rfl⟩ hd) fun _ => .str z

/-! ### lists of data -/
theorem dd_nil : DD X W [] dNil := PA.imp pa_nil fun σ H Q ⟨B, tm, env, F, r, h⟩ => h [] F H (Same.refl _) r .nil
theorem dd_cons (ha : DE X W e f) (hr : DD X W es fd) (hs : starEach (e :: es) X.env = (false, eval e X.env) :: starEach es X.env := by rfl) : DD X W (e :: es) (dCons f fd) := by
  refine PA.imp (pa_cons ha hr hs) fun σ H Q ⟨B, tm, env, F, r, h⟩ => ?_
  refine ⟨B, tm, env, F, r, (RQ.bind h).imp fun o env1 h1 v F1 H1 s1 r1 o1 => ?_⟩
  cases e1 : share o env1 with
  | bad => rw [e1] at h1; exact h1.elim
  | exc c env2 => exact absurd e1 share_no_exc
  | ok d env2 =>
    rw [e1, bind_ok] at h1
    obtain ⟨F2, s2, r2, k2⟩ := r1.share o1 e1
    refine ⟨B, tm, env2, F2, r2, (RQ.bind h1).imp fun ds env3 h3 vs F3 H3 s3 r3 k3 => ?_⟩
    exact h3 (v :: vs) F3 H3 (s1.trans (s2.trans s3)) r3 (.cons (At.mono s3 k2) k3)
theorem line_eq : lineN = sizeLine := by rw [sizeLine_eq]; rfl
theorem de_tup {k : Nat} (h : DD X W es fd) : DE X W (.Tuple es k pos) (eTup fd) := by
  refine PE.imp (pe_tup h) fun σ H Q ⟨B, tm, env, F, r, h⟩ => ?_
  refine ⟨B, tm, env, F, r, (RQ.bind h).imp fun ds env1 h1 vs F1 H1 s1 r1 k1 => ?_⟩
  by_cases hl : ds.length ≤ lineN
  · rw [if_pos hl] at h1
    refine ⟨by rw [k1.length, ← line_eq]; exact hl, fun p hp => ?_⟩
    have f0 := (r1.fresh hp).1
    exact h1 (.ref p) (upd F1 p (.tup vs)) _ (s1.trans (same_upd f0)) (r1.grow hp) (.tup upd_same (AtAll.mono (same_upd f0) k1))
  · rw [if_neg hl] at h1; exact h1.elim
theorem de_lst (h : DD X W es fd) : DE X W (.List es pos) (eLst fd) := by
  refine PE.imp (pe_lst h) fun σ H Q ⟨B, tm, env, F, r, h⟩ => ?_
  refine ⟨B, tm, env, F, r, (RQ.bind h).imp fun ds env1 h1 vs F1 H1 s1 r1 k1 => ?_⟩
  by_cases hl : ds.length ≤ lineN
  · rw [if_pos hl] at h1
    refine ⟨by rw [k1.length, ← line_eq]; exact hl, fun p hp => ?_⟩
    exact h1 (.ref p) F1 _ s1 (r1.newObj hp) (r1.newFr hp (.ls k1))
  · rw [if_neg hl] at h1; exact h1.elim
theorem de_dnewK : DE X W (.Dict [] [] pos) eDk := by
  refine PE.imp pe_dnewK fun σ H Q ⟨B, tm, env, F, r, h⟩ p hp => ?_
  exact h (.ref p) F _ (Same.refl _) (r.newObj hp) (r.newFr hp (.dk rfl .nil))
theorem de_dnewT : DE X W (.Dict [] [] pos) eDt := by
  refine PE.imp pe_dnewT fun σ H Q ⟨B, tm, env, F, r, h⟩ p hp => ?_
  exact h (.ref p) F _ (Same.refl _) (r.newObj hp) (r.newFr hp (.dt rfl .nil))

/-! ### operations by values -/
def OutQ (K : PySem.W.Frag) (F H : Hp) (o : Out) (Q : VK) : Prop :=
  match o with
  | .va d => ∀ v, At K F v d → Q v H
  | .nt ds => ∀ p vs, H p = none → AtAll K F vs ds → Q (.ref p) (upd H p (.tup vs))
  | .nl ds => ∀ p vs, H p = none → AtAll K F vs ds → Q (.ref p) (upd H p (.lst vs))
def rG (K : PySem.W.Frag) (g : D → D → Option Out) : R2 := fun x y H Q => ∃ F d e o, Same F H ∧ Cn K F H x d ∧ Cn K F H y e ∧ g d e = some o ∧ OutQ K F H o Q
def rG1 (K : PySem.W.Frag) (g : D → Option Out) : V → Hp → VK → Prop := fun x H Q => ∃ F d o, Same F H ∧ Cn K F H x d ∧ g d = some o ∧ OutQ K F H o Q
theorem outQ_of {B : Base} {tm : List (Addr × HO)} {env : DEnv} {σ : L2.St} {F H : Hp} {Q : VK} {o : Option Out} (r : Rep X.K B tm env σ F H)
    (h : RQ X W B tm σ (fun o env' => ∀ v F' H', Same F F' → Rep X.K B tm env' σ F' H' → OpdAt X.K B tm env' σ F' H' o v → Q v H') (outR o env)) : ∃ u, o = some u ∧ OutQ X.K F H u Q := by
  cases o with
  | none => exact h.elim
  | some u =>
    refine ⟨u, rfl, ?_⟩
    cases u with
    | va d => exact fun v k => h v F H (Same.refl _) r k
    | nt ds =>
      intro p vs hp k
      have f0 := (r.fresh hp).1
      exact h (.ref p) (upd F p (.tup vs)) _ (same_upd f0) (r.grow hp) (.tup upd_same (AtAll.mono (same_upd f0) k))
    | nl ds =>
      intro p vs hp k
      exact h (.ref p) F _ (Same.refl _) (r.newObj hp) (r.newFr hp (.ls k))
theorem bin_in {g : D → D → Option Out} {σ : L2.St} {H : Hp} {Q : VK} (h : tE X W (eBin g fa fb) σ H Q) : tOp (rG X.K g) (tE X W fa) (tE X W fb) σ H Q := by
  obtain ⟨B, tm, env, F, r, h⟩ := h
  refine ⟨B, tm, env, F, r, (RQ.bind h).imp fun o1 env1 h1 v F1 H1 s1 r1 k1 => ?_⟩
  obtain ⟨F1', s1', r1', k1'⟩ := r1.keepO k1
  refine ⟨B, tm, env1, F1', r1', (RQ.bind h1).imp fun o2 env2 h2 u F2 H2 s2 r2 k2 => ?_⟩
  obtain ⟨F2', s2', r2', k2'⟩ := r2.keepO k2
  cases e1 : rd o1 env2 with
  | none => rw [e1] at h2; exact h2.elim
  | some d1 =>
    cases e2 : rd o2 env2 with
    | none => rw [e1, e2] at h2; exact h2.elim
    | some d2 =>
      rw [e1, e2] at h2
      obtain ⟨o, ho, q⟩ := outQ_of (Q := Q) (F := F2') r2' (h2.imp fun a en h v F' H' s => h v F' H' (s1.trans (s1'.trans (s2.trans (s2'.trans s)))))
      exact ⟨F2', d1, d2, o, r2'.sub, r2'.rdK (k1'.mono (s2.trans s2')) e1, r2'.rdK k2' e2, ho, q⟩
theorem de_op {op : Operator} {g : D → D → Option Out} (ho : OpR X (binaryOp op) (rG X.K g)) (ha : DE X W a fa) (hb : DE X W b fb) : DE X W (.BinOp a op b pos) (eBin g fa fb) :=
  PE.imp (pe_op ho ha hb) fun _ _ _ h => bin_in h
theorem de_cmp {op : CmpOp} {g : D → D → Option Out} (ho : OpR X (compareOp op) (rG X.K g)) (ha : DE X W a fa) (hb : DE X W b fb) (hm : behindInMarks op b = false := by first | exact nomark _ | rfl) : DE X W (.Compare a [op] [b] pos) (eBin g fa fb) :=
  PE.imp (pe_cmpR ho ha hb hm) fun _ _ _ h => bin_in h
theorem un_in {g : D → Option Out} {σ : L2.St} {H : Hp} {Q : VK} (h : tE X W (eUn g fa) σ H Q) : tUn (rG1 X.K g) (tE X W fa) σ H Q := by
  obtain ⟨B, tm, env, F, r, h⟩ := h
  refine ⟨B, tm, env, F, r, (RQ.bind h).imp fun o1 env1 h1 v F1 H1 s1 r1 k1 => ?_⟩
  obtain ⟨F1', s1', r1', k1'⟩ := r1.keepO k1
  cases e1 : rd o1 env1 with
  | none => rw [e1] at h1; exact h1.elim
  | some d1 =>
    rw [e1] at h1
    obtain ⟨o, ho, q⟩ := outQ_of (Q := Q) (F := F1') r1' (h1.imp fun a en h v F' H' s => h v F' H' (s1.trans (s1'.trans s)))
    exact ⟨F1', d1, o, r1'.sub, r1'.rdK k1' e1, ho, q⟩
theorem de_un {op : UnaryOp} {g : D → Option Out} (ho : UnR X (unaryOp op) (rG1 X.K g)) (ha : DE X W a fa) : DE X W (.UnaryOp op a pos) (eUn g fa) :=
  PE.imp (pe_un ho ha) fun _ _ _ h => un_in h

/-! ### tests -/
/-- a value that is True or False -/
theorem val_in {σ : L2.St} {H : Hp} {Q : Bool → Hp → Prop} (h : tT X W (tE1 fa) σ H Q) : tE X W fa σ H (fun x H1 => ∃ k, x = .bl k ∧ Q k H1) := by
  obtain ⟨B, tm, env, F, r, h⟩ := h
  refine ⟨B, tm, env, F, r, (RQ.bind h).imp fun o1 env1 h1 v F1 H1 s1 r1 k1 => ?_⟩
  obtain ⟨F1', s1', r1', k1'⟩ := r1.keepO k1
  cases e1 : rd o1 env1 with
  | none => rw [e1] at h1; exact h1.elim
  | some d1 =>
    rw [e1] at h1
    have k := r1'.rdK k1' e1
    cases d1 with
    | bool b => exact ⟨b, k.bl, h1 F1' H1 (s1.trans s1') r1'⟩
    | _ => exact h1.elim
theorem dt_val (h : DE X W a fa) (he : ∀ whole, isTrue a X.env whole = (do let v ← whole; standAt a.pos; holding [v] (truthy v)) := by intro _; rfl) : DT X W a (tE1 fa) :=
  PT.imp (pt_val h he) fun _ _ _ h => val_in h
theorem dt_cmp {op : CmpOp} {g : D → D → Option Out} (ho : OpR X (compareOp op) (rG X.K g)) (ha : DE X W a fa) (hb : DE X W b fb) (hm : behindInMarks op b = false := by first | exact nomark _ | rfl) : DT X W (.Compare a [op] [b] pos) (tE1 (eBin g fa fb)) :=
  PT.imp (pt_cmpR ho ha hb hm) fun _ _ _ h => bin_in (val_in h)
theorem dt_not (ha : DT X W a ta) : DT X W (.UnaryOp .Not a pos) (tNot ta) :=
  PT.imp (pt_not ha) fun σ H Q ⟨B, tm, env, F, r, h⟩ => ⟨B, tm, env, F, r, (RQ.bind h).imp fun _ _ h1 F1 H1 s1 r1 => h1 F1 H1 s1 r1⟩
theorem dw_and1 (ha : DT X W a ta) : DW X W (.BoolOp .And [a] pos) ta := pw_and1 ha
theorem dw_or1 (ha : DT X W a ta) : DW X W (.BoolOp .Or [a] pos) ta := pw_or1 ha
theorem dw_and {rest : List Expr} (ha : DT X W a ta) (hb : DW X W (.BoolOp .And (b :: rest) pos) tb) : DW X W (.BoolOp .And (a :: b :: rest) pos) (tAnd ta tb) := by
  refine PW.imp (pw_and ha hb) fun σ H Q ⟨B, tm, env, F, r, h⟩ => ⟨B, tm, env, F, r, (RQ.bind h).imp fun x env1 h1 F1 H1 s1 r1 => ?_⟩
  cases x with
  | true => exact ⟨B, tm, env1, F1, r1, h1.imp fun _ _ h2 F2 H2 s2 r2 => h2 F2 H2 (s1.trans s2) r2⟩
  | false => exact h1 F1 H1 s1 r1
theorem dw_or {rest : List Expr} (ha : DT X W a ta) (hb : DW X W (.BoolOp .Or (b :: rest) pos) tb) : DW X W (.BoolOp .Or (a :: b :: rest) pos) (tOr ta tb) := by
  refine PW.imp (pw_or ha hb) fun σ H Q ⟨B, tm, env, F, r, h⟩ => ⟨B, tm, env, F, r, (RQ.bind h).imp fun x env1 h1 F1 H1 s1 r1 => ?_⟩
  cases x with
  | true => exact h1 F1 H1 s1 r1
  | false => exact ⟨B, tm, env1, F1, r1, h1.imp fun _ _ h2 F2 H2 s2 r2 => h2 F2 H2 (s1.trans s2) r2⟩
theorem dt_of (h : DW X W a ta) : DT X W a ta := h.pt
theorem de_if {t : Expr} (ht : DT X W t ta) (ha : DE X W a fa) (hb : DE X W b fb) : DE X W (.IfExp t a b pos) (eIf ta fa fb) := by
  refine PE.imp (pe_ifExp ht ha hb) fun σ H Q ⟨B, tm, env, F, r, h⟩ => ⟨B, tm, env, F, r, (RQ.bind h).imp fun x env1 h1 F1 H1 s1 r1 => ?_⟩
  cases x with
  | true => exact ⟨B, tm, env1, F1, r1, h1.imp fun _ _ h2 v F2 H2 s2 r2 => h2 v F2 H2 (s1.trans s2) r2⟩
  | false => exact ⟨B, tm, env1, F1, r1, h1.imp fun _ _ h2 v F2 H2 s2 r2 => h2 v F2 H2 (s1.trans s2) r2⟩
/-- truth of any data -/
theorem tru_in {σ : L2.St} {H : Hp} {Q : Bool → Hp → Prop} {g : D → Bool} (h : tT X W (fun env => (fa env).bind fun o env1 => match rd o env1 with
      | some d => R.ok (g d) env1
      | none => .bad) σ H Q) : tE X W fa σ H (fun x H1 => ∃ d, At X.K H1 x d ∧ Q (g d) H1) := by
  obtain ⟨B, tm, env, F, r, h⟩ := h
  refine ⟨B, tm, env, F, r, (RQ.bind h).imp fun o1 env1 h1 v F1 H1 s1 r1 k1 => ?_⟩
  obtain ⟨F1', s1', r1', k1'⟩ := r1.keepO k1
  cases e1 : rd o1 env1 with
  | none => rw [e1] at h1; exact h1.elim
  | some d1 =>
    rw [e1] at h1
    exact ⟨d1, (r1'.rdK k1' e1).at r1'.sub, h1 F1' H1 (s1.trans s1') r1'⟩
end
end Z

set_option Elab.async false
set_option linter.all false
set_option maxRecDepth 100000
set_option maxHeartbeats 4000000
/-! Z3: statements, targets. -/
namespace Z
open PySem PySem.Spec L2
section
variable {K : PySem.W.Frag} {B : Base} {tm tm' : List (Addr × HO)} {env env' : DEnv} {σ : L2.St} {F H : Hp}
theorem Rep.perm (r : Rep K B tm env σ F H) (p : tm.Perm tm') : Rep K B tm' env σ F H :=
  ⟨r.sub, r.keep, r.old, r.big, r.len, r.sh, r.ow, r.le, r.lei, r.hd, r.hdi, fun q hq => r.tmk q (p.mem_iff.mpr hq), (p.map _).nodup_iff.mp r.tmd, fun q hq => r.tmo q (p.mem_iff.mpr hq), r.one⟩
theorem Rep.drop {q : Addr × HO} (r : Rep K B (q :: tm) env σ F H) : Rep K B tm env σ F H :=
  ⟨r.sub, r.keep, r.old, r.big, r.len, r.sh, r.ow, r.le, r.lei, r.hd, r.hdi, fun p hp => r.tmk p (List.mem_cons_of_mem _ hp), (List.nodup_cons.mp r.tmd).2, fun p hp => r.tmo p (List.mem_cons_of_mem _ hp), r.one⟩
/-- a new object is kept aside -/
theorem Rep.push {v : V} {c : Ow} (r : Rep K B tm env σ F H) (h : OpdAt K B tm env σ F H (.fr c) v) : ∃ a o, v = .ref a ∧ OwAt K F o c ∧ Rep K B ((a, o) :: tm) env σ F H := by
  obtain ⟨a, o, rfl, ha, hc, fa, h0, ht, hn⟩ := h
  refine ⟨a, o, rfl, hc, r.sub, r.keep, r.old, r.big, r.len, r.sh, r.ow, r.le, r.lei, r.hd, r.hdi, fun p hp => ?_, ?_, fun p hp => ?_, r.one⟩
  · rcases List.mem_cons.mp hp with rfl | hp
    · exact ⟨ha, fa, h0⟩
    · exact r.tmk p hp
  · refine List.nodup_cons.mpr ⟨fun hm => ?_, r.tmd⟩
    obtain ⟨p, hp, e⟩ := List.mem_map.mp hm
    exact ht p hp e
  · rcases List.mem_cons.mp hp with rfl | hp
    · exact hn
    · exact r.tmo p hp
theorem Rep.pop {a : Addr} {o : HO} {c : Ow} (r : Rep K B ((a, o) :: tm) env σ F H) (hc : OwAt K F o c) : OpdAt K B tm env σ F H (.fr c) (.ref a) := by
  obtain ⟨h1, h2, h3⟩ := r.tmk (a, o) List.mem_cons_self
  refine ⟨a, o, rfl, h1, hc, h2, h3, fun p hp e => ?_, fun i c' q => r.tmo (a, o) List.mem_cons_self i c' q⟩
  exact (List.nodup_cons.mp r.tmd).1 (List.mem_map.mpr ⟨p, hp, e⟩)
theorem anyAt_set {i j : Nat} {s : Slot} {c : Ow} (hi : i < env.length) (h : anyAt (env.set i (some s)) j = some c) : (i = j ∧ s.any? = some c) ∨ (i ≠ j ∧ anyAt env j = some c) := by
  unfold anyAt at h ⊢
  rw [slotAt_set hi] at h
  by_cases e : i = j
  · rw [if_pos e] at h; exact .inl ⟨e, h⟩
  · rw [if_neg e] at h; exact .inr ⟨e, h⟩
/-- a name is given data -/
theorem Rep.setSh {i : Nat} {v : V} {d : D} (r : Rep K B tm env σ F H) (hi : i < env.length) (hl : ∀ c, slotAt env i ≠ some (.le c)) (hh : ∀ c, slotAt env i ≠ some (.hd c)) (k : At K F v d) : Rep K B tm (env.set i (some (.sh d))) (σ.set i (some v)) F H := by
  have hσ : i < σ.length := by rw [← r.len]; exact hi
  have ow : ∀ {j : Nat} {c : Ow}, anyAt (env.set i (some (.sh d))) j = some c → i ≠ j ∧ anyAt env j = some c := fun {j c} h => (anyAt_set hi h).elim (fun ⟨_, z⟩ => by cases z) id
  refine ⟨r.sub, r.keep, r.old, r.big, by rw [List.length_set, List.length_set]; exact r.len, fun j d' q => ?_, fun j c q => ?_, fun j a q => ?_, fun j c q => ?_, fun j a q => ?_, fun j c q => ?_, r.tmk, r.tmd, fun p hp j c q => ?_, fun j k a c c' q1 q2 q3 q4 => ?_⟩
  · rw [slotAt_set hi] at q
    by_cases e : i = j
    · subst e; rw [if_pos rfl] at q; cases q; exact ⟨v, List.getElem?_set_self hσ, k⟩
    · rw [if_neg e] at q; rw [List.getElem?_set_ne e]; exact r.sh j d' q
  · rw [slotAt_set hi] at q
    by_cases e : i = j
    · rw [if_pos e] at q; cases q
    · rw [if_neg e] at q; rw [List.getElem?_set_ne e]; exact r.ow j c q
  · obtain ⟨c, o, h1, h2⟩ := r.le j a q
    have e : i ≠ j := fun e => hl c (e ▸ h1)
    rw [slotAt_set hi, if_neg e, List.getElem?_set_ne e]; exact ⟨c, o, h1, h2⟩
  · rw [slotAt_set hi] at q
    by_cases e : i = j
    · rw [if_pos e] at q; cases q
    · rw [if_neg e] at q; exact r.lei j c q
  · obtain ⟨c, o, h1, h2⟩ := r.hd j a q
    have e : i ≠ j := fun e => hh c (e ▸ h1)
    rw [slotAt_set hi, if_neg e, List.getElem?_set_ne e]; exact ⟨c, o, h1, h2⟩
  · rw [slotAt_set hi] at q
    by_cases e : i = j
    · rw [if_pos e] at q; cases q
    · rw [if_neg e] at q; exact r.hdi j c q
  · obtain ⟨e, q⟩ := ow q
    rw [List.getElem?_set_ne e]; exact r.tmo p hp j c q
  · obtain ⟨e1, q1⟩ := ow q1
    obtain ⟨e2, q2⟩ := ow q2
    rw [List.getElem?_set_ne e1] at q3
    rw [List.getElem?_set_ne e2] at q4
    exact r.one j k a c c' q1 q2 q3 q4
/-- a name is given a new object -/
theorem Rep.setOw {i : Nat} {v : V} {c : Ow} (r : Rep K B tm env σ F H) (hi : i < env.length) (hl : ∀ c, slotAt env i ≠ some (.le c)) (hh : ∀ c, slotAt env i ≠ some (.hd c)) (k : OpdAt K B tm env σ F H (.fr c) v) : Rep K B tm (env.set i (some (.ow c))) (σ.set i (some v)) F H := by
  have hσ : i < σ.length := by rw [← r.len]; exact hi
  obtain ⟨a, o, rfl, ha, hc, fa, h0, ht, hn⟩ := k
  refine ⟨r.sub, r.keep, r.old, r.big, by rw [List.length_set, List.length_set]; exact r.len, fun j d' q => ?_, fun j c' q => ?_, fun j b q => ?_, fun j c' q => ?_, fun j b q => ?_, fun j c' q => ?_, r.tmk, r.tmd, fun p hp j c' q => ?_, fun j k b c1 c2 q1 q2 q3 q4 => ?_⟩
  · rw [slotAt_set hi] at q
    by_cases e : i = j
    · rw [if_pos e] at q; cases q
    · rw [if_neg e] at q; rw [List.getElem?_set_ne e]; exact r.sh j d' q
  · rw [slotAt_set hi] at q
    by_cases e : i = j
    · subst e; rw [if_pos rfl] at q; cases q; exact ⟨a, o, List.getElem?_set_self hσ, ha, hc, fa, h0⟩
    · rw [if_neg e] at q; rw [List.getElem?_set_ne e]; exact r.ow j c' q
  · obtain ⟨c', o', h1, h2⟩ := r.le j b q
    have e : i ≠ j := fun e => hl c' (e ▸ h1)
    rw [slotAt_set hi, if_neg e, List.getElem?_set_ne e]; exact ⟨c', o', h1, h2⟩
  · rw [slotAt_set hi] at q
    by_cases e : i = j
    · rw [if_pos e] at q; cases q
    · rw [if_neg e] at q; exact r.lei j c' q
  · obtain ⟨c', o', h1, h2⟩ := r.hd j b q
    have e : i ≠ j := fun e => hh c' (e ▸ h1)
    rw [slotAt_set hi, if_neg e, List.getElem?_set_ne e]; exact ⟨c', o', h1, h2⟩
  · rw [slotAt_set hi] at q
    by_cases e : i = j
    · rw [if_pos e] at q; cases q
    · rw [if_neg e] at q; exact r.hdi j c' q
  · rcases anyAt_set hi q with ⟨e, _⟩ | ⟨e, q⟩
    · subst e; rw [List.getElem?_set_self hσ]
      intro z; simp only [Option.some.injEq, V.ref.injEq] at z
      exact ht p hp z.symm
    · rw [List.getElem?_set_ne e]; exact r.tmo p hp j c' q
  · rcases anyAt_set hi q1 with ⟨e1, _⟩ | ⟨e1, q1⟩
    · rcases anyAt_set hi q2 with ⟨e2, _⟩ | ⟨e2, q2⟩
      · exact e1.symm.trans e2
      · subst e1
        rw [List.getElem?_set_self hσ] at q3
        rw [List.getElem?_set_ne e2] at q4
        cases q3
        exact absurd q4 (hn k c2 q2)
    · rcases anyAt_set hi q2 with ⟨e2, _⟩ | ⟨e2, q2⟩
      · subst e2
        rw [List.getElem?_set_self hσ] at q4
        rw [List.getElem?_set_ne e1] at q3
        cases q4
        exact absurd q3 (hn j c1 q1)
      · rw [List.getElem?_set_ne e1] at q3
        rw [List.getElem?_set_ne e2] at q4
        exact r.one j k b c1 c2 q1 q2 q3 q4
theorem put_some {i : Nat} {s : Slot} {e : DEnv} (h : put env i s = some e) : i < env.length ∧ (∀ c, slotAt env i ≠ some (.le c)) ∧ (∀ c, slotAt env i ≠ some (.hd c)) ∧ e = env.set i (some s) := by
  unfold put at h
  split at h
  · cases h
  · cases h
  · rename_i hn hn'
    split at h
    · rename_i hi
      cases h
      exact ⟨hi, fun c q => hn c q, fun c q => hn' c q, rfl⟩
    · cases h
theorem Rep.stO {i : Nat} {o : Opd} {v : V} {f : Fl} (r : Rep K B tm env σ F H) (h : OpdAt K B tm env σ F H o v) (e : stO o i env = .ok f env') : f = .nx ∧ ∃ F', Same F F' ∧ Rep K B tm env' (σ.set i (some v)) F' H := by
  cases o with
  | va d =>
    simp only [Z.stO] at e
    split at e
    · rename_i e' hp
      cases e
      obtain ⟨h1, h2, h3, rfl⟩ := put_some hp
      exact ⟨rfl, F, Same.refl _, r.setSh h1 h2 h3 h⟩
    · cases e
  | fr c =>
    simp only [Z.stO] at e
    split at e
    · rename_i e' hp
      cases e
      obtain ⟨h1, h2, h3, rfl⟩ := put_some hp
      exact ⟨rfl, F, Same.refl _, r.setOw h1 h2 h3 h⟩
    · cases e
  | sl j =>
    simp only [Z.stO] at e
    cases e1 : Z.share (.sl j) env with
    | bad => rw [e1] at e; cases e
    | exc c en => exact absurd e1 share_no_exc
    | ok d env1 =>
      rw [e1, bind_ok] at e
      obtain ⟨F', s', r', k⟩ := r.share h e1
      split at e
      · rename_i e' hp
        cases e
        obtain ⟨h1, h2, h3, rfl⟩ := put_some hp
        exact ⟨rfl, F', s', r'.setSh h1 h2 h3 k⟩
      · cases e
theorem stO_no_exc {o : Opd} {i : Nat} {c : Str} : stO o i env ≠ .exc c env' := by
  cases o with
  | va d => simp only [Z.stO]; split <;> simp
  | fr c => simp only [Z.stO]; split <;> simp
  | sl j =>
    simp only [Z.stO]
    cases e1 : Z.share (.sl j) env with
    | bad => simp
    | exc c en => exact absurd e1 share_no_exc
    | ok d env1 => simp only [bind_ok]; split <;> simp
end

/-! ### statements -/
def FlQ (K : PySem.W.Frag) (B : Base) (tm : List (Addr × HO)) (env : DEnv) (D : Ends) (f : Fl) (σ : L2.St) (F H : Hp) : Prop :=
  match f with
  | .nx => D.nx σ H
  | .rt o => ∀ v, OpdAt K B tm env σ F H o v → D.rt v H
  | .bk => D.bk σ H
  | .ct => D.ct σ H
def RS (X : Cx) (W : WX) (B : Base) (tm : List (Addr × HO)) (F : Hp) (D : Ends) (r : R Fl) : Prop :=
  match r with
  | .ok f env => ∀ σ F' H, Same F F' → Rep X.K B tm env σ F' H → FlQ X.K B tm env D f σ F' H
  | .exc c env => ∀ σ F' H, Rep X.K B tm env σ F' H → ∀ C, X.mg c = some (.ref C) → W (.ref C) none σ H
  | .bad => False
def tS (X : Cx) (W : WX) (f : S) : TS := fun D σ H => ∃ B tm env F, Rep X.K B tm env σ F H ∧ RS X W B tm F D (f env)
abbrev DS (X : Cx) (W : WX) (st : Stmt) (f : S) : Prop := PS X st (tS X W f)
abbrev DSs (X : Cx) (W : WX) (st : List Stmt) (f : S) : Prop := PSs X st (tS X W f)
section
variable {X : Cx} {W : WX} {B : Base} {tm : List (Addr × HO)} {σ : L2.St} {F F' H : Hp} {D : Ends}
theorem RS.of {α : Type} {m : R α} {k : α → DEnv → R Fl} (h : RS X W B tm F D (m.bind k)) : RQ X W B tm σ (fun a env => RS X W B tm F D (k a env)) m := by
  cases m with
  | ok a env => exact h
  | exc c env => exact fun F' H r => h σ F' H r
  | bad => exact h
theorem RS.up {r : R Fl} (s : Same F F') (h : RS X W B tm F D r) : RS X W B tm F' D r := by
  cases r with
  | ok f env => exact fun σ F2 H s2 r => h σ F2 H (s.trans s2) r
  | exc c env => exact h
  | bad => exact h
variable {st : Stmt} {rest : List Stmt} {e : Expr} {f g : S} {fe : E} {ft : T} {pos : Pos}
theorem dss_nil : DSs X W [] sNil := PSs.imp pss_nil fun D σ H ⟨B, tm, env, F, r, h⟩ => h σ F H (Same.refl _) r
theorem RS.seq (h : RS X W B tm F D (sSeq f g env)) : RS X W B tm F { D with nx := tS X W g D } (f env) := by
  simp only [sSeq] at h
  cases e1 : f env with
  | bad => rw [e1] at h; exact h
  | exc c en => rw [e1] at h; exact h
  | ok fl en =>
    rw [e1, bind_ok] at h
    cases fl with
    | nx => exact fun σ F2 H s2 r2 => ⟨B, tm, en, F2, r2, RS.up s2 h⟩
    | rt o => exact h
    | bk => exact h
    | ct => exact h
theorem dss_cons (h1 : DS X W st f) (h2 : DSs X W rest g) : DSs X W (st :: rest) (sSeq f g) :=
  PSs.imp (pss_cons h1 h2) fun D σ H ⟨B, tm, env, F, r, h⟩ => ⟨B, tm, env, F, r, h.seq⟩
theorem dss_one (h1 : DS X W st f) : DSs X W [st] f := pss_one h1
theorem ds_expr (he : DE X W e fe) (hs : swapsWith e none pos.line X.env = pure false := by rfl) : DS X W (.Expr e pos) (sExpr fe) := by
  refine PS.imp (ps_expr he hs) fun D σ H ⟨B, tm, env, F, r, h⟩ => ⟨B, tm, env, F, r, (RS.of h).imp fun o env1 h1 v F1 H1 s1 r1 _ => ?_⟩
  exact h1 σ F1 H1 s1 r1
theorem ds_doc {x : Str} {j : Nat} {pos' : Pos} : DS X W (.Expr (.Constant (.str x) j pos) pos') sNil := PS.imp ps_doc fun D σ H ⟨B, tm, env, F, r, h⟩ => h σ F H (Same.refl _) r
theorem ds_pass : DS X W (.Pass pos) sNil := PS.imp ps_pass fun D σ H ⟨B, tm, env, F, r, h⟩ => h σ F H (Same.refl _) r
theorem ds_break : DS X W (.Break pos) sBreak := PS.imp ps_break fun D σ H ⟨B, tm, env, F, r, h⟩ => h σ F H (Same.refl _) r
theorem ds_continue : DS X W (.Continue pos) sCont := PS.imp ps_continue fun D σ H ⟨B, tm, env, F, r, h⟩ => h σ F H (Same.refl _) r
theorem ds_ret (he : DE X W e fe) : DS X W (.Return (some e) pos) (sRet fe) :=
  PS.imp (ps_ret he) fun D σ H ⟨B, tm, env, F, r, h⟩ => ⟨B, tm, env, F, r, (RS.of h).imp fun o env1 h1 v F1 H1 s1 r1 k => h1 σ F1 H1 s1 r1 v k⟩
theorem ds_retN : DS X W (.Return none pos) sRetN := PS.imp ps_retN fun D σ H ⟨B, tm, env, F, r, h⟩ => h σ F H (Same.refl _) r .non .non
theorem ds_if {a b : List Stmt} (ht : DT X W e ft) (ha : DSs X W a f) (hb : DSs X W b g) : DS X W (.If e a b pos) (sIf ft f g) := by
  refine PS.imp (ps_if ht ha hb) fun D σ H ⟨B, tm, env, F, r, h⟩ => ⟨B, tm, env, F, r, (RS.of h).imp fun x env1 h1 F1 H1 s1 r1 => ?_⟩
  cases x with
  | true => exact ⟨B, tm, env1, F1, r1, RS.up s1 h1⟩
  | false => exact ⟨B, tm, env1, F1, r1, RS.up s1 h1⟩
theorem ds_never : DS X W st (fun _ => .bad) := PS.imp ps_never fun _ _ _ ⟨_, _, _, _, _, h⟩ => h
/-- what follows a value that is stored -/
theorem set_in {i : Nat} (h : tS X W (sSet i fe) D σ H) : tAsg (tE X W fe) (L2.gName i) D σ H := by
  obtain ⟨B, tm, env, F, r, h⟩ := h
  refine ⟨B, tm, env, F, r, (RS.of h).imp fun o env1 h1 v F1 H1 s1 r1 k1 => ?_⟩
  cases e1 : stO o i env1 with
  | bad => rw [e1] at h1; exact h1.elim
  | exc c en => exact absurd e1 stO_no_exc
  | ok f env2 =>
    rw [e1] at h1
    obtain ⟨rfl, F2, s2, r2⟩ := r1.stO k1 e1
    exact h1 _ F2 H1 (s1.trans s2) r2
theorem ds_set (i : Nat) {x : Str} {pos' : Pos} (hN : X.N.Nodup) (he : DE X W e fe) (hi : X.N[i]? = some x := by rfl) (hx : Loc X.env.scope x := by first | exact Or.inl rfl | exact Or.inr rfl) (hs : swapsWith e (some (.Name x pos')) pos.line X.env = pure false := by rfl)
    (hf : X.fn x = true ∨ X.env.scope.names.lookup x = some .local := by first | exact .inl rfl | exact .inr rfl | assumption) : DS X W (.Assign [.Name x pos'] e pos) (sSet i fe) :=
  PS.imp (ps_set hN hi hx he hs hf) fun _ _ _ h => set_in h
/-- x op= e -/
def ipG (K : PySem.W.Frag) (g : Z.D → Z.D → Option Z.D) : TIp := fun x y H Q => ∃ F d e r, Same F H ∧ Cn K F H x d ∧ Cn K F H y e ∧ g d e = some r ∧ ∀ v, At K F v r → Q v H
theorem ds_aug (i : Nat) {x : Str} {op : Operator} {g : Z.D → Z.D → Option Z.D} {pos' : Pos} (hN : X.N.Nodup) (ho : PIp X op (ipG X.K g)) (he : DE X W e fe) (hi : X.N[i]? = some x := by rfl) (hx : Loc X.env.scope x := by first | exact Or.inl rfl | exact Or.inr rfl)
    (hf : X.fn x = true ∨ X.env.scope.names.lookup x = some .local := by first | exact .inl rfl | exact .inr rfl | assumption) : DS X W (.AugAssign (.Name x pos') op e pos) (sAug i g fe) := by
  refine PS.imp (ps_aug hN hi hx he ho hf) fun D σ H ⟨B, tm, env, F, r, h⟩ => ?_
  simp only [sAug] at h
  split at h
  · rename_i d1 hs
    obtain ⟨v1, h1, k1⟩ := r.sh i d1 hs
    refine ⟨v1, h1, B, tm, env, F, r, (RS.of h).imp fun o env1 h2 v F1 H1 s1 r1 k2 => ?_⟩
    obtain ⟨F2, s2, r2, k2'⟩ := r1.keepO k2
    cases e1 : rd o env1 with
    | none => rw [e1] at h2; exact h2.elim
    | some d2 =>
      rw [e1] at h2
      simp only at h2
      cases e2 : g d1 d2 with
      | none => rw [e2] at h2; exact h2.elim
      | some d =>
        rw [e2] at h2
        simp only at h2
        refine ⟨F2, d1, d2, d, r2.sub, .inl (At.mono (s1.trans s2) k1), r2.rdK k2' e1, e2, fun w kw => ?_⟩
        split at h2
        · rename_i env2 hp
          obtain ⟨q1, q2, q3, rfl⟩ := put_some hp
          exact h2 _ F2 H1 (s1.trans s2) (r2.setSh q1 q2 q3 kw)
        · exact h2.elim
  · exact h.elim

/-! ### targets -/
/-- is: the slots that the target may change -/
def tG (X : Cx) (g : Tg) (is : List Nat) : TG := fun v σ H Q => ∃ B tm env F d env', Rep X.K B tm env σ F H ∧ At X.K F v d ∧ g d env = some env' ∧
  ∀ σ' F' H', Same F F' → Rep X.K B tm env' σ' F' H' → σ'.length = σ.length → (∀ j : Nat, j ∉ is → σ'[j]? = σ[j]?) → Q σ' H'
def tGs (X : Cx) (g : Tgs) (is : List Nat) : TGs := fun vs σ H Q => ∃ B tm env F ds env', Rep X.K B tm env σ F H ∧ AtAll X.K F vs ds ∧ g ds env = some env' ∧
  ∀ σ' F' H', Same F F' → Rep X.K B tm env' σ' F' H' → σ'.length = σ.length → (∀ j : Nat, j ∉ is → σ'[j]? = σ[j]?) → Q σ' H'
abbrev DG (X : Cx) (tg : Expr) (g : Tg) (is : List Nat) : Prop := PG X tg (tG X g is)
abbrev DGs (X : Cx) (tgs : List Expr) (g : Tgs) (is : List Nat) : Prop := PGs X tgs (tGs X g is)
theorem PG.imp {tg : Expr} {t t' : TG} (h : PG X tg t) (hi : ∀ v σ H Q, t' v σ H Q → t v σ H Q) : PG X tg t' := ⟨fun pins s σ H v u Q I r hq => h.run pins s σ H v u Q I r (hi v σ H Q hq)⟩
theorem PGs.imp {tg : List Expr} {t t' : TGs} (h : PGs X tg t) (hi : ∀ v σ H Q, t' v σ H Q → t v σ H Q) : PGs X tg t' := ⟨fun pins s σ H v u Q I r hq => h.run pins s σ H v u Q I r (hi v σ H Q hq)⟩
theorem dg_name (i : Nat) {x : Str} (hN : X.N.Nodup) (hi : X.N[i]? = some x := by rfl) (hx : Loc X.env.scope x := by first | exact Or.inl rfl | exact Or.inr rfl)
    (hf : X.fn x = true ∨ X.env.scope.names.lookup x = some .local := by first | exact .inl rfl | exact .inr rfl | assumption) : DG X (.Name x pos) (Z.gName i) [i] := by
  refine PG.imp (pg_name hN hi hx hf) fun v σ H Q ⟨B, tm, env, F, d, env', r, k, e, q⟩ => ?_
  obtain ⟨h1, h2, h3, rfl⟩ := put_some e
  exact q _ F H (Same.refl _) (r.setSh h1 h2 h3 k) (List.length_set ..) fun j hj => List.getElem?_set_ne (fun z => hj (by simp [z]))
theorem dgs_nil : DGs X [] gsNil [] := by
  refine PGs.imp pgs_nil fun vs σ H Q ⟨B, tm, env, F, ds, env', r, k, e, q⟩ => ?_
  cases k with
  | nil => cases e; exact ⟨rfl, q σ F H (Same.refl _) r rfl fun _ _ => rfl⟩
  | cons _ _ => cases e
theorem dgs_cons {t : Expr} {ts : List Expr} {g : Tg} {gs : Tgs} {is js : List Nat} (h1 : DG X t g is) (h2 : DGs X ts gs js) (hs : (assignEach (t :: ts) X.env).map (·.2) = assign t X.env :: (assignEach ts X.env).map (·.2) := by rfl) : DGs X (t :: ts) (gsCons g gs) (is ++ js) := by
  refine PGs.imp (pgs_cons h1 h2 hs) fun vs σ H Q ⟨B, tm, env, F, ds, env', r, k, e, q⟩ => ?_
  cases k with
  | nil => cases e
  | @cons v vr d dr k0 kr =>
    simp only [gsCons] at e
    cases e1 : g d env with
    | none => rw [e1] at e; cases e
    | some env1 =>
      rw [e1] at e
      refine ⟨v, vr, rfl, B, tm, env, F, d, env1, r, k0, e1, fun σ1 F1 H1 s1 r1 l1 j1 => ?_⟩
      refine ⟨B, tm, env1, F1, dr, env', r1, AtAll.mono s1 kr, e, fun σ2 F2 H2 s2 r2 l2 j2 => q σ2 F2 H2 (s1.trans s2) r2 (l2.trans l1) fun j hj => ?_⟩
      rw [j2 j fun z => hj (List.mem_append_right _ z), j1 j fun z => hj (List.mem_append_left _ z)]
theorem gs_len_nil : ∀ (ds : List Z.D) (env env' : DEnv), gsNil ds env = some env' → ds.length = 0
  | [], _, _, _ => rfl
  | _ :: _, _, _, h => by cases h
theorem gs_len_cons {g : Tg} {gs : Tgs} {n : Nat} (h : ∀ (ds : List Z.D) (env env' : DEnv), gs ds env = some env' → ds.length = n) : ∀ (ds : List Z.D) (env env' : DEnv), gsCons g gs ds env = some env' → ds.length = n + 1
  | [], _, _, z => by cases z
  | d :: ds, env, env', z => by
    simp only [gsCons] at z
    cases e : g d env with
    | none => rw [e] at z; cases z
    | some env1 => rw [e] at z; rw [List.length_cons, h _ _ _ z]
theorem dg_tup {es : List Expr} {k n : Nat} {gs : Tgs} {is : List Nat} (hc : X.calm = true) (h : DGs X es gs is) (hlen : ∀ (ds : List Z.D) (env env' : DEnv), gs ds env = some env' → ds.length = n)
    (hn : (assignEach es X.env).length = n := by rfl) (hst : (assignEach es X.env).findIdx? (·.1) = none := by rfl) : DG X (.Tuple es k pos) (Z.gTup gs) is := by
  refine PG.imp (pg_tup hc h hn hst) fun v σ H Q ⟨B, tm, env, F, d, env', r, k, e, q⟩ => ?_
  cases d with
  | tuple ds =>
    cases k with
    | @tup a xs _ hs ha =>
      refine ⟨a, xs, rfl, SqT.of (r.sub _ _ hs), ?_, B, tm, env, F, ds, env', r, ha, e, q⟩
      rw [ha.length]
      exact hlen _ _ _ e
  | _ => cases e
theorem ds_asg {tg : Expr} {g : Tg} {is : List Nat} (he : DE X W e fe) (hg : DG X tg g is) (hs : swapsWithSole [tg] e pos.line X.env = pure false := by rfl) (hw : swappedStores [tg] e X.env = pure none := by rfl)
    (h1 : (assignEach [tg] X.env).map (·.2) = [assign tg X.env] := by rfl) : DS X W (.Assign [tg] e pos) (sAsg g fe) := by
  refine PS.imp (ps_asg he hg hs hw h1) fun D σ H ⟨B, tm, env, F, r, h⟩ => ⟨B, tm, env, F, r, (RS.of h).imp fun o env1 h1 v F1 H1 s1 r1 k1 => ?_⟩
  cases e1 : share o env1 with
  | bad => rw [e1] at h1; exact h1.elim
  | exc c en => exact absurd e1 share_no_exc
  | ok d env2 =>
    rw [e1, bind_ok] at h1
    obtain ⟨F2, s2, r2, k2⟩ := r1.share k1 e1
    cases e2 : g d env2 with
    | none => rw [e2] at h1; exact h1.elim
    | some env3 =>
      rw [e2] at h1
      exact ⟨B, tm, env2, F2, d, env3, r2, k2, e2, fun σ3 F3 H3 s3 r3 _ _ => h1 σ3 F3 H3 (s1.trans (s2.trans s3)) r3⟩

/-! ### names given at once -/
/-- operands that are kept aside: t their new objects, in order -/
inductive OsAt (K : PySem.W.Frag) (F : Hp) : List (Addr × HO) → List Opd → List V → Prop
  | nil : OsAt K F [] [] []
  | va {t : List (Addr × HO)} {os : List Opd} {vs : List V} {v : V} {d : Z.D} : At K F v d → OsAt K F t os vs → OsAt K F t (.va d :: os) (v :: vs)
  | fr {t : List (Addr × HO)} {os : List Opd} {vs : List V} {a : Addr} {ob : HO} {c : Ow} : OwAt K F ob c → OsAt K F t os vs → OsAt K F ((a, ob) :: t) (.fr c :: os) (.ref a :: vs)
theorem OsAt.mono {K : PySem.W.Frag} {F F' : Hp} (s : Same F F') {t : List (Addr × HO)} {os : List Opd} {vs : List V} (h : OsAt K F t os vs) : OsAt K F' t os vs := by
  induction h with
  | nil => exact .nil
  | va k _ ih => exact .va (At.mono s k) ih
  | fr k _ ih => exact .fr (k.mono s) ih
def tO (X : Cx) (W : WX) (f : Oa) : TA := fun σ H Q => ∃ B tm env F, Rep X.K B tm env σ F H ∧
  RQ X W B tm σ (fun os env' => ∀ vs t F' H', Same F F' → Rep X.K B (t ++ tm) env' σ F' H' → OsAt X.K F' t os vs → Q vs H') (f env)
abbrev DO (X : Cx) (W : WX) (es : List Expr) (f : Oa) : Prop := PA X es (tO X W f)
theorem do_nil : DO X W [] oNil := PA.imp pa_nil fun σ H Q ⟨B, tm, env, F, r, h⟩ => h [] [] F H (Same.refl _) r .nil
theorem RQ.more {α : Type} {q : Addr × HO} {P : α → DEnv → Prop} {m : R α} (h : RQ X W B tm σ P m) : RQ X W B (q :: tm) σ P m := by
  cases m with
  | ok a env => exact h
  | exc c env => exact fun F H r => h F H r.drop
  | bad => exact h
theorem do_cons {es : List Expr} {fd : Oa} (ha : DE X W e fe) (hr : DO X W es fd) (hs : starEach (e :: es) X.env = (false, eval e X.env) :: starEach es X.env := by rfl) : DO X W (e :: es) (oCons fe fd) := by
  refine PA.imp (pa_cons ha hr hs) fun σ H Q ⟨B, tm, env, F, r, h⟩ => ?_
  refine ⟨B, tm, env, F, r, (RQ.bind h).imp fun o env1 h1 v F1 H1 s1 r1 o1 => ?_⟩
  cases o with
  | va d =>
    simp only [unSl, bind_ok] at h1
    refine ⟨B, tm, env1, F1, r1, (RQ.bind h1).imp fun os env3 h3 vs t F3 H3 s3 r3 k3 => ?_⟩
    exact h3 (v :: vs) t F3 H3 (s1.trans s3) r3 (.va (At.mono s3 o1) k3)
  | fr c =>
    obtain ⟨a, ob, rfl, hc, r2⟩ := r1.push o1
    simp only [unSl, bind_ok] at h1
    refine ⟨B, (a, ob) :: tm, env1, F1, r2, (RQ.more (RQ.bind h1)).imp fun os env3 h3 vs t F3 H3 s3 r3 k3 => ?_⟩
    exact h3 (.ref a :: vs) ((a, ob) :: t) F3 H3 (s1.trans s3) (r3.perm (by simpa using List.perm_middle)) (.fr (hc.mono s3) k3)
  | sl i =>
    simp only [unSl] at h1
    cases e1 : Z.share (.sl i) env1 with
    | bad => rw [e1] at h1; exact h1.elim
    | exc c en => exact absurd e1 share_no_exc
    | ok d env2 =>
      rw [e1] at h1
      simp only [bind_ok] at h1
      obtain ⟨F2, s2, r2, k2⟩ := r1.share o1 e1
      refine ⟨B, tm, env2, F2, r2, (RQ.bind h1).imp fun os env3 h3 vs t F3 H3 s3 r3 k3 => ?_⟩
      exact h3 (v :: vs) t F3 H3 (s1.trans (s2.trans s3)) r3 (.va (At.mono s3 k2) k3)
def setAll (σ : L2.St) : List Nat → List V → L2.St
  | i :: is, v :: vs => setAll (σ.set i (some v)) is vs
  | _, _ => σ
theorem Rep.stOs {D : Ends} : ∀ {os : List Opd} {is : List Nat} {vs : List V} {t : List (Addr × HO)} {env : DEnv} {σ : L2.St} {F H : Hp}, Rep X.K B (t ++ tm) env σ F H → OsAt X.K F t os vs → RS X W B tm F D (stOs os is env) → os.length = is.length ∧ D.nx (setAll σ is vs) H
  | [], [], _, _, env, σ, F, H, r, .nil, h => ⟨rfl, h σ F H (Same.refl _) r⟩
  | [], _ :: _, _, _, _, _, _, _, _, _, h => h.elim
  | _ :: _, [], _, _, _, _, _, _, _, _, h => h.elim
  | _ :: os, i :: is, v :: vs, t, env, σ, F, H, r, .va (d := d) k ks, h => by
    rw [Z.stOs_cons] at h
    cases e1 : Z.stO (.va d) i env with
    | bad => rw [e1] at h; exact h.elim
    | exc c en => exact absurd e1 stO_no_exc
    | ok f en =>
      rw [e1, bind_ok] at h
      obtain ⟨_, F2, s2, r2⟩ := r.stO (o := .va d) k e1
      have q := Rep.stOs r2 (ks.mono s2) (RS.up s2 h)
      exact ⟨congrArg Nat.succ q.1, q.2⟩
  | _ :: os, i :: is, _ :: vs, (a, ob) :: t, env, σ, F, H, r, .fr (c := c) k ks, h => by
    rw [Z.stOs_cons] at h
    cases e1 : Z.stO (.fr c) i env with
    | bad => rw [e1] at h; exact h.elim
    | exc c en => exact absurd e1 stO_no_exc
    | ok f en =>
      rw [e1, bind_ok] at h
      obtain ⟨_, F2, s2, r2⟩ := r.drop.stO (r.pop k) e1
      have q := Rep.stOs r2 (ks.mono s2) (RS.up s2 h)
      exact ⟨congrArg Nat.succ q.1, q.2⟩
end
end Z

set_option Elab.async false
set_option linter.all false
set_option maxRecDepth 100000
set_option maxHeartbeats 4000000
/-! Z4: names given at once; loops; comprehensions. -/
namespace Z
open PySem PySem.Spec L2
section
variable {X : Cx} {W : WX} {B : Base} {tm : List (Addr × HO)} {e a b c : Expr} {fe : E} {pos : Pos}
theorem OsAt.len {K : PySem.W.Frag} {F : Hp} {t : List (Addr × HO)} {os : List Opd} {vs : List V} (h : OsAt K F t os vs) : os.length = vs.length := by
  induction h with
  | nil => rfl
  | va _ _ ih => exact congrArg Nat.succ ih
  | fr _ _ ih => exact congrArg Nat.succ ih
theorem ds_par2 (i j : Nat) {x y : Str} {fo : Oa} {px py pt : Pos} {kt k2 : Nat} {pt2 : Pos} (hN : X.N.Nodup) (ha : DO X W [a, b] fo) (hc : X.calm = true := by rfl) (hi : X.N[i]? = some x := by rfl) (hj : X.N[j]? = some y := by rfl) (hij : i ≠ j := by decide)
    (hx : X.env.scope.names.lookup x = some .local := by rfl) (hy : X.env.scope.names.lookup y = some .local := by rfl)
    (hw : swappedStores [.Tuple [.Name x px, .Name y py] kt pt] (.Tuple [a, b] k2 pt2) X.env = pure (some [x, y]) := by rfl)
    (hs : swapsWithSole [.Tuple [.Name x px, .Name y py] kt pt] (.Tuple [a, b] k2 pt2) pos.line X.env = pure false := by rfl) :
    DS X W (.Assign [.Tuple [.Name x px, .Name y py] kt pt] (.Tuple [a, b] k2 pt2) pos) (sPar [i, j] fo) := by
  refine PS.imp (ps_par hc hN hi hj hij hx hy ha hw hs) fun D σ H ⟨B, tm, env, F, r, h⟩ => ⟨B, tm, env, F, r, (RS.of h).imp fun os env1 h1 vs t F1 H1 s1 r1 k1 => ?_⟩
  obtain ⟨hl, q⟩ := Rep.stOs r1 k1 (RS.up s1 h1)
  have hv : vs.length = 2 := by rw [← k1.len, hl]; rfl
  match vs, hv with
  | [v, w], _ => exact ⟨v, w, rfl, q⟩
theorem ds_par3 (i j l : Nat) {x y z : Str} {fo : Oa} {px py pz pt : Pos} {kt k2 : Nat} {pt2 : Pos} (hN : X.N.Nodup) (ha : DO X W [a, b, c] fo) (hc : X.calm = true := by rfl) (hi : X.N[i]? = some x := by rfl) (hj : X.N[j]? = some y := by rfl) (hk : X.N[l]? = some z := by rfl) (hij : i ≠ j := by decide) (hil : i ≠ l := by decide) (hjl : j ≠ l := by decide)
    (hx : X.env.scope.names.lookup x = some .local := by rfl) (hy : X.env.scope.names.lookup y = some .local := by rfl) (hz : X.env.scope.names.lookup z = some .local := by rfl)
    (hw : swappedStores [.Tuple [.Name x px, .Name y py, .Name z pz] kt pt] (.Tuple [a, b, c] k2 pt2) X.env = pure (some [x, y, z]) := by rfl)
    (hs : swapsWithSole [.Tuple [.Name x px, .Name y py, .Name z pz] kt pt] (.Tuple [a, b, c] k2 pt2) pos.line X.env = pure false := by rfl) :
    DS X W (.Assign [.Tuple [.Name x px, .Name y py, .Name z pz] kt pt] (.Tuple [a, b, c] k2 pt2) pos) (sPar [i, j, l] fo) := by
  refine PS.imp (ps_par3 hc hN hi hj hk hij hil hjl hx hy hz ha hw hs) fun D σ H ⟨B, tm, env, F, r, h⟩ => ⟨B, tm, env, F, r, (RS.of h).imp fun os env1 h1 vs t F1 H1 s1 r1 k1 => ?_⟩
  obtain ⟨hl, q⟩ := Rep.stOs r1 k1 (RS.up s1 h1)
  have hv : vs.length = 3 := by rw [← k1.len, hl]; rfl
  match vs, hv with
  | [v, w, u], _ => exact ⟨v, w, u, rfl, q⟩
end

/-! ### a name is held while a loop walks its list -/
def holdB (B : Base) (i : Nat) (a : Addr) : Base := { B with hold := (i, a) :: B.hold }
section
variable {K : PySem.W.Frag} {B B' : Base} {tm : List (Addr × HO)} {env : DEnv} {σ : L2.St} {F H : Hp}
theorem Rep.hold_ {i : Nat} {c : Ow} (r : Rep K B tm env σ F H) (h : slotAt env i = some (.ow c)) : ∃ a, σ[i]? = some (some (.ref a)) ∧ (∀ a', (i, a') ∉ B.hold) ∧ Rep K (holdB B i a) tm (env.set i (some (.hd c))) σ F H := by
  obtain ⟨a, o, hs, ha, hc, fa, h0⟩ := r.ow i c h
  have hi := slotAt_lt h
  have an : ∀ {j : Nat} {c' : Ow}, anyAt (env.set i (some (.hd c))) j = some c' → anyAt env j = some c' := fun {j c'} q => by
    rcases anyAt_set hi q with ⟨z1, z2⟩ | ⟨_, z2⟩
    · subst z1; cases z2; exact any_of_ow h
    · exact z2
  have no : ∀ a', (i, a') ∉ B.hold := fun a' z => by
    obtain ⟨c', o', h1, _⟩ := r.hd i a' z
    rw [h] at h1; cases h1
  refine ⟨a, hs, no, r.sub, r.keep, r.old, r.big, by rw [List.length_set]; exact r.len, fun j d q => ?_, fun j c' q => ?_, fun j b q => ?_, fun j c' q => ?_, fun j b q => ?_, fun j c' q => ?_, r.tmk, r.tmd, fun p hp j c' q => r.tmo p hp j c' (an q), fun j k b c1 c2 q1 q2 => r.one j k b c1 c2 (an q1) (an q2)⟩
  · rw [slotAt_set hi] at q
    by_cases e : i = j
    · rw [if_pos e] at q; cases q
    · rw [if_neg e] at q; exact r.sh j d q
  · rw [slotAt_set hi] at q
    by_cases e : i = j
    · rw [if_pos e] at q; cases q
    · rw [if_neg e] at q; exact r.ow j c' q
  · obtain ⟨c', o', h1, h2⟩ := r.le j b q
    have e : i ≠ j := fun e => by subst e; rw [h] at h1; cases h1
    exact ⟨c', o', by rw [slotAt_set hi, if_neg e]; exact h1, h2⟩
  · rw [slotAt_set hi] at q
    by_cases e : i = j
    · rw [if_pos e] at q; cases q
    · rw [if_neg e] at q; exact r.lei j c' q
  · rcases List.mem_cons.mp q with z | q
    · cases z
      exact ⟨c, o, by rw [slotAt_set hi, if_pos rfl], hs, ha, hc, fa, h0⟩
    · obtain ⟨c', o', h1, h2⟩ := r.hd j b q
      have e : i ≠ j := fun e => by subst e; rw [h] at h1; cases h1
      exact ⟨c', o', by rw [slotAt_set hi, if_neg e]; exact h1, h2⟩
  · rw [slotAt_set hi] at q
    by_cases e : i = j
    · subst e; exact ⟨a, List.mem_cons_self⟩
    · rw [if_neg e] at q
      obtain ⟨b, hb⟩ := r.hdi j c' q
      exact ⟨b, List.mem_cons_of_mem _ hb⟩
theorem give_slot {i : Nat} {c : Ow} (h : slotAt env i = some (.hd c)) : give1 env (some i) = env.set i (some (.ow c)) := by
  rw [give1_some, h]
theorem Rep.unhold {i : Nat} {a : Addr} (no : ∀ a', (i, a') ∉ B.hold) (r : Rep K (holdB B i a) tm env σ F H) : Rep K B tm (give1 env (some i)) σ F H := by
  obtain ⟨c, o, h, hs, ha, hc, fa, h0⟩ := r.hd i a List.mem_cons_self
  have hi := slotAt_lt h
  rw [give_slot h]
  have an : ∀ {j : Nat} {c' : Ow}, anyAt (env.set i (some (.ow c))) j = some c' → anyAt env j = some c' := fun {j c'} q => by
    rcases anyAt_set hi q with ⟨z1, z2⟩ | ⟨_, z2⟩
    · subst z1; cases z2; exact any_of_hd h
    · exact z2
  refine ⟨r.sub, r.keep, r.old, r.big, by rw [List.length_set]; exact r.len, fun j d q => ?_, fun j c' q => ?_, fun j b q => ?_, fun j c' q => ?_, fun j b q => ?_, fun j c' q => ?_, r.tmk, r.tmd, fun p hp j c' q => r.tmo p hp j c' (an q), fun j k b c1 c2 q1 q2 => r.one j k b c1 c2 (an q1) (an q2)⟩
  · rw [slotAt_set hi] at q
    by_cases e : i = j
    · rw [if_pos e] at q; cases q
    · rw [if_neg e] at q; exact r.sh j d q
  · rw [slotAt_set hi] at q
    by_cases e : i = j
    · subst e; rw [if_pos rfl] at q; cases q; exact ⟨a, o, hs, ha, hc, fa, h0⟩
    · rw [if_neg e] at q; exact r.ow j c' q
  · obtain ⟨c', o', h1, h2⟩ := r.le j b q
    have e : i ≠ j := fun e => by subst e; rw [h] at h1; cases h1
    exact ⟨c', o', by rw [slotAt_set hi, if_neg e]; exact h1, h2⟩
  · rw [slotAt_set hi] at q
    by_cases e : i = j
    · rw [if_pos e] at q; cases q
    · rw [if_neg e] at q; exact r.lei j c' q
  · have e : i ≠ j := fun e => no b (e ▸ q)
    obtain ⟨c', o', h1, h2⟩ := r.hd j b (List.mem_cons_of_mem _ q)
    exact ⟨c', o', by rw [slotAt_set hi, if_neg e]; exact h1, h2⟩
  · rw [slotAt_set hi] at q
    by_cases e : i = j
    · rw [if_pos e] at q; cases q
    · rw [if_neg e] at q
      obtain ⟨b, hb⟩ := r.hdi j c' q
      rcases List.mem_cons.mp hb with z | hb
      · cases z; exact absurd rfl e
      · exact ⟨b, hb⟩
theorem any_give {j : Nat} {h : Option Nat} : anyAt (give1 env h) j = anyAt env j := by
  cases h with
  | none => rfl
  | some i =>
    rw [give1_some]
    cases e : slotAt env i with
    | none => rfl
    | some s =>
      cases s with
      | hd c =>
        have hi := slotAt_lt e
        show anyAt (env.set i (some (.ow c))) j = anyAt env j
        unfold anyAt
        rw [slotAt_set hi]
        by_cases z : i = j
        · subst z; rw [if_pos rfl, e]; rfl
        · rw [if_neg z]
      | _ => rfl
/-- the base while a loop walks -/
def HB (B : Base) (B' : Base) (h : Option Nat) : Prop :=
  match h with
  | none => B' = B
  | some i => ∃ a, B' = holdB B i a ∧ ∀ a', (i, a') ∉ B.hold
theorem HB.rep {h : Option Nat} (x : HB B B' h) (r : Rep K B' tm env σ F H) : Rep K B tm (give1 env h) σ F H := by
  cases h with
  | none => cases (show B' = B from x); exact r
  | some i =>
    obtain ⟨a, rfl, no⟩ := x
    exact r.unhold no
theorem HB.h0 {h : Option Nat} (x : HB B B' h) : B'.H0 = B.H0 := by
  cases h with
  | none => cases (show B' = B from x); rfl
  | some i => obtain ⟨a, rfl, no⟩ := x; rfl
theorem HB.lent {h : Option Nat} (x : HB B B' h) : B'.lent = B.lent := by
  cases h with
  | none => cases (show B' = B from x); rfl
  | some i => obtain ⟨a, rfl, no⟩ := x; rfl
theorem HB.opd {h : Option Nat} {o : Opd} {v : V} (x : HB B B' h) (k : OpdAt K B' tm env σ F H o v) : OpdAt K B tm (give1 env h) σ F H o v := by
  cases o with
  | va d => exact k
  | sl i => exact k
  | fr c =>
    obtain ⟨a, ob, k1, k2, k3, k4, k5, k6, k7⟩ := k
    rw [x.h0] at k5
    exact ⟨a, ob, k1, k2, k3, k4, k5, k6, fun i c' q => k7 i c' (by rw [any_give] at q; exact q)⟩
end

/-! ### what is walked -/
/-- turns over data, while G holds of the data's part and the heap -/
structure WalkD (K : PySem.W.Frag) (J : It) (ds : List D) (G : Hp → Hp → Prop) : Prop where
  goes : ∀ i F H, i < ds.length → Same F H → G F H → J.go i H
  stops : ∀ F H, Same F H → G F H → J.stop ds.length H
  yields : ∀ i F H x H', i < ds.length → Same F H → G F H → J.yld i H x H' → ∃ d, ds[i]? = some d ∧
    ((H' = H ∧ At K F x d) ∨ ∃ T vs es, x = .ref T ∧ H T = none ∧ H' = upd H T (.tup vs) ∧ AtAll K F vs es ∧ d = .tuple es)
/-- what holds of the state while the list is walked -/
def HoldG (K : PySem.W.Frag) (env : DEnv) (σ : L2.St) (F1 : Hp) (p : List D × Option Nat) (G : Hp → Hp → Prop) : Prop :=
  match p.2 with
  | none => G = fun F _ => Same F1 F
  | some i => slotAt env i = some (.ow (.ls p.1)) ∧ ∃ a, σ[i]? = some (some (.ref a)) ∧ G = fun F H => ∃ xs, H a = some (.lst xs) ∧ AtAll K F xs p.1
def tI (X : Cx) (W : WX) (f : I) : TI := fun σ H R => ∃ B tm env F, Rep X.K B tm env σ F H ∧
  RQ X W B tm σ (fun p env' => ∀ J F' H' G, Same F F' → Rep X.K B tm env' σ F' H' → HoldG X.K env' σ F' p G → WalkD X.K J p.1 G → R J H') (f env)
abbrev DI (X : Cx) (W : WX) (tg iter : Expr) (f : I) : Prop := PI X tg iter (tI X W f)
section
variable {X : Cx} {W : WX} {B B' : Base} {tm : List (Addr × HO)} {σ : L2.St} {F F' H : Hp} {D : Ends} {st : Stmt} {e tg iter : Expr} {f g : S} {fi : I} {ft : T} {gt : Tg} {pos : Pos} {body : List Stmt}
theorem HoldG.start {env : DEnv} {p : List Z.D × Option Nat} {G : Hp → Hp → Prop} (r : Rep X.K B tm env σ F H) (hg : HoldG X.K env σ F p G) :
    ∃ B', HB B B' p.2 ∧ Rep X.K B' tm (take1 env p.2) σ F H ∧ ∀ tm2 en σ2 F2 H2, Same F F2 → Rep X.K B' tm2 en σ2 F2 H2 → heldP en p.1 p.2 → G F2 H2 := by
  obtain ⟨ds, h⟩ := p
  cases h with
  | none =>
    cases (show G = fun F' _ => Same F F' from hg)
    exact ⟨B, rfl, r, fun tm2 en σ2 F2 H2 s _ _ => s⟩
  | some i =>
    obtain ⟨hs, a, ha, rfl⟩ := hg
    obtain ⟨a', ha', no, r'⟩ := r.hold_ hs
    rw [ha] at ha'; cases ha'
    refine ⟨holdB B i a, ⟨a, rfl, no⟩, ?_, fun tm2 en σ2 F2 H2 s r2 hp => ?_⟩
    · rw [take1_some, hs]; exact r'
    · obtain ⟨c, o, h1, h2, h3, h4, _⟩ := r2.hd i a List.mem_cons_self
      rw [show slotAt en i = some (.hd (.ls ds)) from hp] at h1
      cases h1
      cases h4 with
      | ls k => exact ⟨_, h3, k⟩
/-- one item of the walk, ready for the target -/
theorem WalkD.item {J : It} {ds : List Z.D} {G : Hp → Hp → Prop} (w : WalkD X.K J ds G) {i : Nat} {env : DEnv} {x : V} {H' : Hp} (r : Rep X.K B tm env σ F H) (hi : i < ds.length) (hg : G F H) (y : J.yld i H x H') :
    ∃ d F', ds[i]? = some d ∧ Same F F' ∧ Rep X.K B tm env σ F' H' ∧ At X.K F' x d := by
  obtain ⟨d, hd, q⟩ := w.yields i F H x H' hi r.sub hg y
  rcases q with ⟨rfl, k⟩ | ⟨T, vs, es, rfl, hT, rfl, k, rfl⟩
  · exact ⟨d, F, hd, Same.refl _, r, k⟩
  · have f0 := (r.fresh hT).1
    exact ⟨_, upd F T (.tup vs), hd, same_upd f0, r.grow hT, .tup upd_same (AtAll.mono (same_upd f0) k)⟩
theorem RS.turn {F1 : Hp} {env1 : DEnv} {h : Option Nat} {k : DEnv → R Fl} (x : HB B B' h)
    (hr : RS X W B tm F1 D (((f env1).givx h).bind fun fl env2 => match fl with
      | .nx => k env2
      | .ct => k env2
      | .bk => .ok .nx (give1 env2 h)
      | .rt o => .ok (.rt o) (give1 env2 h))) {N : L2.St → Hp → Prop} (hN : ∀ env2 σ2 F2 H2, Same F1 F2 → Rep X.K B' tm env2 σ2 F2 H2 → RS X W B tm F1 D (k env2) → N σ2 H2) :
    RS X W B' tm F1 { D with nx := N, ct := N, bk := D.nx } (f env1) := by
  cases e1 : f env1 with
  | bad => rw [e1] at hr; exact hr
  | exc c en =>
    rw [e1, givx_exc, bind_exc] at hr
    exact fun σ F' H r C hC => hr σ F' H (x.rep r) C hC
  | ok fl en =>
    rw [e1, givx_ok, bind_ok] at hr
    cases fl with
    | nx => exact fun σ F' H s r => hN en σ F' H s r hr
    | ct => exact fun σ F' H s r => hN en σ F' H s r hr
    | bk => exact fun σ F' H s r => hr σ F' H s (x.rep r)
    | rt o => exact fun σ F' H s r v kv => hr σ F' H s (x.rep r) v (x.opd kv)
theorem ds_for {is : List Nat} (hp : PassesOwn (model X.prog X.w) X.A X.env X.xe) (hi : DI X W tg iter fi) (hg : DG X tg gt is) (hb : DSs X W body f) (hc : X.calm = true := by rfl) (hs : ∀ x, foldedSetIterable iter X.env x = pure x := by intro _; rfl) :
    DS X W (.For tg iter body [] pos) (sFor fi gt f) := by
  refine PS.imp (ps_for hp hc hi hg hb hs) fun D σ H ⟨B, tm, env, F, r, h⟩ => ⟨B, tm, env, F, r, (RS.of h).imp fun p env1 h1 J F1 H1 G s1 r1 hg1 w => ?_⟩
  obtain ⟨B', hB, r1', hG⟩ := hg1.start r1
  refine ⟨fun i m σ H => m = p.1.length - i ∧ i ≤ p.1.length ∧ ∃ en F2, Same F1 F2 ∧ Rep X.K B' tm en σ F2 H ∧ RS X W B tm F1 D (forL p.2 p.1 gt f (p.1.drop i) en), ⟨_, rfl, Nat.zero_le _, _, F1, Same.refl _, r1', RS.up s1 h1⟩, ?_⟩
  rintro i m σ2 H2 ⟨rfl, hi, en, F2, s2, r2, h2⟩
  by_cases hlt : i < p.1.length
  · right
    rw [List.drop_eq_getElem_cons hlt] at h2
    unfold forL at h2
    split at h2
    · rename_i held
      have hGn := hG tm en σ2 F2 H2 s2 r2 held
      refine ⟨w.goes i F2 H2 hlt r2.sub hGn, fun σ' H' => ∃ en F2, Same F1 F2 ∧ Rep X.K B' tm en σ' F2 H' ∧ RS X W B tm F1 D (forL p.2 p.1 gt f (p.1.drop (i + 1)) en), fun σ' H' q => ⟨p.1.length - (i + 1), by omega, rfl, hlt, q⟩, fun x H' y => ?_⟩
      obtain ⟨d, F3, hd, s3, r3, k3⟩ := w.item r2 hlt hGn y
      rw [List.getElem?_eq_getElem hlt] at hd
      cases hd
      cases e1 : gt p.1[i] en with
      | none => rw [e1] at h2; exact h2.elim
      | some env3 =>
        rw [e1] at h2
        refine ⟨B', tm, en, F3, _, env3, r3, k3, e1, fun σ4 F4 H4 s4 r4 _ _ => ⟨B', tm, env3, F4, r4, ?_⟩⟩
        exact RS.up (s2.trans (s3.trans s4)) (RS.turn hB h2 fun env5 σ5 F5 H5 s5 r5 h5 => ⟨env5, F5, s5, r5, h5⟩)
    · exact h2.elim
  · left
    have e : i = p.1.length := by omega
    subst e
    rw [List.drop_length] at h2
    unfold forL at h2
    split at h2
    · rename_i held
      exact ⟨w.stops F2 H2 r2.sub (hG tm en σ2 F2 H2 s2 r2 held), h2 σ2 F2 H2 s2 (hB.rep r2)⟩
    · exact h2.elim
theorem ds_while (hp : PassesOwn (model X.prog X.w) X.A X.env X.xe) (ht : DT X W e ft) (hb : DSs X W body f) : DS X W (.While e body [] pos) (sWhile ft f) := by
  refine PS.imp (ps_while hp ht hb) fun D σ H ⟨B, tm, env, F, r, h⟩ => ?_
  refine ⟨fun m σ H => ∃ en F2, Same F F2 ∧ Rep X.K B tm en σ F2 H ∧ RS X W B tm F D (whileL ft f m en), ⟨whileFuel, env, F, Same.refl _, r, h⟩, ?_⟩
  rintro m σ2 H2 ⟨en, F2, s2, r2, h2⟩
  cases m with
  | zero => exact h2.elim
  | succ m =>
    unfold whileL at h2
    refine ⟨B, tm, en, F2, r2, (RS.of h2).imp fun b env3 h3 F3 H3 s3 r3 => ?_⟩
    cases b with
    | false => exact h3 σ2 F3 H3 (s2.trans s3) r3
    | true =>
      rw [if_pos rfl]
      rw [if_pos rfl] at h3
      refine ⟨fun σ' H' => ∃ en F2, Same F F2 ∧ Rep X.K B tm en σ' F2 H' ∧ RS X W B tm F D (whileL ft f m en), fun σ' H' q => ⟨m, Nat.lt_succ_self _, q⟩, B, tm, env3, F3, r3, RS.up (s2.trans s3) ?_⟩
      have h4 : RS X W B tm F D (((f env3).givx none).bind fun fl env2 => match fl with
        | .nx => whileL ft f m env2
        | .ct => whileL ft f m env2
        | .bk => .ok .nx (give1 env2 none)
        | .rt o => .ok (.rt o) (give1 env2 none)) := by
        rw [givx_none]; exact h3
      exact RS.turn (B' := B) (h := none) rfl h4 fun env5 σ5 F5 H5 s5 r5 h5 => ⟨env5, F5, s5, r5, h5⟩
end
end Z

set_option Elab.async false
set_option linter.all false
set_option maxRecDepth 100000
set_option maxHeartbeats 4000000
/-! Z5: comprehensions. -/
namespace Z
open PySem PySem.Spec L2
theorem slotAt_wipe {env : DEnv} {j : Nat} : ∀ {vs : List Nat}, slotAt (wipeD env vs) j = if j ∈ vs then none else slotAt env j
  | [] => by simp
  | v :: vs => by
    rw [wipeD_cons]
    by_cases hv : v < (wipeD env vs).length
    · rw [slotAt_set hv]
      by_cases e : v = j
      · subst e; simp
      · rw [if_neg e, slotAt_wipe]
        have e' : ¬ j = v := fun z => e z.symm
        simp [e']
    · rw [List.set_eq_of_length_le (by omega), slotAt_wipe]
      by_cases e : j = v
      · subst e
        have z : slotAt (wipeD env vs) j = none := by
          cases q : slotAt (wipeD env vs) j with
          | none => rfl
          | some s => exact absurd (slotAt_lt q) hv
        rw [slotAt_wipe] at z
        rw [z]; simp
      · simp [e]
theorem wipeD_len {env : DEnv} : ∀ {vs : List Nat}, (wipeD env vs).length = env.length
  | [] => rfl
  | v :: vs => by rw [wipeD_cons, List.length_set, wipeD_len]
theorem backD_len {env0 env : DEnv} : ∀ {vs : List Nat}, (backD env0 env vs).length = env.length
  | [] => rfl
  | v :: vs => by rw [backD_cons, List.length_set, backD_len]
theorem slotAt_back {env0 env : DEnv} (hl : env0.length = env.length) {j : Nat} : ∀ {vs : List Nat}, slotAt (backD env0 env vs) j = if j ∈ vs then slotAt env0 j else slotAt env j
  | [] => by simp
  | v :: vs => by
    rw [backD_cons]
    by_cases hv : v < (backD env0 env vs).length
    · rw [slotAt_set hv]
      by_cases e : v = j
      · subst e; simp
      · rw [if_neg e, slotAt_back hl]
        have e' : ¬ j = v := fun z => e z.symm
        simp [e']
    · rw [List.set_eq_of_length_le (by omega), slotAt_back hl]
      by_cases e : j = v
      · subst e
        rw [backD_len] at hv
        have z : slotAt env j = none := by
          cases q : slotAt env j with
          | none => rfl
          | some s => exact absurd (slotAt_lt q) hv
        have z0 : slotAt env0 j = none := by
          cases q : slotAt env0 j with
          | none => rfl
          | some s => exact absurd (slotAt_lt q) (by rw [hl]; exact hv)
        rw [z, z0]; simp
      · simp [e]
theorem wipe_in {σ : L2.St} {j : Nat} : ∀ {vs : List Nat}, j ∈ vs → j < σ.length → (wipe σ vs)[j]? = some none
  | v :: vs, h, hl => by
    unfold wipe
    by_cases e : v = j
    · subst e; rw [List.getElem?_set_self (by rw [wipe_length]; exact hl)]
    · rw [List.getElem?_set_ne e]
      exact wipe_in ((List.mem_cons.mp h).resolve_left fun z => e z.symm) hl
theorem wipe_eq {σ σ2 : L2.St} {vs is : List Nat} (his : ∀ j ∈ is, j ∈ vs) (hl : σ2.length = (wipe σ vs).length) (h : ∀ j : Nat, j ∉ is → σ2[j]? = (wipe σ vs)[j]?) : wipe σ2 vs = wipe σ vs := by
  apply List.ext_getElem?
  intro j
  by_cases hj : j ∈ vs
  · by_cases hlt : j < σ.length
    · rw [wipe_in hj hlt, wipe_in hj (by rw [hl, wipe_length]; exact hlt)]
    · rw [List.getElem?_eq_none (by rw [wipe_length, hl, wipe_length]; omega), List.getElem?_eq_none (by rw [wipe_length]; omega)]
  · rw [wipe_out hj, h j fun z => hj (his j z)]
section
variable {K : PySem.W.Frag} {B : Base} {tm : List (Addr × HO)} {env : DEnv} {σ : L2.St} {F H : Hp}
theorem any_of_slot {i : Nat} {s : Slot} {c : Ow} (h : slotAt env i = some s) (e : s.any? = some c) : anyAt env i = some c := by
  unfold anyAt; rw [h]; exact e
theorem anyAt_wipe {vs : List Nat} {j : Nat} {c : Ow} (h : anyAt (wipeD env vs) j = some c) : j ∉ vs ∧ anyAt env j = some c := by
  unfold anyAt at h ⊢
  rw [slotAt_wipe] at h
  by_cases e : j ∈ vs
  · rw [if_pos e] at h; cases h
  · rw [if_neg e] at h; exact ⟨e, h⟩
theorem Rep.wipe_ {vs : List Nat} (r : Rep K B tm env σ F H) (hl : ∀ i a, (i, a) ∈ B.lent → i ∉ vs) (hh : ∀ i a, (i, a) ∈ B.hold → i ∉ vs) : Rep K B tm (wipeD env vs) (wipe σ vs) F H := by
  have out : ∀ {j : Nat} {s : Slot}, slotAt (wipeD env vs) j = some s → j ∉ vs ∧ slotAt env j = some s := fun {j s} q => by
    rw [slotAt_wipe] at q
    by_cases e : j ∈ vs
    · rw [if_pos e] at q; cases q
    · rw [if_neg e] at q; exact ⟨e, q⟩
  refine ⟨r.sub, r.keep, r.old, r.big, by rw [wipeD_len, wipe_length]; exact r.len, fun j d q => ?_, fun j c q => ?_, fun j a q => ?_, fun j c q => ?_, fun j a q => ?_, fun j c q => ?_, r.tmk, r.tmd, fun p hp j c q => ?_, fun j k a c c' q1 q2 q3 q4 => ?_⟩
  · obtain ⟨e, q⟩ := out q; rw [wipe_out e]; exact r.sh j d q
  · obtain ⟨e, q⟩ := out q; rw [wipe_out e]; exact r.ow j c q
  · obtain ⟨c, o, h1, h2⟩ := r.le j a q
    have e := hl j a q
    exact ⟨c, o, by rw [slotAt_wipe, if_neg e]; exact h1, by rw [wipe_out e]; exact h2⟩
  · exact r.lei j c (out q).2
  · obtain ⟨c, o, h1, h2⟩ := r.hd j a q
    have e := hh j a q
    exact ⟨c, o, by rw [slotAt_wipe, if_neg e]; exact h1, by rw [wipe_out e]; exact h2⟩
  · exact r.hdi j c (out q).2
  · obtain ⟨e, q⟩ := anyAt_wipe q; rw [wipe_out e]; exact r.tmo p hp j c q
  · obtain ⟨e1, q1⟩ := anyAt_wipe q1
    obtain ⟨e2, q2⟩ := anyAt_wipe q2
    rw [wipe_out e1] at q3
    rw [wipe_out e2] at q4
    exact r.one j k a c c' q1 q2 q3 q4
/-- behind the block the names hold what they held -/
theorem Rep.back_ {vs : List Nat} {env0 : DEnv} (r : Rep K B tm env (wipe σ vs) F H) (hl : env0.length = env.length) (hn : ∀ j ∈ vs, slotAt env j = none)
    (h0 : ∀ j ∈ vs, slotAt env0 j = none ∨ ∃ d v, slotAt env0 j = some (.sh d) ∧ σ[j]? = some (some v) ∧ At K F v d) : Rep K B tm (backD env0 env vs) σ F H := by
  have out : ∀ {j : Nat} {s : Slot}, slotAt (backD env0 env vs) j = some s → (j ∉ vs ∧ slotAt env j = some s) ∨ (j ∈ vs ∧ ∃ d v, s = .sh d ∧ σ[j]? = some (some v) ∧ At K F v d) := fun {j s} q => by
    rw [slotAt_back hl] at q
    by_cases e : j ∈ vs
    · rw [if_pos e] at q
      rcases h0 j e with z | ⟨d, v, z1, z2, z3⟩
      · rw [z] at q; cases q
      · rw [z1] at q; cases q; exact .inr ⟨e, d, v, rfl, z2, z3⟩
    · rw [if_neg e] at q; exact .inl ⟨e, q⟩
  have an : ∀ {j : Nat} {c : Ow}, anyAt (backD env0 env vs) j = some c → j ∉ vs ∧ anyAt env j = some c := fun {j c} q => by
    cases e : slotAt (backD env0 env vs) j with
    | none => unfold anyAt at q; rw [e] at q; cases q
    | some s =>
      have q' : s.any? = some c := by unfold anyAt at q; rw [e] at q; exact q
      rcases out e with ⟨e1, e2⟩ | ⟨_, d, v, rfl, _⟩
      · exact ⟨e1, any_of_slot e2 q'⟩
      · cases q'
  refine ⟨r.sub, r.keep, r.old, r.big, by rw [backD_len, r.len, wipe_length], fun j d q => ?_, fun j c q => ?_, fun j a q => ?_, fun j c q => ?_, fun j a q => ?_, fun j c q => ?_, r.tmk, r.tmd, fun p hp j c q => ?_, fun j k a c c' q1 q2 q3 q4 => ?_⟩
  · rcases out q with ⟨e, q⟩ | ⟨_, d', v, e, h1, h2⟩
    · have := r.sh j d q; rw [wipe_out e] at this; exact this
    · cases e; exact ⟨v, h1, h2⟩
  · rcases out q with ⟨e, q⟩ | ⟨_, d', v, e, h1, h2⟩
    · have := r.ow j c q; rw [wipe_out e] at this; exact this
    · cases e
  · obtain ⟨c, o, h1, h2⟩ := r.le j a q
    have e : j ∉ vs := fun z => by rw [hn j z] at h1; cases h1
    rw [wipe_out e] at h2
    exact ⟨c, o, by rw [slotAt_back hl, if_neg e]; exact h1, h2⟩
  · rcases out q with ⟨e, q⟩ | ⟨_, d', v, e, _⟩
    · exact r.lei j c q
    · cases e
  · obtain ⟨c, o, h1, h2⟩ := r.hd j a q
    have e : j ∉ vs := fun z => by rw [hn j z] at h1; cases h1
    rw [wipe_out e] at h2
    exact ⟨c, o, by rw [slotAt_back hl, if_neg e]; exact h1, h2⟩
  · rcases out q with ⟨e, q⟩ | ⟨_, d', v, e, _⟩
    · exact r.hdi j c q
    · cases e
  · obtain ⟨e, q⟩ := an q
    have := r.tmo p hp j c q; rw [wipe_out e] at this; exact this
  · obtain ⟨e1, q1⟩ := an q1
    obtain ⟨e2, q2⟩ := an q2
    rw [← wipe_out e1] at q3
    rw [← wipe_out e2] at q4
    exact r.one j k a c c' q1 q2 q3 q4
/-- a new object that is kept aside is changed -/
theorem Rep.tmUpd {a : Addr} {o o' : HO} (r : Rep K B ((a, o) :: tm) env σ F H) : Rep K B ((a, o') :: tm) env σ F (upd H a o') := by
  obtain ⟨ha, fa, h0⟩ := r.tmk (a, o) List.mem_cons_self
  have ha : H a = some o := ha
  have fa : F a = none := fa
  have h0 : B.H0 a = none := h0
  have ne : ∀ {i : Nat} {c : Ow} {b : Addr}, anyAt env i = some c → σ[i]? = some (some (.ref b)) → b ≠ a := fun {i c b} q z e => by
    subst e
    exact r.tmo (b, o) List.mem_cons_self i c q z
  refine ⟨fun b u q => ?_, fun b u q hl => ?_, r.old, r.big, r.len, r.sh, fun i c q => ?_, fun i b q => ?_, r.lei, fun i b q => ?_, r.hdi, fun p hp => ?_, r.tmd, fun p hp => ?_, r.one⟩
  · have e : b ≠ a := fun e => by subst e; rw [fa] at q; cases q
    rw [upd_ne e]; exact r.sub b u q
  · have e : b ≠ a := fun e => by subst e; rw [h0] at q; cases q
    rw [upd_ne e]; exact r.keep b u q hl
  · obtain ⟨b, u, h1, h2, h3⟩ := r.ow i c q
    exact ⟨b, u, h1, by rw [upd_ne (ne (any_of_ow q) h1)]; exact h2, h3⟩
  · obtain ⟨c, u, h1, h2, h3, h4⟩ := r.le i b q
    exact ⟨c, u, h1, h2, by rw [upd_ne (ne (any_of_le h1) h2)]; exact h3, h4⟩
  · obtain ⟨c, u, h1, h2, h3, h4⟩ := r.hd i b q
    exact ⟨c, u, h1, h2, by rw [upd_ne (ne (any_of_hd h1) h2)]; exact h3, h4⟩
  · rcases List.mem_cons.mp hp with rfl | hp
    · exact ⟨upd_same, fa, h0⟩
    · have e : p.1 ≠ a := fun e => (List.nodup_cons.mp r.tmd).1 (List.mem_map.mpr ⟨p, hp, e⟩)
      obtain ⟨h1, h2⟩ := r.tmk p (List.mem_cons_of_mem _ hp)
      exact ⟨by rw [upd_ne e]; exact h1, h2⟩
  · rcases List.mem_cons.mp hp with rfl | hp
    · exact r.tmo (a, o) List.mem_cons_self
    · exact r.tmo p (List.mem_cons_of_mem _ hp)
theorem free_any {vs : List Nat} (h : freeD env vs = true) : ∀ j ∈ vs, anyAt env j = none := fun j hj => by
  have := List.all_eq_true.mp h j hj
  cases e : anyAt env j with
  | none => rfl
  | some c => rw [e] at this; cases this
theorem Rep.free {vs : List Nat} (r : Rep K B tm env σ F H) (h : freeD env vs = true) : ∀ j ∈ vs, slotAt env j = none ∨ ∃ d v, slotAt env j = some (.sh d) ∧ σ[j]? = some (some v) ∧ At K F v d := fun j hj => by
  have q := free_any h j hj
  cases e : slotAt env j with
  | none => exact .inl rfl
  | some s =>
    right
    cases s with
    | sh d =>
      obtain ⟨v, h1, h2⟩ := r.sh j d e
      exact ⟨d, v, rfl, h1, h2⟩
    | _ => unfold anyAt at q; rw [e] at q; cases q
end
abbrev W0 : WX := fun _ _ _ _ => False
section
variable {X : Cx} {W : WX} {B B' : Base} {tm tm' : List (Addr × HO)} {σ σ' : L2.St}
theorem RQ.nox_bind {α β : Type} {P : β → DEnv → Prop} {m : R α} {k : α → DEnv → R β} (h : RQ X W B tm σ P (m.nox.bind k)) : RQ X W0 B' tm' σ' (fun a env => RQ X W B tm σ P (k a env)) m := by
  cases m with
  | ok a env => exact h
  | exc c env => exact h.elim
  | bad => exact h
/-- a clause's tests -/
abbrev DTs (X : Cx) (W : WX) (ifs : List Expr) (f : T) : Prop := PTs X ifs (tT X W f)
theorem dts_nil : DTs X W [] tYes := ⟨fun pins s σ H Q I ⟨B, tm, env, F, r, h⟩ => pts_nil.run pins s σ H Q I (h F H (Same.refl _) r)⟩
theorem dts_one {c : Expr} {f : T} (h : DT X W c f) : DTs X W [c] f := pts_one h
variable {elt tg iter : Expr} {ifs : List Expr} {scope : Scope} {own : List (Str × Nat)} {pos : Pos} {fi : I} {gt : Tg} {is : List Nat} {ft : T} {fe : E}
theorem comp_in {vs : List Nat} (his : ∀ j ∈ is, j ∈ vs) {H : Hp} {Q : VK} (h : tE X W (eComp fi gt ft fe vs) σ H Q) : tLc (tI X W fi) (tG X gt is) (tT X W0 ft) (tE X W0 fe) vs σ H Q := by
  obtain ⟨B, tm, env, F, r, h⟩ := h
  refine ⟨B, tm, env, F, r, (RQ.bind h).imp fun p env1 h1 J F1 H1 G s1 r1 hg1 w Dd hD => ?_⟩
  split at h1
  · rename_i hfree
    obtain ⟨B', hB, r1', hG⟩ := hg1.start r1
    have hl : ∀ i a, (i, a) ∈ B'.lent → i ∉ vs := fun i a q z => by
      rw [hB.lent] at q
      obtain ⟨c, _, h1, _⟩ := r1.le i a q
      have := free_any hfree i z
      rw [any_of_le h1] at this; cases this
    have hh : ∀ i a, (i, a) ∈ B'.hold → i ∉ vs := fun i a q z => by
      have f := free_any hfree i z
      cases e : p.2 with
      | none =>
        rw [e] at hB
        cases (show B' = B from hB)
        obtain ⟨c, _, h1, _⟩ := r1.hd i a q
        rw [any_of_hd h1] at f; cases f
      | some k =>
        rw [e] at hB
        obtain ⟨a', rfl, _⟩ := hB
        rcases List.mem_cons.mp q with z2 | q
        · cases z2
          have q2 : slotAt env1 i = some (.ow (.ls p.1)) := by
            unfold HoldG at hg1
            rw [e] at hg1
            exact hg1.1
          rw [any_of_ow q2] at f; cases f
        · obtain ⟨c, _, h1, _⟩ := r1.hd i a q
          rw [any_of_hd h1] at f; cases f
    have h2 := RQ.bind h1
    have r2 : Rep X.K B' ((Dd, .lst []) :: tm) (wipeD (take1 env1 p.2) vs) (wipe σ vs) F1 (upd H1 Dd (.lst [])) := by
      have rn := (r1'.newObj (o := .lst []) hD)
      have kn := r1'.newFr (c := .ls []) (o := .lst []) hD (.ls .nil)
      obtain ⟨a, o, ea, _, rp⟩ := rn.push kn
      cases ea
      have eo : o = .lst [] := by
        have := (rp.tmk (Dd, o) List.mem_cons_self).1
        rw [show (Dd, o).1 = Dd from rfl, upd_same] at this
        cases this; rfl
      subst eo
      exact rp.wipe_ hl hh
    refine ⟨fun i m H => m = p.1.length - i ∧ i ≤ p.1.length ∧ ∃ en acc accV F2, Same F1 F2 ∧ Rep X.K B' ((Dd, .lst accV) :: tm) en (wipe σ vs) F2 H ∧ AtAll X.K F2 accV acc ∧ (∀ j ∈ vs, slotAt en j = none) ∧
      RQ X W B tm σ (fun ds env2 => ∀ v F' H', Same F F' → Rep X.K B tm (give1 (backD env1 env2 vs) p.2) σ F' H' → OpdAt X.K B tm (give1 (backD env1 env2 vs) p.2) σ F' H' (.fr (.ls ds)) v → Q v H') (compL p.2 p.1 gt ft fe vs (p.1.drop i) acc en),
      ⟨_, rfl, Nat.zero_le _, _, [], [], F1, Same.refl _, r2, .nil, fun j hj => by rw [slotAt_wipe, if_pos hj], h2.imp fun ds env2 h3 => h3⟩, ?_⟩
    rintro i m H2 ⟨rfl, hi, en, acc, accV, F2, s2, r3, kacc, hnone, h3⟩
    have elen : env1.length = en.length := by
      rw [r3.len, wipe_length, ← r1.len]
    by_cases hlt : i < p.1.length
    · right
      rw [List.drop_eq_getElem_cons hlt] at h3
      unfold compL at h3
      split at h3
      · rename_i held
        have hGn := hG _ en _ F2 H2 s2 r3 held
        refine ⟨w.goes i F2 H2 hlt r3.sub hGn, fun H' => ∃ en acc accV F2, Same F1 F2 ∧ Rep X.K B' ((Dd, .lst accV) :: tm) en (wipe σ vs) F2 H' ∧ AtAll X.K F2 accV acc ∧ (∀ j ∈ vs, slotAt en j = none) ∧
          RQ X W B tm σ (fun ds env2 => ∀ v F' H', Same F F' → Rep X.K B tm (give1 (backD env1 env2 vs) p.2) σ F' H' → OpdAt X.K B tm (give1 (backD env1 env2 vs) p.2) σ F' H' (.fr (.ls ds)) v → Q v H') (compL p.2 p.1 gt ft fe vs (p.1.drop (i + 1)) acc en), fun H' q => ⟨p.1.length - (i + 1), by omega, rfl, hlt, q⟩, fun x H' y => ?_⟩
        obtain ⟨d, F3, hd, s3, r4, k4⟩ := w.item r3 hlt hGn y
        rw [List.getElem?_eq_getElem hlt] at hd
        cases hd
        cases e1 : gt p.1[i] en with
        | none => rw [e1] at h3; exact h3.elim
        | some env3 =>
          rw [e1] at h3
          refine ⟨B', _, en, F3, _, env3, r4, k4, e1, fun σ4 F4 H4 s4 r5 l5 j5 => ?_⟩
          have hw := wipe_eq his l5 j5
          refine ⟨hw, B', _, env3, F4, r5, (RQ.nox_bind h3).imp fun b env5 h5 F5 H5 s5 r6 => ?_⟩
          have wiped : ∀ {en : DEnv} {F : Hp} {H : Hp} {o : HO}, Rep X.K B' ((Dd, o) :: tm) en σ4 F H → Rep X.K B' ((Dd, o) :: tm) (wipeD en vs) (wipe σ vs) F H := fun {en F H o} r => hw ▸ r.wipe_ hl hh
          cases b with
          | false => exact ⟨wipeD env5 vs, acc, accV, F5, s2.trans (s3.trans (s4.trans s5)), wiped r6, AtAll.mono (s3.trans (s4.trans s5)) kacc, fun j hj => by rw [slotAt_wipe, if_pos hj], h5⟩
          | true =>
            refine iteT ?_
            rw [if_pos rfl] at h5
            refine ⟨B', _, env5, F5, r6, (RQ.nox_bind h5).imp fun o env6 h6 v F6 H6 s6 r7 o7 => ?_⟩
            cases e2 : share o env6 with
            | bad => rw [e2] at h6; exact h6.elim
            | exc c en => exact absurd e2 share_no_exc
            | ok z env7 =>
              rw [e2, bind_ok] at h6
              obtain ⟨F7, s7, r8, k8⟩ := r7.share o7 e2
              split at h6
              · rename_i hal
                refine ⟨accV, (r8.tmk (Dd, .lst accV) List.mem_cons_self).1, by rw [kacc.length, ← line_eq]; exact hal, wipeD env7 vs, acc ++ [z], accV ++ [v], F7, ?_, ?_, ?_, fun j hj => by rw [slotAt_wipe, if_pos hj], h6⟩
                · exact s2.trans (s3.trans (s4.trans (s5.trans (s6.trans s7))))
                · exact (wiped r8).tmUpd
                · exact (AtAll.mono (s3.trans (s4.trans (s5.trans (s6.trans s7)))) kacc).append (.one k8)
              · exact h6.elim
      · exact h3.elim
    · left
      have e : i = p.1.length := by omega
      subst e
      rw [List.drop_length] at h3
      unfold compL at h3
      split at h3
      · rename_i held
        refine ⟨w.stops F2 H2 r3.sub (hG _ en _ F2 H2 s2 r3 held), ?_⟩
        have r4 := r3.back_ elen hnone fun j hj => (r1.free hfree j hj).imp id fun ⟨d, v, z1, z2, z3⟩ => ⟨d, v, z1, z2, At.mono s2 z3⟩
        exact h3 (.ref Dd) F2 H2 (s1.trans s2) (hB.rep r4.drop) (hB.opd (r4.pop (.ls kacc)))
      · exact h3.elim
  · exact h1.elim
theorem de_comp (own : List (Str × Nat)) (hN : X.N.Nodup) (hi : DI X W tg iter fi) (hg : ∀ (s : Shared) (H : Hp) (C : Addr) (cl : List (Str × Addr)) (fp : List Addr), DG (X.blk s H scope (compEnvC scope cl C X.env) fp) tg gt is)
    (ht : ∀ (s : Shared) (H : Hp) (C : Addr) (cl : List (Str × Addr)) (fp : List Addr), DTs (X.blk s H scope (compEnvC scope cl C X.env) fp) W0 ifs ft)
    (he : ∀ (s : Shared) (H : Hp) (C : Addr) (cl : List (Str × Addr)) (fp : List Addr), DE (X.blk s H scope (compEnvC scope cl C X.env) fp) W0 elt fe)
    (ok : blkC X.N X.env.scope scope own = true := by decide +kernel) (his : ∀ j ∈ is, j ∈ own.map (·.2) := by decide) (hc : X.calm = true := by rfl) (hs : ∀ x, foldedSetIterable iter X.env x = pure x := by intro _; rfl) :
    DE X W (.ListComp elt [⟨tg, iter, ifs, 0⟩] scope pos) (eComp fi gt ft fe (own.map (·.2))) :=
  PE.imp (pe_lc hc hN hi (blkOk_by ok) hg ht he hs) fun _ _ _ h => comp_in his h
theorem ds_setComp (i : Nat) (own : List (Str × Nat)) {y : Str} {py spos : Pos} (hN : X.N.Nodup) (hi : DI X W tg iter fi) (hg : ∀ (s : Shared) (H : Hp) (C : Addr) (cl : List (Str × Addr)) (fp : List Addr), DG (X.blk s H scope (compEnvC scope cl C X.env) fp) tg gt is)
    (ht : ∀ (s : Shared) (H : Hp) (C : Addr) (cl : List (Str × Addr)) (fp : List Addr), DTs (X.blk s H scope (compEnvC scope cl C X.env) fp) W0 ifs ft)
    (he : ∀ (s : Shared) (H : Hp) (C : Addr) (cl : List (Str × Addr)) (fp : List Addr), DE (X.blk s H scope (compEnvC scope cl C X.env) fp) W0 elt fe)
    (ok : blkC X.N X.env.scope scope own = true := by decide +kernel) (his : ∀ j ∈ is, j ∈ own.map (·.2) := by decide) (hy : X.N[i]? = some y := by rfl) (hyl : X.env.scope.names.lookup y = some .local := by rfl)
    (hsw : swapsWith (.ListComp elt [⟨tg, iter, ifs, 0⟩] scope pos) (some (.Name y py)) spos.line X.env = pure true := by first | exact sw_true rfl rfl rfl (by decide +kernel) | rfl) (hc : X.calm = true := by rfl) (hs : ∀ x, foldedSetIterable iter X.env x = pure x := by intro _; rfl) :
    DS X W (.Assign [.Name y py] (.ListComp elt [⟨tg, iter, ifs, 0⟩] scope pos) spos) (sSet i (eComp fi gt ft fe (own.map (·.2)))) :=
  PS.imp (ps_setLc hc hN hy hyl hsw hi (blkOk_by ok) hg ht he hs) fun _ _ _ h => comp_in his (set_in h)
end
end Z

set_option Elab.async false
set_option linter.all false
set_option maxRecDepth 100000
set_option maxHeartbeats 4000000
/-! Zg: what a def does where no repr is under way (A.guards told): so that a body may call repr. -/
namespace Z
open PySem PySem.Spec PyProof.Rows L2
structure FnG (P : Program) (w : World) (K : PySem.W.Frag) (mg : Str → Option Value) (base : Heap) (CX : CXT) (k : Nat) (f : Addr) (fd : FuncData) (ps : List Str) (sp : Sp) : Prop where
  len : ∀ vs H Q E, sp vs H Q E → vs.length = ps.length
  run : ∀ (A : Around) (outer : List PySem.Env) (s : Shared) (H : Hp) (args : Args) (us : List Value) (vs : List V) (Q : VK) (E : XK), Room k A → A.guards = some [] → Env0 P w K mg base A outer s H → BindsTo s fd args (ps.zip us) → Vals vs us → sp vs H Q E →
    codeAny (model P w) A (.call (.ref f) args) (CR CX outer P w H s Q E) s
section
variable {P : Program} {w : World} {K : PySem.W.Frag} {mg : Str → Option Value} {base : Heap} {CX : CXT}
theorem FnG.mono {j k : Nat} {f : Addr} {fd : FuncData} {ps : List Str} {sp : Sp} (F : FnG P w K mg base CX j f fd ps sp) (h : j ≤ k) : FnG P w K mg base CX k f fd ps sp :=
  ⟨F.len, fun A outer s H args us vs Q E hr => F.run A outer s H args us vs Q E (hr.mono h)⟩
theorem FnG.imp {k : Nat} {f : Addr} {fd : FuncData} {ps : List Str} {sp sp' : Sp} (F : FnG P w K mg base CX k f fd ps sp) (h : ∀ vs H Q E, sp' vs H Q E → sp vs H Q E) : FnG P w K mg base CX k f fd ps sp' :=
  ⟨fun vs H Q E q => F.len vs H Q E (h _ _ _ _ q), fun A outer s H args us vs Q E hr hg he hb hv hs => F.run A outer s H args us vs Q E hr hg he hb hv (h _ _ _ _ hs)⟩
/-- a def by its body -/
theorem fnG_of {x qual : Str} {st : Stmt} {f : Addr} {fd : FuncData} {N ps : List Str} {k : Nat} {sp : Sp} (Fu : Fun K x qual st f fd) (S : FnScope N ps (defScope st)) (len : ∀ vs H Q E, sp vs H Q E → vs.length = ps.length)
    (hbody : ∀ (cdv : Value) (A : Around) (outer : List PySem.Env) (s : Shared) (H : Hp) (vs : List V) (Q : VK) (E : XK), Room k (A.deeper (envOfC qual (defScope st) s.heap.objs.size f cdv)) → A.guards = some [] → sp vs H Q E →
      ∃ t, PSs (cxOf CX P w K mg base N qual (defScope st) f cdv A outer s H E) (defBody st) t ∧ t { nx := fun _ H' => Q .non H', rt := Q } (L2.start N vs) H) : FnG P w K mg base CX (k + 1) f fd ps sp := by
  obtain ⟨oc, od, kV, doc, pm, an, cdv, ct, osl, rfl, lk, hcd⟩ := Fu.ex
  refine ⟨len, fun A outer s H args us vs Q E hr hgd e0 hb r hsp => ?_⟩
  have held : ∀ {b : Addr} {o : Obj}, base.get? b = some o → s.heap.get? b = some o := fun e => (e0.bs _ _ e).1
  have KX : K.In s.heap := e0.mod.kin.keeps fun _ _ e => held e
  have kinds : ∀ y ∈ ps.zip us, (defScope st).names.lookup y.1 = some .local ∨ ((defScope st).names.lookup y.1 = some .cell ∧ ((cellsFrom (s.heap.objs.size + 1) (defScope st).names []).lookup y.1).isSome = true) := fun ⟨n, v⟩ hy =>
    (S.par n (List.of_mem_zip hy).1).imp id fun q => ⟨q, PySem.W.cellsFrom_some _ _ _ (.inl q)⟩
  refine codeAny_call_function hr.depth (KX _ _ lk) rfl S.co S.gen rfl (PySem.W.codeRec_of KX hcd) (hb _ _ _ _ (wpAny_newFunctionEnv_cells S.kind kinds fun env he s1 x => ?_))
  subst he
  refine ⟨(e0.mod.nolimit.keeps fun _ _ e => held e).keeps x.toInCall.keep, codeAny_func ?_⟩
  obtain ⟨t, ht, hq⟩ := hbody cdv A outer s H vs Q E (hr.deeper _) hgd hsp
  have I : Inv (cxOf CX P w K mg base N qual (defScope st) f cdv A outer s H E) [] (L2.start N vs) H s1 := inv_start S hr.hd e0 (len _ _ _ _ hsp) r x
  refine wpAny_mono (ht.run [] s1 _ H _ I hq) (fun fl s' hs => ?_) fun e s' hs => hs
  cases fl with
  | ret u =>
    obtain ⟨v, σ', H', J, rv, q⟩ := hs
    exact ⟨v, H', J.os, J.bare, J.base, J.hok, rv, q⟩
  | next =>
    obtain ⟨σ', H', J, q⟩ := hs
    exact ⟨V.non, H', J.os, J.bare, J.base, J.hok, rfl, q⟩
  | brk => exact hs.choose_spec.choose_spec.2.elim
  | cont => exact hs.choose_spec.choose_spec.2.elim
end
/-- a call, by values -/
theorem runG {X : Cx} {CX : CXT} {k : Nat} {f : Addr} {fd : FuncData} {ps : List Str} {sp : Sp} {E : L2.St → XK} {pins : List (Addr × Obj)} {σ : L2.St} {H : Hp} {s : Shared} {Q : VK} {args : Args} {us : List Value} {vs : List V}
    (F : FnG X.prog X.w X.K X.mg X.base CX k f fd ps sp) (hr : Room k X.A) (hg : X.A.guards = some []) (hb : BindsTo s fd args (ps.zip us)) (hx : PassesAt CX X σ (E σ))
    (I : Inv X pins σ H s) (r : Vals vs us) (h : sp vs H Q (E σ)) : wpAny (model X.prog X.w) X.A (call (.ref f) args.pos args.kw) (EP X pins σ Q) X.xe s := by
  refine wpAny_call (codeAny_mono (F.run X.A X.stack s H ⟨args.pos, args.kw⟩ us vs Q (E σ) hr hg I.env0 hb r h) fun r s' hq => ?_)
  cases r with
  | error e => exact hx pins H s e s' I hq
  | ok fl =>
    cases fl with
    | ret u => exact I.after hq
    | next => exact False.elim hq
    | brk => exact False.elim hq
    | cont => exact False.elim hq
end Z
namespace Z
open PySem PySem.Spec PyProof.Rows L2
section
variable {P : Program} {w : World} {K : PySem.W.Frag} {mg mb : Str → Option Value} {CX : CXT} {k : Nat} {fa a : Addr} {fd : FuncData} {x : Str} {sp : Sp} {s : Shared} {vs : List Value} {ns : List Int}
/-- the law's def is run at the heap behind the top; in H nothing but the script is told -/
theorem law_at (KX : K.In s.heap) (hns : s.heap.Ns mainGlobals mg) (hb : s.heap.Ns builtinsNs mb) (hbb : ∀ x : Str, x ≠ "__name__" → mb x = bootBuiltins x) (hlim : s.heap.NoLimit) (hg : s.gens = #[])
    (ha : s.heap.get? a = some { cls := .type "list", data := .seq vs.toArray }) (hr : Room k callerA) (F : ∀ base : Heap, K.In base → base.Ns mainGlobals mg → FnG P w K mg base CX k fa fd [x] sp) (hbind : ∀ (s : Shared) (u : Value), BindsTo s fd ⟨[u], []⟩ [(x, u)])
    {H : Hp} (hO : Only H) (hok : HOk P w H s.heap) (hA : ∀ b, H b ≠ none → b = a) (hK : H a ≠ none → K.lookup a = none) (hsp : sp [.ref a] H (fun v _ => v = .bl true) fun _ _ _ => False)
    (hCX : ∀ e s', CX [] H s (fun _ _ _ => False) e s' → False) :
    codeAny (model P w) callerA (.call (.ref fa) ⟨[.ref a], []⟩) (fun r s' => r = .ok (.ret (.bool true)) ∧ OldK s.heap s'.heap ∧ s'.os = s.os ∧ AllBare s'.gens) s := by
  have un_at : ∀ {b : Addr}, b ≠ a → H b = none := fun {b} z => by
    cases q : H b with
    | none => rfl
    | some u => exact absurd (hA b (by rw [q]; simp)) z
  have nsK : ∀ {b : Addr} {m : Str → Option Value}, s.heap.Ns b m → (hidT s.heap H).Ns b m := fun {b m} ⟨o, es, ep, e, d, r⟩ => by
    refine ⟨o, es, ep, hidT_get e (un_at fun z => ?_), d, r⟩
    subst z
    rw [ha] at e
    cases e
    cases d
  have KB : K.In (hidT s.heap H) := fun b o e => hidT_get (KX b o e) (by
    cases q : H b with
    | none => rfl
    | some u =>
      have e' : b = a := hA b (by rw [q]; simp)
      subst e'
      rw [hK (by rw [q]; simp)] at e
      cases e)
  obtain ⟨mc, m1, m2⟩ := hlim
  have e0 : Env0 P w K mg (hidT s.heap H) callerA [] s H :=
    ⟨rfl, ⟨KB, nsK hns, ⟨mb, nsK hb, hbb⟩, ⟨mc, nsK m1, m2⟩⟩, fun b o e => of_hidT e, Nat.le_of_eq (hidT_size _ _), trivial, (fun b hb => absurd (show b ∈ ([] : List Addr) from hb) (by simp)), hok, .of_eq hg⟩
  refine codeAny_mono ((F _ KB (nsK hns)).run callerA [] s H ⟨[.ref a], []⟩ [.ref a] [.ref a] _ _ hr rfl e0 (hbind s (.ref a)) (.cons rfl .nil) hsp) fun r s' h => ?_
  cases r with
  | error e => exact (hCX e s' h).elim
  | ok fl =>
    cases fl with
    | next => exact False.elim h
    | brk => exact False.elim h
    | cont => exact False.elim h
    | ret u =>
      obtain ⟨v, H', os, bare, un, hok', r', q⟩ := h
      cases (show v = .bl true from q)
      cases (show u = Value.bool true from r')
      refine ⟨rfl, OldK.of_keep fun b o e => ?_, os, bare⟩
      rcases hO b with z | ⟨ob, xs, z⟩
      · exact un.keep b o e z (by intro y; exact absurd (show b ∈ ([] : List Addr) from y) (by simp)) (by simp)
      · have e1 := (hok b _ z).1
        have e2 := (hok' b _ (un.frzs b ob _ z)).1
        rw [e] at e1
        cases e1
        exact e2
theorem law_callG (KX : K.In s.heap) (hns : s.heap.Ns mainGlobals mg) (hb : s.heap.Ns builtinsNs mb) (hbb : ∀ x : Str, x ≠ "__name__" → mb x = bootBuiltins x) (hlim : s.heap.NoLimit) (hg : s.gens = #[])
    (ha : s.heap.get? a = some { cls := .type "list", data := .seq vs.toArray }) (hi : IntsAre vs ns) (hl : ns.length ≤ sizeLine) (hr : Room k callerA)
    (F : ∀ base : Heap, K.In base → base.Ns mainGlobals mg → FnG P w K mg base CX k fa fd [x] sp) (hbind : ∀ (s : Shared) (u : Value), BindsTo s fd ⟨[u], []⟩ [(x, u)])
    (hsp : ∀ H : Hp, Only H → SqL K H a (ns.map V.int) → sp [.ref a] H (fun v _ => v = .bl true) fun _ _ _ => False)
    (hCX : ∀ H e s', CX [] H s (fun _ _ _ => False) e s' → False) :
    codeAny (model P w) callerA (.call (.ref fa) ⟨[.ref a], []⟩) (fun r s' => r = .ok (.ret (.bool true)) ∧ OldK s.heap s'.heap ∧ s'.os = s.os ∧ AllBare s'.gens) s := by
  have rv := vals_ints hi
  have lenV := hi.length
  cases hk : K.lookup a with
  | some o =>
    have e := KX a o hk
    rw [ha] at e
    cases e
    have hO : Only fun _ => none := fun _ => .inl rfl
    exact law_at KX hns hb hbb hlim hg ha hr F hbind hO (fun b u z => nomatch z) (fun b z => absurd rfl z) (fun z => absurd rfl z)
      (hsp _ hO (.inr ⟨_, vs.toArray, _, hk, rfl, rfl, rfl, by rw [List.size_toArray, lenV]; exact hl, by simpa using rv⟩)) (hCX _)
  | none =>
    have at_a : (upd (fun _ => none) a (.frz { cls := .type "list", data := .seq vs.toArray } (.lst (ns.map V.int))) : Hp) a = some (.frz { cls := .type "list", data := .seq vs.toArray } (.lst (ns.map V.int))) := upd_same
    have off : ∀ b, b ≠ a → (upd (fun _ => none) a (.frz { cls := .type "list", data := .seq vs.toArray } (.lst (ns.map V.int))) : Hp) b = none := fun b z => by unfold upd; rw [if_neg z]
    have hO : Only (upd (fun _ => none) a (.frz { cls := .type "list", data := .seq vs.toArray } (.lst (ns.map V.int)))) := fun b => by
      by_cases z : b = a
      · subst z; exact .inr ⟨_, _, at_a⟩
      · exact .inl (off b z)
    refine law_at KX hns hb hbb hlim hg ha hr F hbind hO (fun b u z => ?_) (fun b z => ?_) (fun _ => hk) (hsp _ hO (.inl (.inr ⟨_, at_a⟩))) (hCX _)
    · by_cases e : b = a
      · subst e
        rw [at_a] at z
        cases z
        exact ⟨ha, by rw [List.length_map]; exact hl, vs, _, rv, ha⟩
      · rw [off b e] at z; cases z
    · by_cases e : b = a
      · exact e
      · exact absurd (off b e) z
end
/-- the goal behind the head, from the law's promise -/
theorem walkG {l : PySem.W.OpenLaw} {n k : Nat} {q : Program} {loose : List Str} {XP : (Str → Option Value) → Heap → Prop} {YP : World → Heap → Prop} {d : DefRec} {K : Params → PySem.W.Frag} {CX : World → CXT} {sp : World → Sp} {x : Str}
    (hn : l.most = some n) (hn2 : n ≤ sizeLine) (hdf : d.params.defaults = []) (hr : Room k callerA)
    (hY : ∀ (w : World) (h : Heap), YP w h → (K w.params).In h)
    (F : ∀ (w : World) (mg : Str → Option Value) (fa : Addr) (h : Heap), (K w.params).In h → h.Ns mainGlobals mg → mg d.name = some (.ref fa) →
      ∃ fd : FuncData, (∀ (s : Shared) (u : Value), BindsTo s fd ⟨[u], []⟩ [(x, u)]) ∧
        ∀ base : Heap, (K w.params).In base → base.Ns mainGlobals mg → FnG l.prog w (K w.params) mg base (CX w) k fa fd [x] (sp w))
    (hsp : ∀ (w : World) (H : Hp) (a : Addr) (ns : List Int), ns.length ≤ n → (∀ z ∈ ns, Builtin.Int.intBits z ≤ 1048576) → Only H → SqL (K w.params) H a (ns.map V.int) → sp w [.ref a] H (fun v _ => v = .bl true) fun _ _ _ => False)
    (hCX : ∀ (w : World) (H : Hp) (s : Shared) (e : Value) (s' : Shared), CX w [] H s (fun _ _ _ => False) e s' → False) :
    PySem.W.WalkO q loose XP YP l.row.toRowW d [] (fun f vs => PySem.call f vs) := by
  refine Att.attach_callB hn hdf fun w s₀ s₁ mg mb fa o pm cd doc a vs ns G Y ho hd hcd hmg hobj hints hlen hbits hg => ?_
  obtain ⟨fd, hb, hF⟩ := F w mg fa _ (hY w _ Y) G.T.g hmg
  exact law_callG (hY w _ Y) G.T.g G.T.b G.T.builtins G.T.nolimit hg hobj hints (Nat.le_trans hlen hn2) hr hF hb (fun H hO hS => hsp w H a ns hlen hbits hO hS) fun H e s' => hCX w H s₁ e s'
end Z

set_option Elab.async false
set_option linter.all false
set_option maxRecDepth 100000
set_option maxHeartbeats 4000000
/-! Z6: what a def promises about data; calls; a def by its body. -/
namespace Z
open PySem PySem.Spec L2
/-- the arguments of a def: k the first one's place; l what is lent -/
inductive ArgsAt (K : PySem.W.Frag) (F H : Hp) : Nat → List FArg → List V → List (Nat × Addr) → Prop
  | nil {k : Nat} : ArgsAt K F H k [] [] []
  | sh {k : Nat} {as : List FArg} {vs : List V} {l : List (Nat × Addr)} {v : V} {d : D} : At K F v d → ArgsAt K F H (k + 1) as vs l → ArgsAt K F H k (.sh d :: as) (v :: vs) l
  | le {k : Nat} {as : List FArg} {vs : List V} {l : List (Nat × Addr)} {a : Addr} {o : HO} {c : Ow} : H a = some o → OwAt K F o c → F a = none → ArgsAt K F H (k + 1) as vs l → ArgsAt K F H k (.le c :: as) (.ref a :: vs) ((k, a) :: l)
/-- what is lent, behind the call -/
inductive OutsAt (K : PySem.W.Frag) (F H : Hp) : List (Nat × Addr) → List Ow → Prop
  | nil : OutsAt K F H [] []
  | cons {i : Nat} {a : Addr} {l : List (Nat × Addr)} {o : HO} {c : Ow} {cs : List Ow} : H a = some o → OwAt K F o c → OutsAt K F H l cs → OutsAt K F H ((i, a) :: l) (c :: cs)
structure PostD (K : PySem.W.Frag) (F H : Hp) (l : List (Nat × Addr)) (F' H' : Hp) (outs : List Ow) : Prop where
  big : Same F F'
  sub : Same F' H'
  keep : ∀ a o, H a = some o → (∀ i, (i, a) ∉ l) → H' a = some o
  old : ∀ a, H a ≠ none → F a = none → F' a = none
  outs : OutsAt K F' H' l outs
def ResAt (K : PySem.W.Frag) (H F' H' : Hp) (o : Opd) (v : V) : Prop :=
  match o with
  | .va d => At K F' v d
  | .fr c => ∃ a ob, v = .ref a ∧ H' a = some ob ∧ OwAt K F' ob c ∧ F' a = none ∧ H a = none
  | .sl _ => False
/-- a def's promise: on data like this it gives what f gives -/
def spD (K : PySem.W.Frag) (mg : Str → Option Value) (np : Nat) (f : Fn) : Sp := fun vs H Q E => ∃ F args l, vs.length = np ∧ Same F H ∧ ArgsAt K F H 0 args vs l ∧ (l.map (·.2)).Nodup ∧
  match f args with
  | .ok o outs => ∀ v F' H', PostD K F H l F' H' outs → ResAt K H F' H' o v → Q v H'
  | .exc c outs => ∀ F' H', PostD K F H l F' H' outs → ∀ C, mg c = some (.ref C) → E (.ref C) none H'
  | .bad => False
section
variable {K : PySem.W.Frag} {F H : Hp}
theorem ArgsAt.len {k : Nat} {as : List FArg} {vs : List V} {l : List (Nat × Addr)} (h : ArgsAt K F H k as vs l) : as.length = vs.length := by
  induction h with
  | nil => rfl
  | sh _ _ ih => exact congrArg Nat.succ ih
  | le _ _ _ _ ih => exact congrArg Nat.succ ih
theorem ArgsAt.ix {k : Nat} {as : List FArg} {vs : List V} {l : List (Nat × Addr)} (h : ArgsAt K F H k as vs l) : lentIx k as = l.map (·.1) := by
  induction h with
  | nil => rfl
  | sh _ _ ih => exact ih
  | le _ _ _ _ ih => show _ :: _ = _ :: _; rw [ih]
theorem ArgsAt.sh_at {k : Nat} {as : List FArg} {vs : List V} {l : List (Nat × Addr)} (h : ArgsAt K F H k as vs l) : ∀ (i : Nat) (d : D), as[i]? = some (.sh d) → ∃ v, vs[i]? = some v ∧ At K F v d := by
  induction h with
  | nil => intro i d q; simp at q
  | sh h _ ih =>
    intro i d q
    cases i with
    | zero => simp at q; subst q; exact ⟨_, rfl, h⟩
    | succ i => exact ih i d (by simpa using q)
  | le _ _ _ _ ih =>
    intro i d q
    cases i with
    | zero => simp at q
    | succ i => exact ih i d (by simpa using q)
theorem ArgsAt.le_at {k : Nat} {as : List FArg} {vs : List V} {l : List (Nat × Addr)} (h : ArgsAt K F H k as vs l) : ∀ (i : Nat) (a : Addr), (i, a) ∈ l → k ≤ i ∧ ∃ c o, as[i - k]? = some (.le c) ∧ vs[i - k]? = some (.ref a) ∧ H a = some o ∧ OwAt K F o c ∧ F a = none := by
  induction h with
  | nil => intro i a q; cases q
  | @sh k _ _ _ _ _ _ _ ih =>
    intro i a q
    obtain ⟨hk, c, o, h1, h2, h3⟩ := ih i a q
    have e : i - k = (i - (k + 1)) + 1 := by omega
    exact ⟨by omega, c, o, by rw [e]; simpa using h1, by rw [e]; simpa using h2, h3⟩
  | @le k _ _ _ b o c h1 h2 h3 _ ih =>
    intro i a q
    rcases List.mem_cons.mp q with z | q
    · cases z
      exact ⟨Nat.le_refl _, c, o, by simp, by simp, h1, h2, h3⟩
    · obtain ⟨hk, c, o, h1, h2, h3⟩ := ih i a q
      have e : i - k = (i - (k + 1)) + 1 := by omega
      exact ⟨by omega, c, o, by rw [e]; simpa using h1, by rw [e]; simpa using h2, h3⟩
theorem ArgsAt.le_of {k : Nat} {as : List FArg} {vs : List V} {l : List (Nat × Addr)} (h : ArgsAt K F H k as vs l) : ∀ (i : Nat) (c : Ow), as[i]? = some (.le c) → ∃ a, (i + k, a) ∈ l := by
  induction h with
  | nil => intro i c q; simp at q
  | @sh k _ _ _ _ _ _ _ ih =>
    intro i c q
    cases i with
    | zero => simp at q
    | succ i =>
      obtain ⟨a, ha⟩ := ih i c (by simpa using q)
      exact ⟨a, by rw [show i + 1 + k = i + (k + 1) by omega]; exact ha⟩
  | @le k _ _ _ b _ _ _ _ _ _ ih =>
    intro i c q
    cases i with
    | zero => exact ⟨b, by simp⟩
    | succ i =>
      obtain ⟨a, ha⟩ := ih i c (by simpa using q)
      exact ⟨a, List.mem_cons_of_mem _ (by rw [show i + 1 + k = i + (k + 1) by omega]; exact ha)⟩
theorem slot_start {as : List FArg} {m i : Nat} {s : Slot} (h : slotAt (as.map slotA ++ List.replicate m none) i = some s) : ∃ x, as[i]? = some x ∧ slotA x = some s := by
  unfold slotAt at h
  by_cases hi : i < as.length
  · rw [List.getElem?_append_left (by simpa using hi), List.getElem?_map, List.getElem?_eq_getElem hi] at h
    exact ⟨as[i], List.getElem?_eq_getElem hi, h⟩
  · rw [List.getElem?_append_right (by simpa using hi), List.getElem?_replicate] at h
    split at h <;> cases h
theorem nodup_snd {l : List (Nat × Addr)} (hn : (l.map (·.2)).Nodup) {i j : Nat} {a : Addr} (h1 : (i, a) ∈ l) (h2 : (j, a) ∈ l) : i = j := by
  induction l with
  | nil => cases h1
  | cons p r ih =>
    rw [List.map_cons, List.nodup_cons] at hn
    rcases List.mem_cons.mp h1 with e1 | h1
    · rcases List.mem_cons.mp h2 with e2 | h2
      · rw [← e1] at e2; exact (congrArg Prod.fst e2).symm
      · exact absurd (List.mem_map.mpr ⟨(j, a), h2, by rw [← e1]⟩) hn.1
    · rcases List.mem_cons.mp h2 with e2 | h2
      · exact absurd (List.mem_map.mpr ⟨(i, a), h1, by rw [← e2]⟩) hn.1
      · exact ih hn.2 h1 h2
theorem rep_start {as : List FArg} {vs : List V} {l : List (Nat × Addr)} {N : List Str} (s : Same F H) (h : ArgsAt K F H 0 as vs l) (hn : (l.map (·.2)).Nodup) (hl : vs.length ≤ N.length) :
    Rep K ⟨H, F, l, []⟩ [] (as.map slotA ++ List.replicate (N.length - as.length) none) (L2.start N vs) F H := by
  have sσ : ∀ {i : Nat} {v : V}, vs[i]? = some v → (L2.start N vs)[i]? = some (some v) := fun {i v} q => by
    have hi := (List.getElem?_eq_some_iff.mp q).1
    unfold L2.start
    rw [List.getElem?_append_left (by simpa using hi), List.getElem?_map, q]; rfl
  have sE : ∀ {i : Nat} {x : FArg}, as[i]? = some x → slotAt (as.map slotA ++ List.replicate (N.length - as.length) none) i = slotA x := fun {i x} q => by
    have hi := (List.getElem?_eq_some_iff.mp q).1
    unfold slotAt
    rw [List.getElem?_append_left (by simpa using hi), List.getElem?_map, q]; rfl
  refine ⟨s, fun a o q _ => q, fun a q1 q2 => q2, Same.refl _, ?_, fun i d q => ?_, fun i c q => ?_, fun i a q => ?_, fun i c q => ?_, fun i a q => (by cases q), fun i c q => ?_, fun p hp => (by cases hp), List.nodup_nil, fun p hp => (by cases hp), fun i j a c c' q1 q2 q3 q4 => ?_⟩
  · unfold L2.start
    rw [List.length_append, List.length_append, List.length_map, List.length_map, List.length_replicate, List.length_replicate, h.len]
  · obtain ⟨x, hx, e⟩ := slot_start q
    cases x with
    | sh d' =>
      simp only [slotA, Option.some.injEq, Slot.sh.injEq] at e
      subst e
      obtain ⟨v, h1, h2⟩ := h.sh_at i _ hx
      exact ⟨v, sσ h1, h2⟩
    | le c => simp at e
  · obtain ⟨x, hx, e⟩ := slot_start q
    cases x <;> simp at e
  · obtain ⟨_, c, o, h1, h2, h3, h4, h5⟩ := h.le_at i a q
    exact ⟨c, o, (sE h1).trans rfl, sσ h2, h3, h4, h5, by show H a ≠ none; rw [h3]; simp⟩
  · obtain ⟨x, hx, e⟩ := slot_start q
    cases x with
    | sh d' => simp at e
    | le c' =>
      obtain ⟨a, ha⟩ := h.le_of i c' hx
      exact ⟨a, ha⟩
  · obtain ⟨x, hx, e⟩ := slot_start q
    cases x <;> simp at e
  · have is_le : ∀ {i : Nat} {c : Ow}, anyAt (as.map slotA ++ List.replicate (N.length - as.length) none) i = some c → (L2.start N vs)[i]? = some (some (.ref a)) → (i, a) ∈ l := fun {i c} q z => by
      rcases any_cases q with q | q | q
      · obtain ⟨x, hx, e⟩ := slot_start q
        cases x <;> simp at e
      · obtain ⟨x, hx, e⟩ := slot_start q
        cases x with
        | sh d' => simp at e
        | le c' =>
          obtain ⟨b, hb⟩ := h.le_of i c' hx
          obtain ⟨_, _, _, _, h2, _⟩ := h.le_at i b hb
          rw [Nat.sub_zero] at h2
          rw [sσ h2] at z
          cases z
          exact hb
      · obtain ⟨x, hx, e⟩ := slot_start q
        cases x <;> simp at e
    exact nodup_snd hn (is_le q1 q3) (is_le q2 q4)
/-- the end of a body -/
theorem rep_end {l : List (Nat × Addr)} {env : DEnv} {σ : L2.St} {F' H' : Hp} {cs : List Ow} (r : Rep K ⟨H, F, l, []⟩ [] env σ F' H') (e : outsOf env (l.map (·.1)) = some cs) : PostD K F H l F' H' cs := by
  refine ⟨r.big, r.sub, r.keep, r.old, ?_⟩
  have go : ∀ (l2 : List (Nat × Addr)) (cs : List Ow), (∀ p ∈ l2, p ∈ l) → outsOf env (l2.map (·.1)) = some cs → OutsAt K F' H' l2 cs := by
    intro l2
    induction l2 with
    | nil => intro cs _ e; cases e; exact .nil
    | cons p l2 ih =>
      obtain ⟨i, a⟩ := p
      intro cs hs e
      obtain ⟨c, o, h1, h2, h3, h4, _⟩ := r.le i a (hs _ List.mem_cons_self)
      rw [List.map_cons] at e
      unfold outsOf at e
      rw [h1] at e
      simp only [Option.map_eq_some_iff] at e
      obtain ⟨cs', e1, rfl⟩ := e
      exact .cons h3 h4 (ih cs' (fun p hp => hs p (List.mem_cons_of_mem _ hp)) e1)
  exact go l cs (fun p hp => hp) e
theorem res_end {l : List (Nat × Addr)} {env : DEnv} {σ : L2.St} {F' H' : Hp} {o o' : Opd} {v : V} (r : Rep K ⟨H, F, l, []⟩ [] env σ F' H') (k : OpdAt K ⟨H, F, l, []⟩ [] env σ F' H' o v) (e : Z.leave o env = some o') : ResAt K H F' H' o' v := by
  cases o with
  | va d => simp at e; subst e; exact k
  | fr c =>
    simp at e; subst e
    obtain ⟨a, ob, k1, k2, k3, k4, k5, _⟩ := k
    exact ⟨a, ob, k1, k2, k3, k4, k5⟩
  | sl i =>
    have k : σ[i]? = some (some v) := k
    simp only [Z.leave] at e
    split at e
    · rename_i d hs
      cases e
      obtain ⟨u, h1, h2⟩ := r.sh i _ hs
      rw [k] at h1; cases h1
      exact h2
    · rename_i c hs
      cases e
      obtain ⟨a, ob, h1, h2, h3, h4, h5⟩ := r.ow i _ hs
      rw [k] at h1; cases h1
      exact ⟨a, ob, rfl, h2, h3, h4, h5⟩
    · cases e
end
section
variable {P : Program} {w : World} {K : PySem.W.Frag} {mg : Str → Option Value} {base : Heap}
/-- THE RULE for a def: its body over data -/
theorem fn_body {x qual : Str} {st : Stmt} {f : Addr} {fd : FuncData} {N ps : List Str} {k : Nat} {body : S} (Fu : Fun K x qual st f fd) (Sc : FnScope N ps (defScope st))
    (hb : ∀ (cdv : Value) (A : Around) (outer : List PySem.Env) (s : Shared) (H : Hp) (E : XK), Room k (A.deeper (PyProof.Rows.envOfC qual (defScope st) s.heap.objs.size f cdv)) → A.guards = some [] →
      DSs (cxOf (L2.CX P w) P w K mg base N qual (defScope st) f cdv A outer s H E) (fun cls d _ H' => E cls d H') (defBody st) body) :
    FnG P w K mg base (L2.CX P w) (k + 1) f fd ps (spD K mg ps.length (runD ps.length N.length body)) := by
  refine fnG_of Fu Sc (fun vs H Q E h => h.choose_spec.choose_spec.choose_spec.1) fun cdv A outer s H vs Q E hr hg h => ?_
  refine ⟨_, hb cdv A outer s H E hr hg, ?_⟩
  obtain ⟨F, args, l, hv, sF, ha, hn, h⟩ := h
  have hal : args.length = ps.length := by rw [ha.len, hv]
  have hpn : ps.length ≤ N.length := by
    have := congrArg List.length Sc.pre
    rw [List.length_take] at this
    omega
  unfold runD at h
  rw [if_pos ⟨hal, hpn⟩, ha.ix] at h
  refine ⟨⟨H, F, l, []⟩, [], _, F, rep_start (N := N) sF ha hn (by rw [hv]; exact hpn), ?_⟩
  cases e : body (args.map slotA ++ List.replicate (N.length - args.length) none) with
  | bad => rw [e] at h; exact h
  | exc c env =>
    rw [e] at h
    intro σ F' H' r C hC
    simp only at h
    cases e2 : outsOf env (l.map (·.1)) with
    | none => rw [e2] at h; exact h.elim
    | some cs =>
      rw [e2] at h
      exact h F' H' (rep_end r e2) C hC
  | ok fl env =>
    rw [e] at h
    have fin : ∀ (o : Opd), (match endOf (l.map (·.1)) o env with
        | .ok o outs => ∀ v F' H', PostD K F H l F' H' outs → ResAt K H F' H' o v → Q v H'
        | .exc c outs => ∀ F' H', PostD K F H l F' H' outs → ∀ C, mg c = some (.ref C) → E (.ref C) none H'
        | .bad => False) → ∀ σ F' H' v, Rep K ⟨H, F, l, []⟩ [] env σ F' H' → OpdAt K ⟨H, F, l, []⟩ [] env σ F' H' o v → Q v H' := by
      intro o h σ F' H' v r k
      unfold endOf at h
      cases e1 : Z.leave o env with
      | none => rw [e1] at h; exact h.elim
      | some o' =>
        cases e2 : outsOf env (l.map (·.1)) with
        | none => rw [e1, e2] at h; exact h.elim
        | some cs =>
          rw [e1, e2] at h
          exact h v F' H' (rep_end r e2) (res_end r k e1)
    cases fl with
    | nx => exact fun σ F' H' _ r => fin (.va .none) h σ F' H' .non r .non
    | rt o => exact fun σ F' H' _ r v k => fin o h σ F' H' v r k
    | bk => exact h.elim
    | ct => exact h.elim
/-- a def whose function of data is another one where that answers -/
theorem fn_imp {f : Addr} {fd : FuncData} {ps : List Str} {k np : Nat} {g g' : Fn} (h : FnG P w K mg base (L2.CX P w) k f fd ps (spD K mg np g)) (hg : ∀ args, g' args ≠ .bad → g' args = g args) : FnG P w K mg base (L2.CX P w) k f fd ps (spD K mg np g') := by
  refine h.imp fun vs H Q E ⟨F, args, l, hv, sF, ha, hn, q⟩ => ⟨F, args, l, hv, sF, ha, hn, ?_⟩
  by_cases e : g' args = .bad
  · rw [e] at q; exact q.elim
  · rw [← hg args e]; exact q
end
end Z

set_option Elab.async false
set_option linter.all false
set_option maxRecDepth 100000
set_option maxHeartbeats 4000000
/-! Z7: calls. -/
namespace Z
open PySem PySem.Spec L2
inductive ArgAt (K : PySem.W.Frag) (F : Hp) (σ : L2.St) : List Arg → List V → Prop
  | nil : ArgAt K F σ [] []
  | d {as : List Arg} {vs : List V} {v : V} {d : D} : At K F v d → ArgAt K F σ as vs → ArgAt K F σ (.d d :: as) (v :: vs)
  | le {as : List Arg} {vs : List V} {v : V} {i : Nat} : σ[i]? = some (some v) → ArgAt K F σ as vs → ArgAt K F σ (.le i :: as) (v :: vs)
  | bo {as : List Arg} {vs : List V} {v : V} {i : Nat} : σ[i]? = some (some v) → ArgAt K F σ as vs → ArgAt K F σ (.bo i :: as) (v :: vs)
theorem ArgAt.len {K : PySem.W.Frag} {F : Hp} {σ : L2.St} {as : List Arg} {vs : List V} (h : ArgAt K F σ as vs) : as.length = vs.length := by
  induction h with
  | nil => rfl
  | d _ _ ih => exact congrArg Nat.succ ih
  | le _ _ ih => exact congrArg Nat.succ ih
  | bo _ _ ih => exact congrArg Nat.succ ih
theorem ArgAt.mono {K : PySem.W.Frag} {F F' : Hp} {σ : L2.St} (s : Same F F') {as : List Arg} {vs : List V} (h : ArgAt K F σ as vs) : ArgAt K F' σ as vs := by
  induction h with
  | nil => exact .nil
  | d k _ ih => exact .d (At.mono s k) ih
  | le k _ ih => exact .le k ih
  | bo k _ ih => exact .bo k ih
def tA (X : Cx) (W : WX) (f : As) : TA := fun σ H Q => ∃ B tm env F, Rep X.K B tm env σ F H ∧
  RQ X W B tm σ (fun as env' => ∀ vs F' H', Same F F' → Rep X.K B tm env' σ F' H' → ArgAt X.K F' σ as vs → Q vs H') (f env)
abbrev DA (X : Cx) (W : WX) (es : List Expr) (f : As) : Prop := PA X es (tA X W f)
section
variable {X : Cx} {W : WX} {e : Expr} {es : List Expr} {fe : E} {fa : As} {pos : Pos}
theorem da_nil : DA X W [] aNil := PA.imp pa_nil fun σ H Q ⟨B, tm, env, F, r, h⟩ => h [] F H (Same.refl _) r .nil
theorem da_sh (ha : DE X W e fe) (hr : DA X W es fa) (hs : starEach (e :: es) X.env = (false, eval e X.env) :: starEach es X.env := by rfl) : DA X W (e :: es) (aSh fe fa) := by
  refine PA.imp (pa_cons ha hr hs) fun σ H Q ⟨B, tm, env, F, r, h⟩ => ?_
  refine ⟨B, tm, env, F, r, (RQ.bind h).imp fun o env1 h1 v F1 H1 s1 r1 o1 => ?_⟩
  cases e1 : share o env1 with
  | bad => rw [e1] at h1; exact h1.elim
  | exc c env2 => exact absurd e1 share_no_exc
  | ok d env2 =>
    rw [e1, bind_ok] at h1
    obtain ⟨F2, s2, r2, k2⟩ := r1.share o1 e1
    refine ⟨B, tm, env2, F2, r2, (RQ.bind h1).imp fun as env3 h3 vs F3 H3 s3 r3 k3 => ?_⟩
    exact h3 (v :: vs) F3 H3 (s1.trans (s2.trans s3)) r3 (.d (At.mono s3 k2) k3)
theorem da_le (i : Nat) {x : Str} (hr : DA X W es fa) (hN : X.N[i]? = some x := by rfl) (hv : Vis X.env.scope x := by first | exact Or.inl rfl | exact Or.inr (Or.inl rfl) | exact Or.inr (Or.inr rfl)) (hd : (x == ("__debug__" : Str)) = false := by decide)
    (hcd : (x == ("__classdict__" : Str)) = false := by decide) (hs : starEach (.Name x pos :: es) X.env = (false, eval (.Name x pos) X.env) :: starEach es X.env := by rfl) : DA X W (.Name x pos :: es) (aLe i fa) := by
  refine PA.imp (pa_cons (pe_var hN hv hd hcd) hr hs) fun σ H Q ⟨B, tm, env, F, r, h⟩ => ?_
  simp only [aLe] at h
  cases e1 : ownAt env i with
  | none => rw [e1] at h; exact h.elim
  | some c =>
    rw [e1] at h
    obtain ⟨a, o, h1, _⟩ := r.own (any_of_own e1)
    refine ⟨_, h1, B, tm, env, F, r, (RQ.bind h).imp fun as env3 h3 vs F3 H3 s3 r3 k3 => ?_⟩
    exact h3 (.ref a :: vs) F3 H3 s3 r3 (.le h1 k3)
theorem da_bo (i : Nat) {x : Str} (hr : DA X W es fa) (hN : X.N[i]? = some x := by rfl) (hv : Vis X.env.scope x := by first | exact Or.inl rfl | exact Or.inr (Or.inl rfl) | exact Or.inr (Or.inr rfl)) (hd : (x == ("__debug__" : Str)) = false := by decide)
    (hcd : (x == ("__classdict__" : Str)) = false := by decide) (hs : starEach (.Name x pos :: es) X.env = (false, eval (.Name x pos) X.env) :: starEach es X.env := by rfl) : DA X W (.Name x pos :: es) (aBo i fa) := by
  refine PA.imp (pa_cons (pe_var hN hv hd hcd) hr hs) fun σ H Q ⟨B, tm, env, F, r, h⟩ => ?_
  simp only [aBo] at h
  split at h
  · rename_i d hs
    obtain ⟨v, h1, k1⟩ := r.sh i d hs
    refine ⟨v, h1, B, tm, env, F, r, (RQ.bind h).imp fun as env3 h3 vs F3 H3 s3 r3 k3 => ?_⟩
    exact h3 (v :: vs) F3 H3 s3 r3 (.d (At.mono s3 k1) k3)
  · rename_i c hs
    obtain ⟨a, o, h1, _⟩ := r.own (any_of_ow hs)
    refine ⟨_, h1, B, tm, env, F, r, (RQ.bind h).imp fun as env3 h3 vs F3 H3 s3 r3 k3 => ?_⟩
    exact h3 (.ref a :: vs) F3 H3 s3 r3 (.bo h1 k3)
  · rename_i c hs
    obtain ⟨a, o, h1, _⟩ := r.own (any_of_le hs)
    refine ⟨_, h1, B, tm, env, F, r, (RQ.bind h).imp fun as env3 h3 vs F3 H3 s3 r3 k3 => ?_⟩
    exact h3 (.ref a :: vs) F3 H3 s3 r3 (.bo h1 k3)
  · exact h.elim
end

/-! ### objects that are read by a callee -/
open Classical in
noncomputable def plusF (F H : Hp) (S : Addr → Prop) : Hp := fun a => if S a then H a else F a
open Classical in
noncomputable def minusF (F : Hp) (S : Addr → Prop) : Hp := fun a => if S a then none else F a
section
variable {K : PySem.W.Frag} {F H : Hp} {S : Addr → Prop}
theorem minus_out {a : Addr} (h : ¬ S a) : minusF F S a = F a := by unfold minusF; rw [if_neg h]
theorem minus_in {a : Addr} (h : S a) : minusF F S a = none := by unfold minusF; rw [if_pos h]
theorem minus_none {a : Addr} (h : F a = none) : minusF F S a = none := by unfold minusF; split <;> simp [h]
theorem minus_some {a : Addr} {o : HO} (h : minusF F S a = some o) : ¬ S a ∧ F a = some o := by
  unfold minusF at h
  split at h
  · cases h
  · exact ⟨‹_›, h⟩
theorem sqt_minus {a : Addr} {xs : List V} (hS : ∀ a, S a → ∀ xs, ¬ Rd F a (.tup xs)) (h : SqT K F a xs) : SqT K (minusF F S) a xs := by
  rcases h with h | h
  · have n : ¬ S a := fun z => hS a z xs h
    rcases h with h | ⟨o, h⟩
    · exact .inl (.inl (by rw [minus_out n]; exact h))
    · exact .inl (.inr ⟨o, by rw [minus_out n]; exact h⟩)
  · exact .inr h
mutual
theorem At.minus (hS : ∀ a, S a → ∀ xs, ¬ Rd F a (.tup xs)) : ∀ {d : D} {v : V}, fz d = true → At K F v d → At K (minusF F S) v d
  | .none, _, _, .non => .non
  | .bool _, _, _, .bl b => .bl b
  | .int _, _, _, .int i => .int i
  | .str _, _, _, .str x => .str x
  | .tuple ds, _, n, .tup h t => .tup (by rw [minus_out (fun z => hS _ z _ (.inl h))]; exact h) (AtAll.minus hS (by simpa [fz] using n) t)
  | .list _, _, n, _ => by simp [fz] at n
  | .dict _, _, n, _ => by simp [fz] at n
theorem AtAll.minus (hS : ∀ a, S a → ∀ xs, ¬ Rd F a (.tup xs)) : ∀ {ds : List D} {vs : List V}, fzAll ds = true → AtAll K F vs ds → AtAll K (minusF F S) vs ds
  | [], _, _, .nil => .nil
  | d :: ds, _, n, .cons h t => by
    have n' : fz d = true ∧ fzAll ds = true := by simpa [fzAll] using n
    exact .cons (At.minus hS n'.1 h) (AtAll.minus hS n'.2 t)
end
theorem OwAt.minus (hS : ∀ a, S a → ∀ xs, ¬ Rd F a (.tup xs)) {o : HO} {c : Ow} (n : fzOw c = true) (h : OwAt K F o c) : OwAt K (minusF F S) o c := by
  cases h with
  | ls k => exact .ls (AtAll.minus hS n k)
  | dk e k => exact .dk e (AtAll.minus hS n k)
  | dt e k => exact .dt e (AtAll.minus hS n k)
end
/-! ### what is lent, by slots -/
inductive LA (σ : L2.St) : List Nat → List (Nat × Addr) → Prop
  | nil : LA σ [] []
  | cons {i k : Nat} {a : Addr} {is : List Nat} {l : List (Nat × Addr)} : σ[i]? = some (some (.ref a)) → LA σ is l → LA σ (i :: is) ((k, a) :: l)
theorem LA.mem {σ : L2.St} {is : List Nat} {l : List (Nat × Addr)} (h : LA σ is l) : ∀ {k : Nat} {a : Addr}, (k, a) ∈ l → ∃ i ∈ is, σ[i]? = some (some (.ref a)) := by
  induction h with
  | nil => intro k a q; cases q
  | cons h _ ih =>
    intro k a q
    rcases List.mem_cons.mp q with z | q
    · cases z; exact ⟨_, List.mem_cons_self, h⟩
    · obtain ⟨i, hi, e⟩ := ih q
      exact ⟨i, List.mem_cons_of_mem _ hi, e⟩
theorem LA.outs {K : PySem.W.Frag} {F H : Hp} {σ : L2.St} {is : List Nat} {l : List (Nat × Addr)} (h : LA σ is l) : ∀ {cs : List Ow}, OutsAt K F H l cs → ∀ {n j : Nat} {c : Ow}, is[n]? = some j → cs[n]? = some c →
    ∃ a o, σ[j]? = some (some (.ref a)) ∧ H a = some o ∧ OwAt K F o c := by
  induction h with
  | nil => intro cs _ n j c q; simp at q
  | cons h _ ih =>
    intro cs ho n j c q1 q2
    cases ho with
    | cons k1 k2 kr =>
      cases n with
      | zero => simp at q1 q2; subst q1; subst q2; exact ⟨_, _, h, k1, k2⟩
      | succ n => exact ih kr (by simpa using q1) (by simpa using q2)
theorem setOw_slot {env : DEnv} {i j : Nat} {c : Ow} : slotAt (setOw env i c) j = if i = j then (slotAt env j).map (reC · c) else slotAt env j := by
  unfold setOw
  cases e : slotAt env i with
  | none =>
    by_cases h : i = j
    · subst h; rw [if_pos rfl, e]; rfl
    · rw [if_neg h]
  | some s =>
    show slotAt (env.set i (some (reC s c))) j = _
    rw [slotAt_set (slotAt_lt e)]
    by_cases h : i = j
    · subst h; rw [if_pos rfl, if_pos rfl, e]; rfl
    · rw [if_neg h, if_neg h]
theorem setOw_len {env : DEnv} {i : Nat} {c : Ow} : (setOw env i c).length = env.length := by
  unfold setOw
  cases slotAt env i with
  | none => rfl
  | some s => exact List.length_set ..
theorem setOws_slot : ∀ {args : List Arg} {outs : List Ow} {env env2 : DEnv}, setOws env args outs = some env2 → (leIx args).Nodup → env2.length = env.length ∧ (∀ j, j ∉ leIx args → slotAt env2 j = slotAt env j) ∧
    ∀ j ∈ leIx args, ∃ (n : Nat) (c : Ow), (leIx args)[n]? = some j ∧ outs[n]? = some c ∧ slotAt env2 j = (slotAt env j).map (reC · c)
  | [], [], env, env2, h, _ => by
    cases h
    exact ⟨rfl, fun _ _ => rfl, fun j hj => by cases hj⟩
  | [], _ :: _, _, _, h, _ => by cases h
  | .d _ :: r, outs, env, env2, h, hn => setOws_slot (args := r) h hn
  | .bo _ :: r, outs, env, env2, h, hn => setOws_slot (args := r) h hn
  | .le i :: r, [], _, _, h, _ => by cases h
  | .le i :: r, c :: cs, env, env2, h, hn => by
    have hn' : i ∉ leIx r ∧ (leIx r).Nodup := List.nodup_cons.mp hn
    obtain ⟨h1, h2, h3⟩ := setOws_slot (args := r) (env := setOw env i c) h hn'.2
    refine ⟨h1.trans setOw_len, fun j hj => ?_, fun j hj => ?_⟩
    · have hj' : j ≠ i ∧ j ∉ leIx r := by
        constructor
        · intro z; exact hj (z ▸ List.mem_cons_self)
        · intro z; exact hj (List.mem_cons_of_mem _ z)
      rw [h2 j hj'.2, setOw_slot, if_neg (fun z => hj'.1 z.symm)]
    · rcases List.mem_cons.mp (show j ∈ i :: leIx r from hj) with z | z
      · subst z
        exact ⟨0, c, rfl, rfl, by rw [h2 j hn'.1, setOw_slot, if_pos rfl]⟩
      · obtain ⟨n, c', q1, q2, q3⟩ := h3 j z
        have e : i ≠ j := fun e => hn'.1 (e ▸ z)
        exact ⟨n + 1, c', q1, q2, by rw [q3, setOw_slot, if_neg e]⟩
theorem fargs_own : ∀ {args : List Arg} {env : DEnv} {fas : List FArg}, fargs env args = some fas → (∀ i ∈ leIx args, ∃ c, ownAt env i = some c) ∧ ∀ i ∈ boIx args, ∃ c, ownAt env i = some c
  | [], _, _, _ => ⟨fun i h => (by cases h), fun i h => (by cases h)⟩
  | .d _ :: r, env, fas, h => by
    unfold fargs at h
    simp only [Option.map_eq_some_iff] at h
    obtain ⟨fr, h1, _⟩ := h
    exact fargs_own (args := r) h1
  | .le i :: r, env, fas, h => by
    unfold fargs at h
    cases e : ownAt env i with
    | none => rw [e] at h; cases h
    | some c =>
      rw [e] at h
      simp only [Option.map_eq_some_iff] at h
      obtain ⟨fr, h1, _⟩ := h
      obtain ⟨q1, q2⟩ := fargs_own (args := r) h1
      refine ⟨fun j hj => ?_, q2⟩
      rcases List.mem_cons.mp (show j ∈ i :: leIx r from hj) with z | z
      · subst z; exact ⟨c, e⟩
      · exact q1 j z
  | .bo i :: r, env, fas, h => by
    unfold fargs at h
    cases e : ownAt env i with
    | none => rw [e] at h; cases h
    | some c =>
      rw [e] at h
      simp only [Option.map_eq_some_iff] at h
      obtain ⟨fr, h1, _⟩ := h
      obtain ⟨q1, q2⟩ := fargs_own (args := r) h1
      refine ⟨q1, fun j hj => ?_⟩
      rcases List.mem_cons.mp (show j ∈ i :: boIx r from hj) with z | z
      · subst z; exact ⟨c, e⟩
      · exact q2 j z
/-- the objects that are read -/
def boS (σ : L2.St) (env : DEnv) (args : List Arg) : Addr → Prop := fun a => ∃ i ∈ boIx args, (∃ c, ownAt env i = some c) ∧ σ[i]? = some (some (.ref a))
section
variable {K : PySem.W.Frag} {B : Base} {tm : List (Addr × HO)} {env env2 : DEnv} {σ : L2.St} {F H F' H' : Hp} {args : List Arg} {fas : List FArg} {l : List (Nat × Addr)} {outs : List Ow}
theorem boS_own (r : Rep K B tm env σ F H) {a : Addr} (h : boS σ env args a) : ∃ o c, H a = some o ∧ OwAt K F o c ∧ F a = none := by
  obtain ⟨i, _, ⟨c, hc⟩, e⟩ := h
  obtain ⟨b, o, h1, h2, h3, h4⟩ := r.own (any_of_own hc)
  rw [e] at h1; cases h1
  exact ⟨o, c, h2, h3, h4⟩
theorem plus_same (r : Rep K B tm env σ F H) : Same F (plusF F H (boS σ env args)) := fun a o q => by
  have n : ¬ boS σ env args a := fun z => by
    obtain ⟨_, _, _, _, h⟩ := boS_own r z
    rw [q] at h; cases h
  unfold plusF; rw [if_neg n]; exact q
theorem plus_sub (r : Rep K B tm env σ F H) : Same (plusF F H (boS σ env args)) H := fun a o q => by
  unfold plusF at q
  split at q
  · exact q
  · exact r.sub a o q
theorem args_at (r : Rep K B tm env σ F H) (ok : okArgs args = true) : ∀ {as : List Arg} {fas : List FArg} {vs : List V} (k : Nat), (∀ i ∈ leIx as, i ∈ leIx args) → (∀ i ∈ boIx as, i ∈ boIx args) → ArgAt K F σ as vs → fargs env as = some fas →
    ∃ l, ArgsAt K (plusF F H (boS σ env args)) H k fas vs l ∧ LA σ (leIx as) l := by
  have ok' : (leIx args).Nodup ∧ ∀ i ∈ boIx args, i ∉ leIx args := by
    unfold okArgs at ok
    rw [Bool.and_eq_true, decide_eq_true_eq, List.all_eq_true] at ok
    exact ⟨ok.1, fun i hi => of_decide_eq_true (ok.2 i hi)⟩
  intro as
  induction as with
  | nil =>
    intro fas vs k _ _ h e
    cases h; cases e
    exact ⟨[], .nil, .nil⟩
  | cons a r' ih =>
    intro fas vs k hle hbo h e
    cases h with
    | @d _ vs v d0 k0 kr =>
      unfold fargs at e
      simp only [Option.map_eq_some_iff] at e
      obtain ⟨fr, e1, rfl⟩ := e
      obtain ⟨l, h1, h2⟩ := ih (k + 1) hle hbo kr e1
      exact ⟨l, .sh (At.mono (plus_same r) k0) h1, h2⟩
    | @le _ vs v i k0 kr =>
      unfold fargs at e
      cases ec : ownAt env i with
      | none => rw [ec] at e; cases e
      | some c =>
        rw [ec] at e
        simp only [Option.map_eq_some_iff] at e
        obtain ⟨fr, e1, rfl⟩ := e
        obtain ⟨l, h1, h2⟩ := ih (k + 1) (fun j hj => hle j (List.mem_cons_of_mem _ hj)) hbo kr e1
        obtain ⟨b, o, q1, q2, q3, q4⟩ := r.own (any_of_own ec)
        rw [k0] at q1; cases q1
        refine ⟨(k, b) :: l, .le q2 (q3.mono (plus_same r)) ?_ h1, .cons k0 h2⟩
        have n : ¬ boS σ env args b := fun ⟨j, hj, ⟨c', hc'⟩, ej⟩ => by
          have := r.one i j b c c' (any_of_own ec) (any_of_own hc') k0 ej
          subst this
          exact ok'.2 i hj (hle i List.mem_cons_self)
        unfold plusF; rw [if_neg n]; exact q4
    | @bo _ vs v i k0 kr =>
      unfold fargs at e
      cases ec : ownAt env i with
      | none => rw [ec] at e; cases e
      | some c =>
        rw [ec] at e
        simp only [Option.map_eq_some_iff] at e
        obtain ⟨fr, e1, rfl⟩ := e
        obtain ⟨l, h1, h2⟩ := ih (k + 1) hle (fun j hj => hbo j (List.mem_cons_of_mem _ hj)) kr e1
        obtain ⟨b, o, q1, q2, q3, q4⟩ := r.own (any_of_own ec)
        rw [k0] at q1; cases q1
        have inS : boS σ env args b := ⟨i, hbo i List.mem_cons_self, ⟨c, ec⟩, k0⟩
        exact ⟨l, .sh (OwAt.at (plus_same r) (by unfold plusF; rw [if_pos inS]; exact q2) q3) h1, h2⟩
theorem la_nodup (r : Rep K B tm env σ F H) {is : List Nat} (hn : is.Nodup) (hc : ∀ i ∈ is, ∃ c, ownAt env i = some c) (h : LA σ is l) : (l.map (·.2)).Nodup := by
  induction h with
  | nil => exact List.nodup_nil
  | @cons i k a is l h hr ih =>
    have hn' := List.nodup_cons.mp hn
    rw [List.map_cons, List.nodup_cons]
    refine ⟨fun hm => ?_, ih hn'.2 fun j hj => hc j (List.mem_cons_of_mem _ hj)⟩
    obtain ⟨⟨k', b⟩, hp, eb⟩ := List.mem_map.mp hm
    have eb : b = a := eb
    subst eb
    obtain ⟨j, hj, ej⟩ := hr.mem hp
    obtain ⟨c, ec⟩ := hc i List.mem_cons_self
    obtain ⟨c', ec'⟩ := hc j (List.mem_cons_of_mem _ hj)
    have := r.one i j b c c' (any_of_own ec) (any_of_own ec') h ej
    subst this
    exact hn'.1 hj
/-- the state behind a call -/
theorem rep_call (r : Rep K B tm env σ F H) (hn : (leIx args).Nodup) (hle : ∀ i ∈ leIx args, ∃ c, ownAt env i = some c) (hl : LA σ (leIx args) l)
    (hp : PostD K (plusF F H (boS σ env args)) H l F' H' outs) (hs : setOws env args outs = some env2) (hf : boIx args = [] ∨ outs.all fzOw = true) :
    Rep K B tm env2 σ (minusF F' (boS σ env args)) H' ∧ Same F (minusF F' (boS σ env args)) ∧ (∀ a, boS σ env args a → ∀ xs, ¬ Rd F' a (.tup xs)) := by
  have hpF := plus_same (args := args) r
  have s1 : Same F F' := hpF.trans hp.big
  have inF' : ∀ a, boS σ env args a → ∃ o c, F' a = some o ∧ OwAt K F o c := fun a h => by
    obtain ⟨o, c, h1, h2, h3⟩ := boS_own r h
    exact ⟨o, c, hp.big a o (by unfold plusF; rw [if_pos h]; exact h1), h2⟩
  have noT : ∀ a, boS σ env args a → ∀ xs, ¬ Rd F' a (.tup xs) := fun a h xs z => by
    obtain ⟨o, c, h1, h2⟩ := inF' a h
    rcases z with z | ⟨u, z⟩ <;> rw [h1] at z <;> cases z <;> cases h2
  have s2 : Same F (minusF F' (boS σ env args)) := fun a o q => by
    have n : ¬ boS σ env args a := fun z => by
      obtain ⟨_, _, _, _, h⟩ := boS_own r z
      rw [q] at h; cases h
    rw [minus_out n]; exact s1 a o q
  refine ⟨?_, s2, noT⟩
  -- an object that stands aside or is owned: not frozen by the callee
  have none' : ∀ a, H a ≠ none → F a = none → minusF F' (boS σ env args) a = none := fun a h1 h2 => by
    by_cases z : boS σ env args a
    · exact minus_in z
    · rw [minus_out z]
      exact hp.old a h1 (by unfold plusF; rw [if_neg z]; exact h2)
  have lin : ∀ {a : Addr}, (∃ k, (k, a) ∈ l) → ∃ i c, i ∈ leIx args ∧ ownAt env i = some c ∧ σ[i]? = some (some (.ref a)) := fun {a} ⟨k, hk⟩ => by
    obtain ⟨i, hi, e⟩ := hl.mem hk
    obtain ⟨c, hc⟩ := hle i hi
    exact ⟨i, c, hi, hc, e⟩
  obtain ⟨e1, e2, e3⟩ := setOws_slot hs hn
  -- a slot of an object, behind the call
  have slot2 : ∀ (j : Nat) (s : Slot) (c : Ow) (a : Addr), slotAt env j = some s → s.any? = some c → σ[j]? = some (some (.ref a)) → ∃ c2 o2, ((j ∈ leIx args ∧ slotAt env2 j = some (reC s c2)) ∨ (j ∉ leIx args ∧ slotAt env2 j = some s ∧ c2 = c)) ∧ H' a = some o2 ∧ OwAt K (minusF F' (boS σ env args)) o2 c2 ∧ minusF F' (boS σ env args) a = none := by
    intro j s c a h1 h2 h3
    obtain ⟨b, o, q1, q2, q3, q4⟩ := r.own (any_of_slot h1 h2)
    rw [h3] at q1; cases q1
    have q5 := none' a (by rw [q2]; simp) q4
    by_cases hj : j ∈ leIx args
    · obtain ⟨n, c2, z1, z2, z3⟩ := e3 j hj
      obtain ⟨b, o2, y1, y2, y3⟩ := hl.outs hp.outs z1 z2
      rw [h3] at y1; cases y1
      rw [h1] at z3
      refine ⟨c2, o2, .inl ⟨hj, z3⟩, y2, ?_, q5⟩
      rcases hf with hf | hf
      · have : ∀ x, ¬ boS σ env args x := fun x ⟨i, hi, _⟩ => by rw [hf] at hi; cases hi
        have ee : minusF F' (boS σ env args) = F' := by funext x; exact minus_out (this x)
        rw [ee]; exact y3
      · exact y3.minus noT (List.all_eq_true.mp hf c2 (List.mem_of_getElem? z2))
    · refine ⟨c, o, .inr ⟨hj, by rw [e2 j hj]; exact h1, rfl⟩, ?_, q3.mono s2, q5⟩
      refine hp.keep a o q2 fun k hk => ?_
      obtain ⟨i, c', hi, hc', ei⟩ := lin ⟨k, hk⟩
      have := r.one j i a c c' (any_of_slot h1 h2) (any_of_own hc') h3 ei
      exact hj (this ▸ hi)
  -- the kinds of the slots stay
  have kind : ∀ (j : Nat) (s2 : Slot), slotAt env2 j = some s2 → ∃ s, slotAt env j = some s ∧ (s2 = s ∨ ∃ c, s2 = reC s c) := fun j s2 h => by
    by_cases hj : j ∈ leIx args
    · obtain ⟨n, c2, z1, z2, z3⟩ := e3 j hj
      rw [z3] at h
      cases e : slotAt env j with
      | none => rw [e] at h; cases h
      | some s => rw [e] at h; cases h; exact ⟨s, rfl, .inr ⟨c2, rfl⟩⟩
    · rw [e2 j hj] at h; exact ⟨s2, h, .inl rfl⟩
  have any2 : ∀ (j : Nat) (c : Ow), anyAt env2 j = some c → ∃ c', anyAt env j = some c' := fun j c h => by
    cases e : slotAt env2 j with
    | none => unfold anyAt at h; rw [e] at h; cases h
    | some s2 =>
      unfold anyAt at h; rw [e] at h
      obtain ⟨s, hs, q⟩ := kind j s2 e
      unfold anyAt; rw [hs]
      rcases q with rfl | ⟨c2, rfl⟩
      · exact ⟨c, h⟩
      · cases s with
        | sh d => cases h
        | ow c' => exact ⟨c', rfl⟩
        | le c' => exact ⟨c', rfl⟩
        | hd c' => exact ⟨c', rfl⟩
  refine ⟨fun a o q => hp.sub a o (minus_some q).2, fun a o q hL => ?_, fun a q1 q2 => ?_, fun a o q => s2 a o (r.big a o q), by rw [e1]; exact r.len, fun j d q => ?_, fun j c q => ?_, fun j a q => ?_, fun j c q => ?_, fun j a q => ?_, fun j c q => ?_, fun p hpm => ?_, r.tmd, fun p hpm j c q => ?_, fun i j a c c' q1 q2 => ?_⟩
  · refine hp.keep a o (r.keep a o q hL) fun k hk => ?_
    obtain ⟨i, c, hi, hc, ei⟩ := lin ⟨k, hk⟩
    rcases own_cases hc with z | z
    · obtain ⟨b, u, h1, _, _, _, h5⟩ := r.ow i c z
      rw [ei] at h1; cases h1
      rw [q] at h5; cases h5
    · obtain ⟨b, hb⟩ := r.lei i c z
      obtain ⟨_, _, _, h2, _⟩ := r.le i b hb
      rw [ei] at h2; cases h2
      exact hL i hb
  · have hH : H a ≠ none := by
      cases e : B.H0 a with
      | none => exact absurd e q1
      | some o =>
        by_cases z : ∀ i, (i, a) ∉ B.lent
        · rw [r.keep a o e z]; simp
        · simp only [Classical.not_forall, Classical.not_not] at z
          obtain ⟨i, z⟩ := z
          obtain ⟨_, _, _, _, h3, _⟩ := r.le i a z
          rw [h3]; simp
    exact none' a hH (r.old a q1 q2)
  · obtain ⟨s, hs, z⟩ := kind j _ q
    have es : s = .sh d := by
      rcases z with z | ⟨c, z⟩
      · exact z.symm
      · cases s <;> simp at z; rw [z]
    subst es
    obtain ⟨v, h1, h2⟩ := r.sh j d hs
    exact ⟨v, h1, At.mono s2 h2⟩
  · obtain ⟨s, hs, z⟩ := kind j _ q
    obtain ⟨c0, es⟩ : ∃ c0, s = .ow c0 := by
      rcases z with z | ⟨c, z⟩
      · exact ⟨c, z.symm⟩
      · cases s <;> simp at z; exact ⟨_, rfl⟩
    subst es
    obtain ⟨a, u, h1, h2, h3, h4, h5⟩ := r.ow j c0 hs
    obtain ⟨c2, o2, k1, k2, k3, k4⟩ := slot2 j _ c0 a hs rfl h1
    have ec : c2 = c := by
      rcases k1 with ⟨_, k1⟩ | ⟨_, k1, k1'⟩ <;> rw [q] at k1 <;> cases k1
      · rfl
      · exact k1'
    subst ec
    exact ⟨a, o2, h1, k2, k3, k4, h5⟩
  · obtain ⟨c0, u, h1, h2, h3, h4, h5, h6⟩ := r.le j a q
    obtain ⟨c2, o2, k1, k2, k3, k4⟩ := slot2 j _ c0 a h1 rfl h2
    refine ⟨c2, o2, ?_, h2, k2, k3, k4, h6⟩
    rcases k1 with ⟨_, k1⟩ | ⟨_, k1, k1'⟩
    · exact k1
    · rw [k1']; exact k1
  · obtain ⟨s, hs, z⟩ := kind j _ q
    obtain ⟨c0, es⟩ : ∃ c0, s = .le c0 := by
      rcases z with z | ⟨c, z⟩
      · exact ⟨c, z.symm⟩
      · cases s <;> simp at z; exact ⟨_, rfl⟩
    subst es
    exact r.lei j c0 hs
  · obtain ⟨c0, u, h1, h2, h3, h4, h5, h6⟩ := r.hd j a q
    obtain ⟨c2, o2, k1, k2, k3, k4⟩ := slot2 j _ c0 a h1 rfl h2
    have hj : j ∉ leIx args := fun z => by
      obtain ⟨c, hc⟩ := hle j z
      rcases own_cases hc with y | y <;> rw [h1] at y <;> cases y
    have es : slotAt env2 j = some (.hd c0) := by rw [e2 j hj]; exact h1
    have ec : c2 = c0 := by
      rcases k1 with ⟨z, _⟩ | ⟨_, _, k1'⟩
      · exact absurd z hj
      · exact k1'
    subst ec
    exact ⟨c2, o2, es, h2, k2, k3, k4, h6⟩
  · obtain ⟨s, hs, z⟩ := kind j _ q
    obtain ⟨c0, es⟩ : ∃ c0, s = .hd c0 := by
      rcases z with z | ⟨c, z⟩
      · exact ⟨c, z.symm⟩
      · cases s <;> simp at z; exact ⟨_, rfl⟩
    subst es
    exact r.hdi j c0 hs
  · obtain ⟨h1, h2, h3⟩ := r.tmk p hpm
    refine ⟨hp.keep p.1 p.2 h1 fun k hk => ?_, none' p.1 (by rw [h1]; simp) h2, h3⟩
    obtain ⟨i, c, hi, hc, ei⟩ := lin ⟨k, hk⟩
    exact r.tmo p hpm i c (any_of_own hc) ei
  · obtain ⟨c', hc'⟩ := any2 j c q
    exact r.tmo p hpm j c' hc'
  · obtain ⟨d, hd⟩ := any2 i c q1
    obtain ⟨d', hd'⟩ := any2 j c' q2
    exact r.one i j a d d' hd hd'
end
end Z

set_option Elab.async false
set_option linter.all false
set_option maxRecDepth 100000
set_option maxHeartbeats 4000000
/-! Z8: the call of a def; what loops walk. -/
namespace Z
open PySem PySem.Spec L2
section
variable {X : Cx} {W : WX} {k : Nat} {f : Addr} {fd : FuncData} {ps : List Str} {fn : Fn} {x : Str} {p pos : Pos} {e : Expr} {es : List Expr} {fas : As}
theorem call_in {np : Nat} {σ : L2.St} {H : Hp} {Q : VK} (h : tE X W (eCall np fn fas) σ H Q) : tA X W fas σ H (fun vs H1 => spD X.K X.mg np fn vs H1 Q (WE W σ)) := by
  obtain ⟨B, tm, env, F, r, h⟩ := h
  refine ⟨B, tm, env, F, r, (RQ.bind h).imp fun args env1 h1 vs F1 H1 s1 r1 ka => ?_⟩
  split at h1
  · rename_i hok
    obtain ⟨hal, ok⟩ := hok
    cases e1 : fargs env1 args with
    | none => rw [e1] at h1; exact h1.elim
    | some fa =>
      rw [e1] at h1
      simp only at h1
      have hn : (leIx args).Nodup := by
        unfold okArgs at ok
        rw [Bool.and_eq_true, decide_eq_true_eq] at ok
        exact ok.1
      obtain ⟨hle, hbo⟩ := fargs_own e1
      obtain ⟨l, hA, hL⟩ := args_at r1 ok 0 (fun _ z => z) (fun _ z => z) ka e1
      refine ⟨plusF F1 H1 (boS σ env1 args), fa, l, by rw [← ka.len]; exact hal, plus_sub r1, hA, la_nodup r1 hn hle hL, ?_⟩
      cases e2 : fn fa with
      | bad => rw [e2] at h1; exact h1.elim
      | exc c outs =>
        rw [e2] at h1
        simp only at h1
        intro F' H' hp C hC
        cases e3 : setOws env1 args outs with
        | none => rw [e3] at h1; exact h1.elim
        | some env2 =>
          rw [e3] at h1
          simp only at h1
          split at h1
          · rename_i hf
            exact h1 _ H' (rep_call r1 hn hle hL hp e3 hf).1 C hC
          · exact h1.elim
      | ok o outs =>
        rw [e2] at h1
        simp only at h1
        intro v F' H' hp kr
        cases e3 : setOws env1 args outs with
        | none => rw [e3] at h1; exact h1.elim
        | some env2 =>
          rw [e3] at h1
          simp only at h1
          split at h1
          · rename_i hf
            obtain ⟨r2, s2, noT⟩ := rep_call r1 hn hle hL hp e3 (hf.imp id fun z => z.2)
            refine h1 v _ H' (s1.trans s2) r2 ?_
            have same : boIx args = [] → minusF F' (boS σ env1 args) = F' := fun z => by
              funext a
              exact minus_out fun ⟨i, hi, _⟩ => by rw [z] at hi; cases hi
            cases o with
            | va d =>
              rcases hf with hf | ⟨hf, _⟩
              · rw [same hf]; exact kr
              · exact At.minus noT hf kr
            | sl i => exact kr.elim
            | fr c =>
              obtain ⟨a, ob, k1, k2, k3, k4, k5⟩ := kr
              refine ⟨a, ob, k1, k2, ?_, minus_none k4, (r1.fresh k5).2, fun q hq z => ?_, fun i c' q z => ?_⟩
              · rcases hf with hf | ⟨hf, _⟩
                · rw [same hf]; exact k3
                · exact k3.minus noT hf
              · have := (r1.tmk q hq).1
                rw [z, k5] at this; cases this
              · obtain ⟨c2, hc2⟩ : ∃ c2, anyAt env1 i = some c2 := by
                  obtain ⟨b, o, z1, z2, z3, z4⟩ := r2.own q
                  rw [z] at z1; cases z1
                  -- the slot held an object ahead of the call
                  by_cases hj : i ∈ leIx args
                  · obtain ⟨c, hc⟩ := hle i hj
                    exact ⟨c, any_of_own hc⟩
                  · obtain ⟨_, e2', _⟩ := setOws_slot e3 hn
                    exact ⟨c', by unfold anyAt at q ⊢; rw [e2' i hj] at q; exact q⟩
                obtain ⟨b, o, z1, z2, _⟩ := r1.own hc2
                rw [z] at z1; cases z1
                rw [k5] at z2; cases z2
          · exact h1.elim
  · exact h1.elim
theorem pe_callG {CX : CXT} {sp : Sp} {E : L2.St → XK} {t : TA} (G : FnG X.prog X.w X.K X.mg X.base CX k f fd ps sp) (hr : Room k X.A) (hgd : X.A.guards = some []) (hg : Gl X x) (hm : X.mg x = some (.ref f)) (hk : PySem.W.keepIn X.K (.ref f) = true) (hb : Binds X.K fd ps []) (hx : ∀ σ, PassesAt CX X σ (E σ))
    (ha : PA X (e :: es) t) (hdb : (x == ("__debug__" : Str)) = false := by decide) (he : starEach (e :: es) X.env = (false, eval e X.env) :: starEach es X.env := by rfl) (hpl : (backTo pos (starEach es X.env)).any (·.1) = false := by rfl) :
    PE X (.Call (.Name x p) (e :: es) [] pos) (fun σ H Q => t σ H fun vs H1 => sp vs H1 Q (E σ)) := by
  refine ⟨fun pins s σ H Q I h => wpAny_Call_Name_kw (ld_glob I hg hm ?_ hdb)⟩
  refine PySem.W.callWith_K (h₀ := X.base) I.ok.mod.kin hk (thn (ha.run pos pins s σ H _ I h) fun us s1 ⟨vs, H1, I1, r, q⟩ => ⟨I1.kIn, ?_⟩) he hpl
  have b := hb s1 us I1.kIn (by rw [List.append_nil, ← r.length]; exact G.len _ _ _ _ q)
  rw [List.append_nil] at b
  exact runG (args := ⟨us, []⟩) G hr hgd b (hx σ) I1 r q
theorem de_call (G : FnG X.prog X.w X.K X.mg X.base (L2.CX X.prog X.w) k f fd ps (spD X.K X.mg ps.length fn)) (hr : Room k X.A) (hgd : X.A.guards = some []) (tk : Takes X W) (hm : X.mg x = some (.ref f)) (hk : PySem.W.keepIn X.K (.ref f) = true) (hb : Binds X.K fd ps [])
    (ha : DA X W (e :: es) fas) (hg : Gl X x := by rfl) (hdb : (x == ("__debug__" : Str)) = false := by decide) (he : starEach (e :: es) X.env = (false, eval e X.env) :: starEach es X.env := by rfl) (hpl : (backTo pos (starEach es X.env)).any (·.1) = false := by rfl) :
    DE X W (.Call (.Name x p) (e :: es) [] pos) (eCall ps.length fn fas) :=
  PE.imp (pe_callG G hr hgd hg hm hk hb (fun σ => passAt tk σ) ha hdb he hpl) fun _ _ _ h => call_in h
end

/-! ### what loops walk -/
section
variable {X : Cx} {W : WX} {tg e a b : Expr} {fe fa fb : E} {p pos : Pos}
theorem walkD_list {K : PySem.W.Frag} {a : Addr} {xs : List V} {ds : List D} {F1 : Hp} (h : SqL K F1 a xs) (k : AtAll K F1 xs ds) : WalkD K (Itl K a) ds (fun F _ => Same F1 F) := by
  have len := k.length
  refine ⟨fun i F H hi s g => ?_, fun F H s g => ?_, fun i F H x H' hi s g y => ?_⟩
  · have q : SqL K H a xs := s.seq (g.seq h)
    exact walk_list.goes i H (by omega) q
  · have q : SqL K H a xs := s.seq (g.seq h)
    rw [← len]
    exact walk_list.stops H q
  · have q : SqL K H a xs := s.seq (g.seq h)
    obtain ⟨rfl, hx⟩ := walk_list.yields i H x H' (by omega) q y
    obtain ⟨d, hd, kd⟩ := (AtAll.mono g k).get' hx
    exact ⟨d, hd, .inl ⟨rfl, kd⟩⟩
theorem walkD_tup {K : PySem.W.Frag} {a : Addr} {xs : List V} {ds : List D} {F1 : Hp} (h : SqT K F1 a xs) (k : AtAll K F1 xs ds) : WalkD K (Itt K a) ds (fun F _ => Same F1 F) := by
  have len := k.length
  refine ⟨fun i F H hi s g => ?_, fun F H s g => ?_, fun i F H x H' hi s g y => ?_⟩
  · have q : SqT K H a xs := Same.sqt s (Same.sqt g h)
    exact walk_tup.goes i H (by omega) q
  · have q : SqT K H a xs := Same.sqt s (Same.sqt g h)
    rw [← len]
    exact walk_tup.stops H q
  · have q : SqT K H a xs := Same.sqt s (Same.sqt g h)
    obtain ⟨rfl, hx⟩ := walk_tup.yields i H x H' (by omega) q y
    obtain ⟨d, hd, kd⟩ := (AtAll.mono g k).get' hx
    exact ⟨d, hd, .inl ⟨rfl, kd⟩⟩
theorem walkD_str {K : PySem.W.Frag} {z : Str} {F1 : Hp} : WalkD K (Its z) (z.cps.toList.map fun c => .str ⟨#[c]⟩) (fun F _ => Same F1 F) := by
  have hl : (z.cps.toList.map fun c => PyData.str ⟨#[c]⟩).length = z.cps.size := by simp
  refine ⟨fun i F H hi s g => ?_, fun F H s g => ?_, fun i F H x H' hi s g y => ?_⟩
  · rw [hl] at hi; exact walk_str.goes i H hi trivial
  · rw [hl]; exact walk_str.stops H trivial
  · rw [hl] at hi
    obtain ⟨rfl, c, hc, rfl⟩ := walk_str.yields i H x H' hi trivial y
    refine ⟨.str ⟨#[c]⟩, ?_, .inl ⟨rfl, .str _⟩⟩
    rw [List.getElem?_map, Array.getElem?_toList, hc]; rfl
theorem walkD_range {K : PySem.W.Frag} {lo : Int} {n : Nat} {F1 : Hp} : WalkD K (Itr lo n) (rangeL lo n) (fun F _ => Same F1 F) := by
  have hl : (rangeL lo n).length = n := by simp [rangeL]
  refine ⟨fun i F H hi s g => ?_, fun F H s g => ?_, fun i F H x H' hi s g y => ?_⟩
  · rw [hl] at hi; exact walk_range.goes i H hi trivial
  · rw [hl]; exact walk_range.stops H trivial
  · rw [hl] at hi
    obtain ⟨rfl, rfl⟩ := walk_range.yields i H x H' hi trivial y
    exact ⟨.int (lo + i), by simp [rangeL, hi], .inl ⟨rfl, .int _⟩⟩
theorem PI.imp {X : Cx} {tg it : Expr} {w w' : TI} (h : PI X tg it w) (hi : ∀ σ H R, w' σ H R → w σ H R) : PI X tg it w' := ⟨fun pins s σ H R I q => h.run pins s σ H R I (hi σ H R q)⟩
/-- one of several readings, chosen by the state -/
theorem PI.by {X : Cx} {tg it : Expr} {w' : TI} (h : ∀ σ H R, w' σ H R → ∃ w, PI X tg it w ∧ w σ H R) : PI X tg it w' := ⟨fun pins s σ H R I q => by
  obtain ⟨w, hw, q'⟩ := h σ H R q
  exact hw.run pins s σ H R I q'⟩
theorem PE.by {X : Cx} {it : Expr} {w' : TE} (h : ∀ σ H R, w' σ H R → ∃ w, PE X it w ∧ w σ H R) : PE X it w' := ⟨fun pins s σ H R I q => by
  obtain ⟨w, hw, q'⟩ := h σ H R q
  exact hw.run pins s σ H R I q'⟩
theorem di_list (h : DE X W e fe) : DI X W tg e (iE fe) := by
  refine PI.by fun σ H R ⟨B, tm, env, F, r, h1⟩ => ?_
  -- what the value will be is known ahead
  cases e1 : fe env with
  | bad => unfold iE at h1; rw [e1] at h1; exact h1.elim
  | exc c en =>
    refine ⟨_, pi_list h, B, tm, env, F, r, ?_⟩
    unfold iE at h1
    rw [e1] at h1 ⊢
    exact h1
  | ok o env1 =>
    unfold iE at h1
    rw [e1, bind_ok] at h1
    cases e2 : share o env1 with
    | bad => rw [e2] at h1; exact h1.elim
    | exc c en => exact absurd e2 share_no_exc
    | ok d env2 =>
      rw [e2, bind_ok] at h1
      have key : ∀ ds, itemsOf d = some ds → ∀ v F1 H1, Same F F1 → Rep X.K B tm env1 σ F1 H1 → OpdAt X.K B tm env1 σ F1 H1 o v → ∃ F2, Same F1 F2 ∧ At X.K F2 v d ∧ Same F2 H1 ∧ ∀ J, WalkD X.K J ds (fun F' _ => Same F2 F') → R J H1 := by
        intro ds hds v F1 H1 s1 r1 k1
        rw [hds] at h1
        obtain ⟨F2, s2, r2, k2⟩ := r1.share k1 e2
        exact ⟨F2, s2, k2, r2.sub, fun J w => h1 J F2 H1 _ (s1.trans s2) r2 rfl w⟩
      cases d with
      | list ds =>
        refine ⟨_, pi_list h, B, tm, env, F, r, ?_⟩
        rw [e1]
        intro v F1 H1 s1 r1 k1
        obtain ⟨F2, s2, k2, s3, q⟩ := key ds rfl v F1 H1 s1 r1 k1
        cases k2 with
        | lst hs ka => exact ⟨_, rfl, ⟨_, s3.seq hs⟩, q _ (walkD_list hs ka)⟩
      | tuple ds =>
        refine ⟨_, pi_tup h, B, tm, env, F, r, ?_⟩
        rw [e1]
        intro v F1 H1 s1 r1 k1
        obtain ⟨F2, s2, k2, s3, q⟩ := key ds rfl v F1 H1 s1 r1 k1
        cases k2 with
        | tup hs ka => exact ⟨_, rfl, ⟨_, SqT.of (s3 _ _ hs)⟩, q _ (walkD_tup (SqT.of hs) ka)⟩
      | str z =>
        refine ⟨_, pi_str h, B, tm, env, F, r, ?_⟩
        rw [e1]
        intro v F1 H1 s1 r1 k1
        obtain ⟨F2, s2, k2, s3, q⟩ := key _ rfl v F1 H1 s1 r1 k1
        cases k2
        exact ⟨z, rfl, q _ walkD_str⟩
      | _ => exact h1.elim
theorem di_hold (i : Nat) {x : Str} (hN : X.N[i]? = some x := by rfl) (hv : Vis X.env.scope x := by first | exact Or.inl rfl | exact Or.inr (Or.inl rfl) | exact Or.inr (Or.inr rfl)) (hd : (x == ("__debug__" : Str)) = false := by decide)
    (hcd : (x == ("__classdict__" : Str)) = false := by decide) : DI X W tg (.Name x pos) (iHold i) := by
  refine PI.by fun σ H R ⟨B, tm, env, F, r, h1⟩ => ?_
  simp only [iHold] at h1
  split at h1
  · rename_i ds hs
    obtain ⟨a, o, h2, h3, h4, h5, h6⟩ := r.ow i _ hs
    cases h4 with
    | ls k =>
      refine ⟨_, pi_list (pe_var hN hv hd hcd), _, h2, _, rfl, ⟨_, SqL.of h3⟩, h1 _ F H _ (Same.refl _) r ⟨hs, a, h2, rfl⟩ ?_⟩
      refine ⟨fun j F' H' hj s ⟨xs, q1, q2⟩ => ?_, fun F' H' s ⟨xs, q1, q2⟩ => ?_, fun j F' H' y H2 hj s ⟨xs, q1, q2⟩ yl => ?_⟩
      · exact walk_list.goes j H' (by rw [q2.length]; exact hj) (SqL.of q1)
      · have := walk_list.stops H' (SqL.of (K := X.K) q1)
        rw [q2.length] at this; exact this
      · obtain ⟨rfl, hx⟩ := walk_list.yields j H' y H2 (by rw [q2.length]; exact hj) (SqL.of q1) yl
        obtain ⟨d, hd, kd⟩ := q2.get' hx
        exact ⟨d, hd, .inl ⟨rfl, kd⟩⟩
  · rename_i d hs
    obtain ⟨v, h2, k2⟩ := r.sh i d hs
    cases d with
    | list ds =>
      cases k2 with
      | lst hq ka => exact ⟨_, pi_list (pe_var hN hv hd hcd), _, h2, _, rfl, ⟨_, r.sub.seq hq⟩, h1 _ F H _ (Same.refl _) r rfl (walkD_list hq ka)⟩
    | tuple ds =>
      cases k2 with
      | tup hq ka => exact ⟨_, pi_tup (pe_var hN hv hd hcd), _, h2, _, rfl, ⟨_, SqT.of (r.sub _ _ hq)⟩, h1 _ F H _ (Same.refl _) r rfl (walkD_tup (SqT.of hq) ka)⟩
    | str z =>
      cases k2
      exact ⟨_, pi_str (pe_var hN hv hd hcd), _, h2, z, rfl, h1 _ F H _ (Same.refl _) r rfl walkD_str⟩
    | _ => exact h1.elim
  · exact h1.elim
/-- one operand, its data now -/
theorem rd1_in {σ : L2.St} {H : Hp} {α : Type} {B : Base} {tm : List (Addr × HO)} {P : α → DEnv → Prop} {o : Opd} {env1 : DEnv} {F1 : Hp} {v : V} {k : D → R α} (r1 : Rep X.K B tm env1 σ F1 H) (k1 : OpdAt X.K B tm env1 σ F1 H o v)
    (h : RQ X W B tm σ P (match rd o env1 with | some d => k d | none => .bad)) : ∃ d F2, Same F1 F2 ∧ Rep X.K B tm env1 σ F2 H ∧ Cn X.K F2 H v d ∧ RQ X W B tm σ P (k d) := by
  obtain ⟨F2, s2, r2, k2⟩ := r1.keepO k1
  cases e1 : rd o env1 with
  | none => rw [e1] at h; exact h.elim
  | some d => rw [e1] at h; exact ⟨d, F2, s2, r2, r2.rdK k2 e1, h⟩
theorem di_range1 (ha : DE X W a fa) (hm : X.mg "range" = none) (hg : Gl X "range" := by rfl) (hs : starEach [a] X.env = [(false, eval a X.env)] := by rfl) : DI X W tg (.Call (.Name "range" p) [a] [] pos) (iRange1 fa) := by
  refine PI.imp (pi_range1 hg hm (pa_cons ha pa_nil hs) hs) fun σ H R ⟨B, tm, env, F, r, h⟩ => ?_
  refine ⟨B, tm, env, F, r, (RQ.bind h).imp fun o1 env1 h1 v F1 H1 s1 r1 k1 => ?_⟩
  obtain ⟨F1', s1', r1', k1'⟩ := r1.keepO k1
  cases e1 : rd o1 env1 with
  | none => rw [e1] at h1; exact h1.elim
  | some d =>
    rw [e1] at h1
    cases d with
    | int j =>
      simp only at h1
      split at h1
      · rename_i hj
        exact ⟨j, by rw [(r1'.rdK k1' e1).int], hj.1, hj.2, h1 _ F1' H1 _ (s1.trans s1') r1' rfl walkD_range⟩
      · exact h1.elim
    | _ => exact h1.elim
theorem di_range2 (ha : DE X W a fa) (hb : DE X W b fb) (hm : X.mg "range" = none) (hg : Gl X "range" := by rfl) (hs : starEach [a, b] X.env = [(false, eval a X.env), (false, eval b X.env)] := by rfl) (hs2 : starEach [b] X.env = [(false, eval b X.env)] := by rfl) : DI X W tg (.Call (.Name "range" p) [a, b] [] pos) (iRange2 fa fb) := by
  refine PI.imp (pi_range2 hg hm (pa_cons ha (pa_cons hb pa_nil hs2) (by rw [hs, hs2])) hs hs2) fun σ H R ⟨B, tm, env, F, r, h⟩ => ?_
  refine ⟨B, tm, env, F, r, (RQ.bind h).imp fun o1 env1 h1 v F1 H1 s1 r1 k1 => ?_⟩
  obtain ⟨F1', s1', r1', k1'⟩ := r1.keepO k1
  refine ⟨B, tm, env1, F1', r1', (RQ.bind h1).imp fun o2 env2 h2 u F2 H2 s2 r2 k2 => ?_⟩
  obtain ⟨F2', s2', r2', k2'⟩ := r2.keepO k2
  cases e1 : rd o1 env2 with
  | none => rw [e1] at h2; exact h2.elim
  | some d =>
    cases e2 : rd o2 env2 with
    | none => rw [e1, e2] at h2; cases d <;> exact h2.elim
    | some d2 =>
      rw [e1, e2] at h2
      cases d with
      | int i =>
        cases d2 with
        | int j =>
          simp only at h2
          split at h2
          · rename_i hj
            exact ⟨i, j, by rw [(r2'.rdK (k1'.mono (s2.trans s2')) e1).int, (r2'.rdK k2' e2).int], hj, h2 _ F2' H2 _ (s1.trans (s1'.trans (s2.trans s2'))) r2' rfl walkD_range⟩
          · exact h2.elim
        | _ => exact h2.elim
      | _ => exact h2.elim
end
end Z

set_option Elab.async false
set_option linter.all false
set_option maxRecDepth 100000
set_option maxHeartbeats 4000000
/-! Z9: operations on data are what the model does. -/
namespace Z
open PySem PySem.Spec L2
section
variable {X : Cx}
theorem outQ_va {K : PySem.W.Frag} {F H : Hp} {d : D} {Q : VK} {v : V} (q : OutQ K F H (.va d) Q) (k : At K F v d) : Q v H := q v k
theorem sizeL : sizeLine = 16777216 := by rw [sizeLine_eq]
theorem line_le {n : Nat} (h : n ≤ lineN) : n ≤ sizeLine := by rw [← line_eq]; exact h
/-! ### + - * // % ** -/
theorem op_addD : OpR X (binaryOp .Add) (rG X.K gAdd) := by
  rintro pins s σ H x y v u Q I rx ry ⟨F, d, e, o, sF, cx, cy, hg, q⟩
  cases d with
  | int i =>
    cases e with
    | int j =>
      simp only [gAdd, Option.some.injEq] at hg
      subst hg
      exact op_add pins s σ H x y v u Q I rx ry ⟨i, j, cx.int, cy.int, q _ (.int _)⟩
    | _ => cases hg
  | str a =>
    cases e with
    | str b =>
      simp only [gAdd] at hg
      split at hg
      · rename_i hl
        cases hg
        exact op_add_str pins s σ H x y v u Q I rx ry ⟨a, b, cx.str, cy.str, line_le hl, q _ (.str _)⟩
      · cases hg
    | _ => cases hg
  | list xs =>
    cases e with
    | list ys =>
      simp only [gAdd] at hg
      split at hg
      · rename_i hl
        cases hg
        obtain ⟨l, vs, rfl, hs, ka⟩ := cx.lst sF
        obtain ⟨b, ws, rfl, hs2, kb⟩ := cy.lst sF
        cases rx
        cases ry
        obtain ⟨its, rv, ⟨⟨cls, dd, data, sl⟩, n, ho, hc, hdn, hd⟩, hz⟩ := I.list hs
        obtain ⟨its2, rv2, ⟨⟨cls2, dd2, data2, sl2⟩, n2, ho2, hc2, hdn2, hd2⟩, hz2⟩ := I.list hs2
        simp only at hc hd hc2 hd2
        subst hc hd hc2 hd2
        have hlen : its.length + its2.length ≤ sizeLine := by
          have := rv.length; have := rv2.length; have := ka.length; have := kb.length
          have := line_le hl
          omega
        refine concat_meets ⟨_, ho, rfl⟩ ⟨_, ho2, rfl⟩ noFill_list_add seq_list_add PySem.F.slot_list_add PySem.F.entry_list_add (PySem.F.args_list_add_2 _ _) (PyProof.Rows.list_addW l b its.toArray its2.toArray n n2 dd dd2 sl sl2 (by simpa using hlen)) ⟨ho, ho2, ?_⟩
        have ea : its.toArray ++ its2.toArray = (its ++ its2).toArray := by simp
        rw [ea]
        refine ⟨.ref _, _, I.lnew (t' := s.toks) (rv.append rv2) (by rw [List.length_append, rv.length, rv2.length]; exact hlen), rfl, ?_⟩
        exact q _ _ I.fresh (ka.append kb)
      · cases hg
    | _ => cases hg
  | tuple xs =>
    cases e with
    | tuple ys =>
      simp only [gAdd] at hg
      split at hg
      · cases hg
      · rename_i hx
        simp only [not_or, Nat.not_lt] at hx
        obtain ⟨l, vs, rfl, hs, ka⟩ := cx.tup sF
        obtain ⟨b, ws, rfl, hs2, kb⟩ := cy.tup sF
        have hv : vs ≠ [] := fun z => hx.1 (by have := ka.length; rw [z] at this; exact List.eq_nil_of_length_eq_zero this.symm)
        have hl : vs.length + ws.length ≤ sizeLine := by rw [ka.length, kb.length]; exact line_le hx.2
        split at hg
        · rename_i hy
          cases hg
          refine op_catT pins s σ H _ _ v u Q I rx ry ⟨l, b, vs, ws, rfl, rfl, hs, hs2, hv, hl, fun _ => ?_, fun hne => absurd ?_ hne⟩
          · rcases cx with k | ⟨a, o, c, e1, _, hc, e3⟩
            · exact q _ k
            · cases hc <;> simp at e3
          · subst hy; cases kb; rfl
        · rename_i hy
          cases hg
          refine op_catT pins s σ H _ _ v u Q I rx ry ⟨l, b, vs, ws, rfl, rfl, hs, hs2, hv, hl, fun e => absurd ?_ hy, fun _ p hp => ?_⟩
          · subst e; cases kb; rfl
          · exact q p _ hp (ka.append kb)
    | _ => cases hg
  | _ => cases hg
theorem op_subD : OpR X (binaryOp .Sub) (rG X.K gSub) := by
  rintro pins s σ H x y v u Q I rx ry ⟨F, d, e, o, sF, cx, cy, hg, q⟩
  cases d with
  | int i =>
    cases e with
    | int j =>
      simp only [gSub, Option.some.injEq] at hg
      subst hg
      exact op_sub pins s σ H x y v u Q I rx ry ⟨i, j, cx.int, cy.int, q _ (.int _)⟩
    | _ => cases hg
  | _ => cases hg
theorem bits_of {i : Int} {n : Nat} (h : i.natAbs < 2 ^ n) (h0 : 0 < n) : Builtin.Int.intBits i ≤ n := by
  have := PySem.Flt.log2_lt_of h0 h
  unfold Builtin.Int.intBits
  split <;> omega
theorem mul_ok {i j : Int} (h : i.natAbs < 2 ^ 63 ∨ j.natAbs < 2 ^ 63 ∨ (i.natAbs < 2 ^ 4000 ∧ j.natAbs < 2 ^ 4000)) : IntMulOk i j := by
  rcases h with h | h | ⟨h1, h2⟩
  · exact .of_left (by have := bits_of h (by decide); omega)
  · exact .of_right (by have := bits_of h (by decide); omega)
  · exact CMulW.ok (wide_mul h1 h2 (by decide) (by decide) (by decide))
/-- a list times an int -/
theorem op_repD {l : Addr} {xs : List V} {k : Int} {pins : List (Addr × Obj)} {s : Shared} {σ : L2.St} {H : Hp} {t : Tok} {Q : VK} (I : Inv X pins σ H s) (hs : SqL X.K H l xs) (h1 : -(2 ^ 63) ≤ k) (h2 : k < 2 ^ 63) (hz : xs.length * k.toNat ≤ sizeLine)
    (q : ∀ p, H p = none → Q (.ref p) (upd H p (.lst (List.replicate k.toNat xs).flatten))) : wpAny (model X.prog X.w) X.A (binaryOp .Mult (.ref l) (.int k t)) (EP X pins σ Q) X.xe s := by
  obtain ⟨its, r, ⟨⟨cls, dd, data, sl⟩, n, e, hc, hdn, hd⟩, hlen⟩ := I.list hs
  simp only at hc hd
  subst hc hd
  have hl : xs.length = its.length := r.length
  have hlen : its.toArray.size * k.toNat ≤ sizeLine := by rw [List.size_toArray, ← hl]; exact hz
  have hcap : ¬ its.toArray.size * k.toNat > (2 ^ 63 - 1) / 8 := by
    have : (sizeLine : Nat) ≤ (2 ^ 63 - 1) / 8 := by decide
    omega
  have hfit : ¬ (!Builtin.List.listFitsIndex k) = true := by
    rw [fitsIndex_both h1 h2]
    exact Bool.false_ne_true
  have hlong : ¬ Builtin.List.listTooLong (its.toArray.size * k.toNat) = true := by
    rw [notLongL hlen]
    exact Bool.false_ne_true
  have hnew : List.foldl (fun x1 x2 => x1 ++ x2) #[] (List.replicate (if its.toArray.isEmpty = true then 0 else k.toNat) its.toArray) = (List.replicate k.toNat its).flatten.toArray :=
    PyProof.Rows.listMul_foldl_if _ _
  refine wpAny_binaryOp_repeat_ref (T := "list") (U := "int") (by decide) ⟨_, e, rfl⟩ (fun s' => typeIs_int s' k t) noFill_list_mul F.fills_int_mul F.slot_int_rmul repeat_list F.slot_int_index.lookup
    (call_meets F.slot_int_rmul (typeIs_int s k t) F.entry_int_rmul (F.args_int_rmul_2 _ _) (lm_int_rmul_list_any k t l its.toArray n dd sl)
      ⟨e, rfl, ⟨_, e, rfl⟩, call_meets F.slot_list_mul ⟨_, e, rfl⟩ F.entry_list_mul (F.args_list_mul_2 _ _) (lm_list_mul_any l its.toArray n dd sl k t hfit hcap hlong) ⟨e, ?_⟩⟩)
  rw [hnew]
  exact ⟨.ref _, _, I.lnew (t' := s.toks) (r.rep k.toNat) (by rw [PyProof.Rows.lm_len_rep_flat, Nat.mul_comm]; exact hz), rfl, q _ I.fresh⟩
def CMy (i j : Int) : Prop := i.natAbs < 2 ^ 63 ∨ j.natAbs < 2 ^ 63 ∨ (i.natAbs < 2 ^ 4000 ∧ j.natAbs < 2 ^ 4000)
theorem op_mulY : OpR X (binaryOp .Mult) (rI CMy fun i j => .int (i * j)) := opI fun _ _ _ _ _ _ _ hc q => PyProof.Rows.mul_int q (mul_ok hc)
theorem foldl_reps {α : Type} (items : Array α) : ∀ (k : Nat) (acc : Array α), List.foldl (· ++ ·) acc (List.replicate k items) = (acc.toList ++ (List.replicate k items.toList).flatten).toArray
  | 0, acc => by simp
  | k + 1, acc => by simp [List.replicate_succ, foldl_reps items k, List.append_assoc]
theorem op_repS {a : Str} {k : Int} {pins : List (Addr × Obj)} {s : Shared} {σ : L2.St} {H : Hp} {t t' : Tok} {Q : Value → Shared → Prop} (I : Inv X pins σ H s) (h2 : k < 2 ^ 63) (h1 : 0 ≤ k) (hz : a.length * k.toNat ≤ sizeLine)
    (q : ∀ s', Inv X pins σ H s' → ∀ t, Q (.str ⟨(List.replicate k.toNat a.cps.toList).flatten.toArray⟩ t) s') : wpAny (model X.prog X.w) X.A (binaryOp .Mult (.str a t) (.int k t')) Q X.xe s := by
  have hl : a.length = a.cps.toList.length := by simp [Str.length]
  refine PySem.P.mul_str (by rw [decide_eq_false (by omega), decide_eq_false (by omega)]; rfl) (fun h3 _ => ?_) (fun h3 _ => ?_) ?_
  · have h4 : (a.length : Int) * k ≤ 2 ^ 63 - 1 := by
      have : ((a.length * k.toNat : Nat) : Int) = (a.length : Int) * k := by rw [Int.natCast_mul, Int.toNat_of_nonneg h1]
      rw [sizeL] at hz
      omega
    have := Int.le_ediv_of_mul_le (show 0 < k by omega) h4
    omega
  · exact decide_eq_false (by show ¬ (_ > sizeLine); omega)
  · by_cases h3 : k < 1
    · rw [if_pos h3]
      have e : k = 0 := by omega
      subst e
      exact ⟨Nat.zero_le _, q _ (I.tok _) _⟩
    · rw [if_neg h3]
      by_cases h4 : (k == 1 || a.length == 0) = true
      · rw [if_pos h4]
        have e : (⟨(List.replicate k.toNat a.cps.toList).flatten.toArray⟩ : Str) = a := by
          rw [Bool.or_eq_true] at h4
          rcases h4 with h4 | h4
          · have : k = 1 := by simpa using h4
            subst this
            simp
          · have h5 : a.cps.toList = [] := List.eq_nil_of_length_eq_zero (by rw [← hl]; simpa using h4)
            have h6 : a.cps = #[] := by simpa using h5
            obtain ⟨c⟩ := a
            simp only at h6
            subst h6
            simp
        have q' := q s I t
        rw [e] at q'
        exact q'
      · rw [if_neg h4]
        have e : (List.replicate k.toNat a.cps).foldl (· ++ ·) #[] = (List.replicate k.toNat a.cps.toList).flatten.toArray := by rw [foldl_reps]; rfl
        rw [e]
        refine ⟨?_, q _ (I.tok _) _⟩
        show (List.replicate k.toNat a.cps.toList).flatten.toArray.size ≤ _
        rw [List.size_toArray, PyProof.Rows.lm_len_rep_flat, ← hl, Nat.mul_comm]
        exact hz
theorem op_mulD : OpR X (binaryOp .Mult) (rG X.K gMul) := by
  rintro pins s σ H x y v u Q I rx ry ⟨F, d, e, o, sF, cx, cy, hg, q⟩
  cases d with
  | int i =>
    cases e with
    | int j =>
      simp only [gMul] at hg
      split at hg
      · rename_i hc
        cases hg
        exact op_mulY pins s σ H x y v u Q I rx ry ⟨i, j, cx.int, cy.int, hc, q _ (.int _)⟩
      · cases hg
    | _ => cases hg
  | list xs =>
    cases e with
    | int j =>
      simp only [gMul] at hg
      split at hg
      · rename_i hc
        cases hg
        obtain ⟨l, vs, rfl, hs, ka⟩ := cx.lst sF
        cases cy.int
        cases rx
        obtain ⟨t, rfl⟩ := ry
        exact op_repD I hs hc.1 hc.2.1 (by rw [ka.length]; exact line_le hc.2.2) fun p hp => q p _ hp (ka.rep _)
      · cases hg
    | _ => cases hg
  | str a =>
    cases e with
    | int j =>
      simp only [gMul] at hg
      split at hg
      · rename_i hc
        cases hg
        cases cx.str
        cases cy.int
        obtain ⟨t, rfl⟩ := rx
        obtain ⟨t', rfl⟩ := ry
        exact op_repS I hc.1 hc.2.1 (line_le hc.2.2) fun s' I' t => ⟨.str _, H, I', ⟨_, rfl⟩, q _ (.str _)⟩
      · cases hg
    | _ => cases hg
  | _ => cases hg
theorem op_fdivD : OpR X (binaryOp .FloorDiv) (rG X.K gFdiv) := by
  rintro pins s σ H x y v u Q I rx ry ⟨F, d, e, o, sF, cx, cy, hg, q⟩
  cases d with
  | int i =>
    cases e with
    | int j =>
      simp only [gFdiv] at hg
      split at hg
      · rename_i hc
        cases hg
        exact op_fdivW pins s σ H x y v u Q I rx ry ⟨i, j, cx.int, cy.int, wide_div hc.1 hc.2 (by decide) (by decide), q _ (.int _)⟩
      · cases hg
    | _ => cases hg
  | _ => cases hg
theorem op_modD : OpR X (binaryOp .Mod) (rG X.K gMod) := by
  rintro pins s σ H x y v u Q I rx ry ⟨F, d, e, o, sF, cx, cy, hg, q⟩
  cases d with
  | int i =>
    cases e with
    | int j =>
      simp only [gMod] at hg
      split at hg
      · rename_i hc
        cases hg
        exact op_mod pins s σ H x y v u Q I rx ry ⟨i, j, cx.int, cy.int, hc, q _ (.int _)⟩
      · cases hg
    | _ => cases hg
  | _ => cases hg
def CPy (i j : Int) : Prop := 0 ≤ j ∧ j ≤ 1000 ∧ i.natAbs < 2 ^ 4000
theorem op_powY : OpR X (binaryOp .Pow) (rI CPy fun i j => .int (i ^ j.toNat)) := opI fun i j _ _ _ _ _ hc q => by
  obtain ⟨h1, h2, h3⟩ := hc
  have b := bits_of h3 (by decide)
  refine PyProof.Rows.pow_int h1 ?_ q
  have : (Builtin.Int.intBits i : Int) * j ≤ 4000 * 1000 := Int.mul_le_mul (by omega) h2 h1 (by omega)
  omega
theorem op_powD : OpR X (binaryOp .Pow) (rG X.K gPow) := by
  rintro pins s σ H x y v u Q I rx ry ⟨F, d, e, o, sF, cx, cy, hg, q⟩
  cases d with
  | int i =>
    cases e with
    | int j =>
      simp only [gPow] at hg
      split at hg
      · rename_i hc
        cases hg
        exact op_powY pins s σ H x y v u Q I rx ry ⟨i, j, cx.int, cy.int, hc, q _ (.int _)⟩
      · cases hg
    | _ => cases hg
  | _ => cases hg
/-! ### comparisons -/
theorem op_ltD : OpR X (compareOp .Lt) (rG X.K gLt) := by
  rintro pins s σ H x y v u Q I rx ry ⟨F, d, e, o, sF, cx, cy, hg, q⟩
  cases d with
  | int i =>
    cases e with
    | int j =>
      simp only [gLt, Option.some.injEq] at hg
      subst hg
      exact op_lt pins s σ H x y v u Q I rx ry ⟨i, j, cx.int, cy.int, q _ (.bl _)⟩
    | _ => cases hg
  | _ => cases hg
theorem op_leD : OpR X (compareOp .LtE) (rG X.K gLe) := by
  rintro pins s σ H x y v u Q I rx ry ⟨F, d, e, o, sF, cx, cy, hg, q⟩
  cases d with
  | int i =>
    cases e with
    | int j =>
      simp only [gLe, Option.some.injEq] at hg
      subst hg
      exact op_le pins s σ H x y v u Q I rx ry ⟨i, j, cx.int, cy.int, q _ (.bl _)⟩
    | _ => cases hg
  | _ => cases hg
theorem op_gtD : OpR X (compareOp .Gt) (rG X.K gGt) := by
  rintro pins s σ H x y v u Q I rx ry ⟨F, d, e, o, sF, cx, cy, hg, q⟩
  cases d with
  | int i =>
    cases e with
    | int j =>
      simp only [gGt, Option.some.injEq] at hg
      subst hg
      exact op_gt pins s σ H x y v u Q I rx ry ⟨i, j, cx.int, cy.int, q _ (.bl _)⟩
    | _ => cases hg
  | _ => cases hg
theorem op_geD : OpR X (compareOp .GtE) (rG X.K gGe) := by
  rintro pins s σ H x y v u Q I rx ry ⟨F, d, e, o, sF, cx, cy, hg, q⟩
  cases d with
  | int i =>
    cases e with
    | int j =>
      simp only [gGe, Option.some.injEq] at hg
      subst hg
      exact op_ge pins s σ H x y v u Q I rx ry ⟨i, j, cx.int, cy.int, q _ (.bl _)⟩
    | _ => cases hg
  | _ => cases hg
theorem okD_iff {d : D} : okD d = true ↔ d.plain = true ∧ d.depth ≤ 64 := by simp [okD]
theorem op_eqD (hu : X.A.units + 64 < cLine) : OpR X (compareOp .Eq) (rG X.K gEq) := by
  rintro pins s σ H x y v u Q I rx ry ⟨F, d, e, o, sF, cx, cy, hg, q⟩
  simp only [gEq, okD_iff] at hg
  split at hg
  · rename_i h
    cases hg
    obtain ⟨as, ra⟩ := Dp.reads I _ _ _ (At.dp h.1.1 (cx.at sF)) rx
    obtain ⟨bs, rb⟩ := Dp.reads I _ _ _ (At.dp h.2.1 (cy.at sF)) ry
    have hm : min d.depth e.depth ≤ 64 := Nat.le_trans (Nat.min_le_left _ _) h.1.2
    exact SeqAt.eq_plain ra rb h.1.1 h.2.1 (by omega) (fin_bl I (q _ (.bl _)) rfl)
  · cases hg
theorem op_neD (hu : X.A.units + 64 < cLine) : OpR X (compareOp .NotEq) (rG X.K gNe) := by
  rintro pins s σ H x y v u Q I rx ry ⟨F, d, e, o, sF, cx, cy, hg, q⟩
  simp only [gNe, okD_iff] at hg
  split at hg
  · rename_i h
    cases hg
    obtain ⟨as, ra⟩ := Dp.reads I _ _ _ (At.dp h.1.1 (cx.at sF)) rx
    obtain ⟨bs, rb⟩ := Dp.reads I _ _ _ (At.dp h.2.1 (cy.at sF)) ry
    have hm : min d.depth e.depth ≤ 64 := Nat.le_trans (Nat.min_le_left _ _) h.1.2
    exact SeqAt.ne_plain ra rb h.1.1 h.2.1 (by omega) (fin_bl I (q _ (.bl _)) rfl)
  · cases hg
/-! ### is None -/
theorem Cn.isNone {K : PySem.W.Frag} {F H : Hp} {v : V} {d : D} (h : Cn K F H v d) : decide (v = .non) = isNone d := by
  rcases h with h | ⟨a, o, c, rfl, _, hc, rfl⟩
  · cases h <;> simp
  · cases hc <;> simp
@[simp] def gIs2 (d e : D) : Option Out := match e with
  | .none => gIsN d
  | _ => none
@[simp] def gIsNot2 (d e : D) : Option Out := match e with
  | .none => gIsNotN d
  | _ => none
theorem op_isND : OpR X (compareOp .Is) (rG X.K gIs2) := by
  rintro pins s σ H x y v u Q I rx ry ⟨F, d, e, o, sF, cx, cy, hg, q⟩
  cases e with
  | none =>
    cases hg
    exact op_isN pins s σ H x y v u Q I rx ry ⟨cy.non, by rw [cx.isNone]; exact q _ (.bl _)⟩
  | _ => cases hg
theorem op_isNotND : OpR X (compareOp .IsNot) (rG X.K gIsNot2) := by
  rintro pins s σ H x y v u Q I rx ry ⟨F, d, e, o, sF, cx, cy, hg, q⟩
  cases e with
  | none =>
    cases hg
    exact op_notN pins s σ H x y v u Q I rx ry ⟨cy.non, by rw [cx.isNone]; exact q _ (.bl _)⟩
  | _ => cases hg
/-! ### - -/
theorem un_negD : UnR X (unaryOp .USub) (rG1 X.K gNeg) := by
  rintro pins s σ H x v Q I rx ⟨F, d, o, sF, cx, hg, q⟩
  cases d with
  | int i =>
    cases hg
    exact un_neg pins s σ H x v Q I rx ⟨i, cx.int, q _ (.int _)⟩
  | _ => cases hg
/-! ### dicts -/
inductive OptAt (K : PySem.W.Frag) (F : Hp) : Option V → Option D → Prop
  | none : OptAt K F none none
  | some {v : V} {d : D} : At K F v d → OptAt K F (some v) (some d)
@[simp] theorem keyOf_keyD (k : Key) : keyOf (keyD k) = some k := by cases k <;> rfl
@[simp] theorem keysOf_keyD : ∀ ks : List Key, keysOf (ks.map keyD) = some ks
  | [] => rfl
  | k :: r => by rw [List.map_cons, keysOf_cons, keyOf_keyD, keysOf_keyD r]; rfl
theorem look_dk {K : PySem.W.Frag} {F : Hp} {k : Key} : ∀ {kvs : List (Key × V)} {ds : List D}, AtAll K F (kvs.map (·.2)) ds → OptAt K F (valV kvs k) (lookK ((kvs.map fun p => keyD p.1).zip ds) k)
  | [], _, .nil => .none
  | p :: r, _, .cons h t => by
    have ih := look_dk (k := k) t
    unfold valV lookK at ih ⊢
    rw [List.map_cons, List.zip_cons_cons, List.find?_cons, List.find?_cons]
    by_cases e : p.1 = k
    · rw [decide_eq_true e, decide_eq_true (by rw [keyOf_keyD, e])]
      exact .some h
    · rw [decide_eq_false e, decide_eq_false (by rw [keyOf_keyD]; simpa using e)]
      exact ih
theorem look_dt {K : PySem.W.Frag} {F : Hp} {k : List Key} : ∀ {kvs : List (List Key × V)} {ds : List D}, AtAll K F (kvs.map (·.2)) ds → OptAt K F (valV kvs k) (lookT ((kvs.map fun p => PyData.tuple (p.1.map keyD)).zip ds) k)
  | [], _, .nil => .none
  | p :: r, _, .cons h t => by
    have ih := look_dt (k := k) t
    unfold valV lookT at ih ⊢
    rw [List.map_cons, List.zip_cons_cons, List.find?_cons, List.find?_cons]
    by_cases e : p.1 = k
    · rw [decide_eq_true e, decide_eq_true (by show keysOf _ = _; rw [keysOf_keyD, e])]
      exact .some h
    · rw [decide_eq_false e, decide_eq_false (by show keysOf _ ≠ _; rw [keysOf_keyD]; simpa using e)]
      exact ih
theorem keyOf_eq {d : D} {k : Key} (h : keyOf d = some k) : d = keyD k := by
  cases d <;> simp at h <;> subst h <;> rfl
theorem key_at {K : PySem.W.Frag} {F H : Hp} {v : V} {k : Key} (h : Cn K F H v (keyD k)) : v = kV k := by
  cases k with
  | inl i => exact h.int
  | inr x => exact h.str
theorem keys_at {K : PySem.W.Frag} {F : Hp} : ∀ {ds : List D} {ks : List Key} {vs : List V}, keysOf ds = some ks → AtAll K F vs ds → vs = ks.map kV
  | [], _, _, h, .nil => by cases h; rfl
  | d :: r, ks, _, h, .cons k t => by
    rw [keysOf_cons, Option.bind_eq_some_iff] at h
    obtain ⟨k1, e1, h⟩ := h
    rw [Option.map_eq_some_iff] at h
    obtain ⟨ks', e2, rfl⟩ := h
    have hk := key_at (H := F) (.inl (keyOf_eq e1 ▸ k)); rw [List.map_cons, ← keys_at e2 t, hk]
theorem Cn.dict {K : PySem.W.Frag} {F H : Hp} {v : V} {es : List (D × D)} (s : Same F H) (h : Cn K F H v (.dict es)) : ∃ a, v = .ref a ∧
    ((∃ kvs ds, H a = some (.dK kvs) ∧ AtAll K F (kvs.map (·.2)) ds ∧ es = (kvs.map fun p => keyD p.1).zip ds) ∨
     (∃ kvs ds, H a = some (.dT kvs) ∧ AtAll K F (kvs.map (·.2)) ds ∧ es = (PyData.none, PyData.none) :: (kvs.map fun p => PyData.tuple (p.1.map keyD)).zip ds)) := by
  rcases h with h | ⟨a, o, c, e1, e2, hc, e3⟩
  · cases h with
    | dk h t => exact ⟨_, rfl, .inl ⟨_, _, s _ _ h, t, rfl⟩⟩
    | dt h t => exact ⟨_, rfl, .inr ⟨_, _, s _ _ h, t, rfl⟩⟩
  · cases hc with
    | ls k => cases e3
    | dk k1 k2 =>
      refine ⟨_, e1, .inl ⟨_, _, e2, k2, ?_⟩⟩
      rw [zip_fst_snd keyD _ _ k1]
      simpa using e3
    | dt k1 k2 =>
      refine ⟨_, e1, .inr ⟨_, _, e2, k2, ?_⟩⟩
      rw [zip_fst_snd (fun k : List Key => PyData.tuple (k.map keyD)) _ _ k1]
      simpa using e3
theorem zip_key {κ : Type} {f : κ → D} : ∀ {l : List κ} {ds : List D} {z : D × D} {r : List (D × D)}, (l.map f).zip ds = z :: r → ∃ k, z.1 = f k
  | [], _, _, _, h => by simp at h
  | _ :: _, [], _, _, h => by simp at h
  | k :: _, _ :: _, _, _, h => by simp at h; exact ⟨k, by rw [← h.1]⟩
theorem Cn.dget {K : PySem.W.Frag} {F H : Hp} {v y : V} {es : List (D × D)} {k : D} {o : Option D} (s : Same F H) (h : Cn K F H v (.dict es)) (hy : Cn K F H y k) (e : lookD es k = some o) :
    ∃ a r, v = .ref a ∧ DGet H a y r ∧ OptAt K F r o := by
  obtain ⟨a, rfl, ⟨kvs, ds, e2, ka, rfl⟩ | ⟨kvs, ds, e2, ka, rfl⟩⟩ := h.dict s
  · have e' : (keyOf k).map (lookK ((kvs.map fun p => keyD p.1).zip ds)) = some o := by
      unfold lookD at e
      split at e
      · rename_i q
        have q' := q
        rw [show (kvs.map fun p => keyD p.1) = (kvs.map (·.1)).map keyD by rw [List.map_map]; rfl] at q'
        obtain ⟨k', z⟩ := zip_key q'
        cases k' <;> cases z
      · exact e
    rw [Option.map_eq_some_iff] at e'
    obtain ⟨k1, e1, rfl⟩ := e'
    have hk := keyOf_eq e1
    subst hk
    refine ⟨a, _, rfl, .inl ⟨kvs, k1, .inl e2, key_at hy, rfl⟩, look_dk ka⟩
  · have e' : (keysD k).map (lookT ((kvs.map fun p => PyData.tuple (p.1.map keyD)).zip ds)) = some o := e
    rw [Option.map_eq_some_iff] at e'
    obtain ⟨k1, e1, rfl⟩ := e'
    cases k with
    | tuple kd =>
      rcases hy with hy | ⟨_, _, _, _, _, hc, e3⟩
      · cases hy with
        | tup ht kt => exact ⟨a, _, rfl, .inr ⟨kvs, k1, _, .inl e2, rfl, by rw [s _ _ ht, keys_at e1 kt], rfl⟩, look_dt ka⟩
      · cases hc <;> simp at e3
    | _ => cases e1
theorem OptAt.isSome {K : PySem.W.Frag} {F : Hp} {r : Option V} {o : Option D} (h : OptAt K F r o) : r.isSome = o.isSome := by cases h <;> rfl
/-! ### in -/
theorem okD_list {ds : List D} (h : okD (.list ds) = true) : PyData.plainAll ds = true ∧ PyData.depthAll ds ≤ 63 := by
  rw [okD_iff] at h
  have h2 := h.2
  have h1 := h.1
  simp only [PyData.plain, PyData.depth] at h1 h2
  exact ⟨h1, by omega⟩
theorem flat_ok : ∀ {ds : List D}, ds.all isFl = true → PyData.plainAll ds = true ∧ PyData.depthAll ds ≤ 1
  | [], _ => ⟨rfl, by simp [PyData.depthAll]⟩
  | d :: r, h => by
    simp only [List.all_cons, Bool.and_eq_true] at h
    have ih := flat_ok h.2
    cases d <;> simp at h <;> simp [PyData.plainAll, PyData.depthAll, PyData.plain, PyData.depth, ih.1] <;> omega
theorem op_inGen (hu : X.A.units + 64 < cLine) (sg : Bool) : OpR X (compareOp (if sg then .In else .NotIn)) (rG X.K fun x c => (inD x c).map fun b => .va (.bool (if sg then b else !b))) := by
  rintro pins s σ H x y v u Q I rx ry ⟨F, d, e, o, sF, cx, cy, hg, q⟩
  rw [Option.map_eq_some_iff] at hg
  obtain ⟨b, hb, rfl⟩ := hg
  have q : Q (.bl (if sg then b else !b)) H := q _ (.bl _)
  cases e with
  | list ds =>
    simp only [inD] at hb
    split at hb
    · rename_i hc
      cases hb
      obtain ⟨hx, hl⟩ := hc
      have hl2 := okD_list hl
      rw [okD_iff] at hx hl
      obtain ⟨as, ra⟩ := Dp.reads I _ _ _ (At.dp hx.1 (cx.at sF)) rx
      obtain ⟨bs, rb⟩ := Dp.reads I _ _ _ (At.dp hl.1 (cy.at sF)) ry
      have hm : min (PyData.depthAll ds) d.depth ≤ 63 := Nat.le_trans (Nat.min_le_left _ _) hl2.2
      cases sg with
      | true => exact SeqAt.in_list_data rb ra hl2.1 hx.1 (by omega) (fin_bl I q rfl)
      | false => exact SeqAt.notIn_list_data rb ra hl2.1 hx.1 (by omega) (fin_bl I q rfl)
    · cases hb
  | tuple ds =>
    simp only [inD] at hb
    split at hb
    · rename_i hc
      cases hb
      obtain ⟨hx, hl⟩ := hc
      have hl2 := flat_ok hl
      have hx1 : d.plain = true := by cases d <;> simp at hx <;> rfl
      obtain ⟨as, ra⟩ := Dp.reads I _ _ _ (At.dp hx1 (cx.at sF)) rx
      obtain ⟨bs, rb⟩ := Dp.reads I _ _ _ (At.dp (d := .tuple ds) (by simpa [PyData.plain] using hl2.1) (cy.at sF)) ry
      have hm : min (PyData.depthAll ds) d.depth ≤ 1 := Nat.le_trans (Nat.min_le_left _ _) hl2.2
      cases sg with
      | true => exact SeqAt.in_tuple_data rb ra hl2.1 hx1 (by omega) (fin_bl I q rfl)
      | false => exact SeqAt.notIn_tuple_data rb ra hl2.1 hx1 (by omega) (fin_bl I q rfl)
    · cases hb
  | str z =>
    cases d with
    | str a =>
      simp only [inD] at hb
      split at hb
      · rename_i hl
        cases hb
        obtain ⟨c, hc⟩ : ∃ c, a = ⟨#[c]⟩ := by
          obtain ⟨⟨l⟩⟩ := a
          match l, hl with
          | [c], _ => exact ⟨c, rfl⟩
        subst hc
        cases sg with
        | true => exact op_in_sign pins s σ H x y v u Q I rx ry ⟨c, z, cx.str, cy.str, q⟩
        | false => exact op_notIn_sign pins s σ H x y v u Q I rx ry ⟨c, z, cx.str, cy.str, q⟩
      · cases hb
    | _ => cases hb
  | dict es =>
    simp only [inD] at hb
    rw [Option.map_eq_some_iff] at hb
    obtain ⟨o, e1, rfl⟩ := hb
    obtain ⟨a, r, rfl, g, k⟩ := cy.dget sF cx e1
    cases ry
    rw [← k.isSome] at q
    cases sg with
    | true => exact d_in (by omega) I g rx fun s' I' => ⟨.bl _, H, I', rfl, q⟩
    | false => exact d_notIn (by omega) I g rx fun s' I' => ⟨.bl _, H, I', rfl, q⟩
  | _ => cases hb
theorem op_inD' (hu : X.A.units + 64 < cLine) : OpR X (compareOp .In) (rG X.K gIn) := op_inGen hu true
theorem op_notInD' (hu : X.A.units + 64 < cLine) : OpR X (compareOp .NotIn) (rG X.K gNotIn) := op_inGen hu false
end
end Z

set_option Elab.async false
set_option linter.all false
set_option maxRecDepth 100000
set_option maxHeartbeats 4000000
/-! Z10: a name's object is changed. -/
namespace Z
open PySem PySem.Spec L2
section
variable {K : PySem.W.Frag} {B : Base} {tm : List (Addr × HO)} {env : DEnv} {σ : L2.St} {F H : Hp}
theorem upd_other {H : Hp} {a b : Addr} {o : HO} (h : b ≠ a) : upd H a o b = H b := by
  unfold upd
  rw [if_neg h]
theorem reC_cases {s : Slot} {c : Ow} {i : Nat} {c0 : Ow} (h : ownAt env i = some c0) (hs : slotAt env i = some s) : (s = .ow c0 ∧ reC s c = .ow c) ∨ (s = .le c0 ∧ reC s c = .le c) := by
  rcases own_cases h with e | e
  · rw [hs] at e; cases e; exact .inl ⟨rfl, rfl⟩
  · rw [hs] at e; cases e; exact .inr ⟨rfl, rfl⟩
theorem any_setOw {i j : Nat} {c c0 c1 : Ow} (h : ownAt env i = some c0) (e : anyAt (Z.setOw env i c) j = some c1) : ∃ c2, anyAt env j = some c2 := by
  rcases any_cases e with e | e | e <;> rw [setOw_slot] at e <;> split at e
  case inl.isTrue ij => exact ⟨c0, ij ▸ any_of_own h⟩
  case inr.inl.isTrue ij => exact ⟨c0, ij ▸ any_of_own h⟩
  case inr.inr.isTrue ij => exact ⟨c0, ij ▸ any_of_own h⟩
  case inl.isFalse => exact ⟨_, any_of_ow e⟩
  case inr.inl.isFalse => exact ⟨_, any_of_le e⟩
  case inr.inr.isFalse => exact ⟨_, any_of_hd e⟩
theorem Rep.mutOw {i : Nat} {a : Addr} {c c' : Ow} {o' : HO} (r : Rep K B tm env σ F H) (hc : ownAt env i = some c) (hs : σ[i]? = some (some (.ref a))) (h' : OwAt K F o' c') : Rep K B tm (Z.setOw env i c') σ F (upd H a o') := by
  obtain ⟨a1, o1, q1, q2, q3, q4⟩ := r.own (any_of_own hc)
  rw [hs] at q1
  cases q1
  have si : ∃ s, slotAt env i = some s ∧ ((s = .ow c ∧ reC s c' = .ow c') ∨ (s = .le c ∧ reC s c' = .le c')) := by
    rcases own_cases hc with e | e
    · exact ⟨_, e, reC_cases hc e⟩
    · exact ⟨_, e, reC_cases hc e⟩
  obtain ⟨s, hsl, hrc⟩ := si
  have slot : ∀ j, slotAt (Z.setOw env i c') j = if i = j then some (reC s c') else slotAt env j := by
    intro j
    rw [setOw_slot]
    by_cases ij : i = j
    · rw [if_pos ij, if_pos ij, ← ij, hsl]; rfl
    · rw [if_neg ij, if_neg ij]
  have far : ∀ (j : Nat) (b : Addr) (c2 : Ow), i ≠ j → anyAt env j = some c2 → σ[j]? = some (some (.ref b)) → b ≠ a := fun j b c2 ij e1 e2 z => ij (r.one i j a c c2 (any_of_own hc) e1 hs (z ▸ e2))
  refine ⟨?_, ?_, r.old, r.big, setOw_len.trans r.len, ?_, ?_, ?_, ?_, ?_, ?_, ?_, r.tmd, ?_, ?_⟩
  · intro b u e
    rw [upd_other (fun z => by rw [z, q4] at e; cases e)]
    exact r.sub b u e
  · intro b u e hl
    have : b ≠ a := by
      intro z
      subst z
      rcases hrc with ⟨rfl, _⟩ | ⟨rfl, _⟩
      · obtain ⟨b, _, e1, _, _, _, e2⟩ := r.ow i _ hsl
        rw [hs] at e1; cases e1
        rw [e2] at e; cases e
      · obtain ⟨b, hb⟩ := r.lei i _ hsl
        obtain ⟨_, _, _, e1, _⟩ := r.le i b hb
        rw [hs] at e1; cases e1
        exact hl i hb
    rw [upd_other this]
    exact r.keep b u e hl
  · intro j d e
    rw [slot] at e
    split at e
    · rcases hrc with ⟨_, z⟩ | ⟨_, z⟩ <;> rw [z] at e <;> cases e
    · exact r.sh j d e
  · intro j c2 e
    rw [slot] at e
    split at e
    · rename_i ij
      subst ij
      rcases hrc with ⟨z1, z⟩ | ⟨_, z⟩ <;> rw [z] at e <;> cases e
      subst z1
      obtain ⟨b, _, e1, _, _, _, e2⟩ := r.ow i _ hsl
      rw [hs] at e1; cases e1
      exact ⟨a, o', hs, upd_same, h', q4, e2⟩
    · rename_i ij
      obtain ⟨b, u, e1, e2, e3, e4, e5⟩ := r.ow j c2 e
      exact ⟨b, u, e1, by rw [upd_other (far j b c2 ij (any_of_ow e) e1)]; exact e2, e3, e4, e5⟩
  · intro j b hb
    obtain ⟨c2, u, e1, e2, e3, e4, e5, e6⟩ := r.le j b hb
    by_cases ij : i = j
    · subst ij
      rw [hs] at e2; cases e2
      rw [hsl] at e1; cases e1
      rcases hrc with ⟨z, _⟩ | ⟨_, z⟩
      · cases z
      · exact ⟨c', o', by rw [slot, if_pos rfl, z], hs, upd_same, h', e5, e6⟩
    · exact ⟨c2, u, by rw [slot, if_neg ij]; exact e1, e2, by rw [upd_other (far j b c2 ij (any_of_le e1) e2)]; exact e3, e4, e5, e6⟩
  · intro j c2 e
    rw [slot] at e
    split at e
    · rename_i ij
      subst ij
      rcases hrc with ⟨_, z⟩ | ⟨z1, z⟩ <;> rw [z] at e <;> cases e
      subst z1
      exact r.lei i _ hsl
    · exact r.lei j c2 e
  · intro j b hb
    obtain ⟨c2, u, e1, e2, e3, e4, e5, e6⟩ := r.hd j b hb
    by_cases ij : i = j
    · subst ij
      rw [hsl] at e1; cases e1
      rcases hrc with ⟨z, _⟩ | ⟨z, _⟩ <;> cases z
    · exact ⟨c2, u, by rw [slot, if_neg ij]; exact e1, e2, by rw [upd_other (far j b c2 ij (any_of_hd e1) e2)]; exact e3, e4, e5, e6⟩
  · intro j c2 e
    rw [slot] at e
    split at e
    · rcases hrc with ⟨_, z⟩ | ⟨_, z⟩ <;> rw [z] at e <;> cases e
    · exact r.hdi j c2 e
  · intro p hp
    obtain ⟨e1, e2, e3⟩ := r.tmk p hp
    have : p.1 ≠ a := fun z => r.tmo p hp i c (any_of_own hc) (z ▸ hs)
    exact ⟨by rw [upd_other this]; exact e1, e2, e3⟩
  · intro p hp j c2 e
    obtain ⟨c3, e3⟩ := any_setOw hc e
    exact r.tmo p hp j c3 e3
  · intro j k b c2 c3 e1 e2 h1 h2
    obtain ⟨c4, e4⟩ := any_setOw hc e1
    obtain ⟨c5, e5⟩ := any_setOw hc e2
    exact r.one j k b c4 c5 e4 e5 h1 h2
end
end Z

set_option Elab.async false
set_option linter.all false
set_option maxRecDepth 100000
set_option maxHeartbeats 4000000
/-! Z11: subscripts, slices, built-ins, methods. -/
namespace Z
open PySem PySem.Spec L2
section
variable {X : Cx} {W : WX} {a b e : Expr} {fa fb fc : E} {pos p : Pos}
theorem tE.mono {f : E} {σ : L2.St} {H : Hp} {Q Q' : VK} (h : tE X W f σ H Q) (q : ∀ v H', Q v H' → Q' v H') : tE X W f σ H Q' := by
  obtain ⟨B, tm, env, F, r, h⟩ := h
  exact ⟨B, tm, env, F, r, h.imp fun o env1 h1 v F1 H1 s1 r1 k1 => q _ _ (h1 v F1 H1 s1 r1 k1)⟩
theorem eBin_or {g g1 g2 : D → D → Option Out} (hg : ∀ d e, g d e = g1 d e ∨ g d e = g2 d e) (env : DEnv) : eBin g fa fb env = eBin g1 fa fb env ∨ eBin g fa fb env = eBin g2 fa fb env := by
  unfold eBin
  cases fa env with
  | bad => exact .inl rfl
  | exc c env1 => exact .inl rfl
  | ok o env1 =>
    simp only [bind_ok]
    cases fb env1 with
    | bad => exact .inl rfl
    | exc c env2 => exact .inl rfl
    | ok o2 env2 =>
      simp only [bind_ok]
      cases rd o env2 with
      | none => exact .inl rfl
      | some d1 =>
        cases rd o2 env2 with
        | none => exact .inl rfl
        | some d2 =>
          rcases hg d1 d2 with h | h <;> simp only [h]
          · exact .inl trivial
          · exact .inr trivial
theorem tE_eq {f f' : E} {σ : L2.St} {H : Hp} {Q : VK} (h : tE X W f σ H Q) : ∃ env, f env = f' env → tE X W f' σ H Q := by
  obtain ⟨B, tm, env, F, r, h⟩ := h
  exact ⟨env, fun e => ⟨B, tm, env, F, r, e ▸ h⟩⟩
theorem tE_or {f f1 f2 : E} {σ : L2.St} {H : Hp} {Q : VK} (h : tE X W f σ H Q) (e : ∀ env, f env = f1 env ∨ f env = f2 env) : tE X W f1 σ H Q ∨ tE X W f2 σ H Q := by
  obtain ⟨B, tm, env, F, r, h⟩ := h
  rcases e env with e | e
  · exact .inl ⟨B, tm, env, F, r, e ▸ h⟩
  · exact .inr ⟨B, tm, env, F, r, e ▸ h⟩
theorem bin_inR {g : D → D → Option Out} {R : R2} (hR : ∀ x y H Q, rG X.K g x y H Q → R x y H Q) {σ : L2.St} {H : Hp} {Q : VK} (h : tE X W (eBin g fa fb) σ H Q) : tOp R (tE X W fa) (tE X W fb) σ H Q :=
  tE.mono (bin_in h) fun x H1 h1 => tE.mono h1 fun y H2 h2 => hR _ _ _ _ h2
theorem AtAll.atI {K : PySem.W.Frag} {F : Hp} {vs : List V} {ds : List D} {i : Int} {d : D} (k : AtAll K F vs ds) (h : L2.atI ds i = some d) : ∃ v, L2.atI vs i = some v ∧ At K F v d := by
  unfold L2.atI at h ⊢
  rw [Option.bind_eq_some_iff] at h
  obtain ⟨j, e1, e2⟩ := h
  obtain ⟨v, e3, kv⟩ := k.get e2
  exact ⟨v, by rw [k.length, e1]; exact e3, kv⟩
theorem ix_all : IxR X (rG X.K gIxS) := by
  rintro value slice pins s σ H x y v u Q I rx ry ⟨F, d, e, o, sF, cx, cy, hg, q⟩ hs
  cases e with
  | int i =>
    have hy := cy.int
    cases d with
    | list ds =>
      simp only [gIxS, Option.map_eq_some_iff] at hg
      obtain ⟨d, e1, rfl⟩ := hg
      obtain ⟨l, vs, rfl, hq, ka⟩ := cx.lst sF
      obtain ⟨z, e2, kz⟩ := ka.atI e1
      exact ix_list value slice pins s σ H _ _ v u Q I rx ry ⟨l, vs, i, z, rfl, hy, hq, e2, q z kz⟩ hs
    | tuple ds =>
      simp only [gIxS, Option.map_eq_some_iff] at hg
      obtain ⟨d, e1, rfl⟩ := hg
      obtain ⟨l, vs, rfl, hq, ka⟩ := cx.tup sF
      obtain ⟨z, e2, kz⟩ := ka.atI e1
      exact ix_tup value slice pins s σ H _ _ v u Q I rx ry ⟨l, vs, i, z, rfl, hy, hq, e2, q z kz⟩ hs
    | str z =>
      simp only [gIxS] at hg
      split at hg
      · rename_i hl
        rw [Option.map_eq_some_iff] at hg
        obtain ⟨c, e1, rfl⟩ := hg
        exact ix_str value slice pins s σ H _ _ v u Q I rx ry ⟨z, i, c, cx.str, hy, line_le hl, e1, q _ (.str _)⟩ hs
      · cases hg
    | _ => cases hg
  | _ => cases d <;> cases hg
theorem dget_in {σ : L2.St} {H : Hp} {Q : VK} (h : tE X W (eBin gIxD fa fb) σ H Q) : tDGet (tE X W fa) (tE X W fb) σ H Q := by
  refine bin_inR (R := fun x y H2 Q => ∃ a v, x = .ref a ∧ DGet H2 a y (some v) ∧ Q v H2) ?_ h
  rintro x y H Q ⟨F, d, e, o, sF, cx, cy, hg, q⟩
  cases d with
  | dict es =>
    simp only [gIxD, Option.map_eq_some_iff, Option.bind_eq_some_iff] at hg
    obtain ⟨d, ⟨o1, e1, e2⟩, rfl⟩ := hg
    cases e2
    obtain ⟨a, r, rfl, g, k⟩ := cx.dget sF cy e1
    cases k with
    | some kv => exact ⟨a, _, rfl, g, q _ kv⟩
  | _ => cases hg
theorem de_ix (hu : X.A.units + 64 < cLine) (ha : DE X W a fa) (hb : DE X W b fb) (hs : PlainIx b := by intro _ _; rfl) : DE X W (.Subscript a b pos) (eBin gIx fa fb) := by
  refine PE.by fun σ H Q h => ?_
  rcases tE_or (f1 := eBin gIxS fa fb) (f2 := eBin gIxD fa fb) h (eBin_or fun d e => by cases d <;> first | exact .inl rfl | exact .inr rfl) with h | h
  · exact ⟨_, pe_ix ix_all ha hb hs, bin_in h⟩
  · exact ⟨_, pe_dget (by omega) ha hb hs, dget_in h⟩
/-! ### slices -/
def tPo (X : Cx) (W : WX) (f : Po) : TO := fun σ H Q => ∃ B tm env F, Rep X.K B tm env σ F H ∧
  RQ X W B tm σ (fun i env' => ∀ F' H', Same F F' → Rep X.K B tm env' σ F' H' → Q i H') (f env)
abbrev DPo (X : Cx) (W : WX) (e : Option Expr) (f : Po) : Prop := PO X e (tPo X W f)
theorem PO.imp {X : Cx} {e : Option Expr} {t t' : TO} (h : PO X e t) (hi : ∀ σ H Q, t' σ H Q → t σ H Q) : PO X e t' := ⟨fun pins s σ H Q I q => h.run pins s σ H Q I (hi σ H Q q)⟩
theorem dpo_none : DPo X W none poNone := PO.imp po_none fun σ H Q ⟨B, tm, env, F, r, h⟩ => h F H (Same.refl _) r
theorem dpo_some (he : DE X W e fa) : DPo X W (some e) (poSome fa) := by
  refine PO.imp (po_some he) fun σ H Q ⟨B, tm, env, F, r, h⟩ => ⟨B, tm, env, F, r, (RQ.bind h).imp fun o env1 h1 v F1 H1 s1 r1 k1 => ?_⟩
  obtain ⟨F2, s2, r2, k2⟩ := r1.keepO k1
  cases e1 : rd o env1 with
  | none => rw [e1] at h1; exact h1.elim
  | some d =>
    rw [e1] at h1
    have k := r2.rdK k2 e1
    cases d with
    | int i => exact ⟨i, k.int, h1 F2 H1 (s1.trans s2) r2⟩
    | _ => exact h1.elim
def rSlG (K : PySem.W.Frag) : V → Option Int → Option Int → Hp → VK → Prop := fun x lo hi H Q => ∃ F d o, Same F H ∧ Cn K F H x d ∧ gSl lo hi d = some o ∧ OutQ K F H o Q
theorem AtAll.cut {K : PySem.W.Frag} {F : Hp} {vs : List V} {ds : List D} (k : AtAll K F vs ds) (lo hi : Option Int) : AtAll K F (L2.cutV vs lo hi) (cutD ds lo hi) := by
  unfold L2.cutV cutD
  rw [k.length]
  exact (k.drop _).take _
theorem sl_all : SlR X (rSlG X.K) := by
  rintro pins s σ H x v vl vu lo hi sl Q I rx hs pl pu ⟨F, d, o, sF, cx, hg, q⟩
  cases d with
  | list ds =>
    cases hg
    obtain ⟨l, vs, rfl, hq, ka⟩ := cx.lst sF
    exact sl_list pins s σ H _ v vl vu lo hi sl Q I rx hs pl pu ⟨l, vs, rfl, hq, fun p hp => q p _ hp (ka.cut lo hi)⟩
  | tuple ds =>
    simp only [gSl] at hg
    split at hg
    · cases hg
    · rename_i hn
      cases hg
      obtain ⟨l, vs, rfl, hq, ka⟩ := cx.tup sF
      exact sl_tup pins s σ H _ v vl vu lo hi sl Q I rx hs pl pu ⟨l, vs, rfl, hq, by rw [ka.length]; exact hn, fun p hp => q p _ hp (ka.cut lo hi)⟩
  | str z =>
    simp only [gSl] at hg
    split at hg
    · rename_i hl
      cases hg
      exact sl_str pins s σ H _ v vl vu lo hi sl Q I rx hs pl pu ⟨z, cx.str, line_le hl, q _ (.str _)⟩
    · cases hg
  | _ => cases hg
theorem de_sl {lo hi : Option Expr} {fl fh : Po} {p2 : Pos} (ha : DE X W a fa) (hl : DPo X W lo fl) (hh : DPo X W hi fh) : DE X W (.Subscript a (.Slice lo hi none p2) pos) (eSl fa fl fh) := by
  refine PE.imp (pe_slice sl_all ha hl hh) fun σ H Q ⟨B, tm, env, F, r, h⟩ => ⟨B, tm, env, F, r, (RQ.bind h).imp fun o1 env1 h1 v F1 H1 s1 r1 k1 => ?_⟩
  obtain ⟨F1', s1', r1', k1'⟩ := r1.keepO k1
  refine ⟨B, tm, env1, F1', r1', (RQ.bind h1).imp fun l env2 h2 F2 H2 s2 r2 => ?_⟩
  refine ⟨B, tm, env2, F2, r2, (RQ.bind h2).imp fun u env3 h3 F3 H3 s3 r3 => ?_⟩
  cases e1 : rd o1 env3 with
  | none => rw [e1] at h3; exact h3.elim
  | some d1 =>
    rw [e1] at h3
    obtain ⟨o, ho, q⟩ := outQ_of (Q := Q) (F := F3) r3 (h3.imp fun a en h v F' H' s => h v F' H' (s1.trans (s1'.trans (s2.trans (s3.trans s)))))
    exact ⟨F3, d1, o, r3.sub, r3.rdK (k1'.mono (s2.trans s3)) e1, ho, q⟩
theorem de_rev {k : Nat} {p1 p2 p3 : Pos} (ha : DE X W a fa) : DE X W (.Subscript a (.Slice none none (some (.UnaryOp .USub (.Constant (.int 1) k p1) p2)) p3) pos) (eUn gRev fa) := by
  refine PE.imp (pe_revL ha) fun σ H Q h => tE.mono (un_in h) fun x H1 ⟨F, d, o, sF, cx, hg, q⟩ => ?_
  cases d with
  | list ds =>
    cases hg
    obtain ⟨l, vs, rfl, hq, ka⟩ := cx.lst sF
    exact ⟨l, vs, rfl, hq, fun p hp => q p _ hp ka.reverse⟩
  | _ => cases hg
/-! ### built-in functions and types -/
def rC1 (K : PySem.W.Frag) (g : D → Option Out) : List V → Hp → VK → Prop := fun xs H Q => ∃ x, xs = [x] ∧ rG1 K g x H Q
def rC2 (K : PySem.W.Frag) (g : D → D → Option Out) : List V → Hp → VK → Prop := fun xs H Q => ∃ x y, xs = [x, y] ∧ rG K g x y H Q
theorem de_b1 {x : Str} {id : String} {g : D → Option Out} (hc : CallR X (.builtin id) (rC1 X.K g)) (ha : DE X W a fa) (hg : Gl X x) (hm : X.mg x = none) (hv : bootBuiltins x = some (.builtin id) := by rfl) (hn : x ≠ "__name__" := by decide) (hdb : (x == ("__debug__" : Str)) = false := by decide)
    (he : starEach [a] X.env = (false, eval a X.env) :: starEach [] X.env := by rfl) : DE X W (.Call (.Name x p) [a] [] pos) (eUn g fa) :=
  PE.imp (pe_callB hc hg hm hv (pa_cons ha pa_nil he) hn hdb he rfl) fun σ H Q h => tE.mono (un_in h) fun x H1 h1 => ⟨x, rfl, h1⟩
theorem de_t1 {x : Str} {id : String} {g : D → Option Out} (hc : CallR X (.type id) (rC1 X.K g)) (ha : DE X W a fa) (hg : Gl X x) (hm : X.mg x = none) (hv : bootBuiltins x = some (.type id) := by rfl) (hn : x ≠ "__name__" := by decide) (hdb : (x == ("__debug__" : Str)) = false := by decide)
    (he : starEach [a] X.env = (false, eval a X.env) :: starEach [] X.env := by rfl) : DE X W (.Call (.Name x p) [a] [] pos) (eUn g fa) :=
  PE.imp (pe_callTy hc hg hm hv (pa_cons ha pa_nil he) hn hdb he rfl) fun σ H Q h => tE.mono (un_in h) fun x H1 h1 => ⟨x, rfl, h1⟩
theorem de_b2 {x : Str} {id : String} {g : D → D → Option Out} (hc : CallR X (.builtin id) (rC2 X.K g)) (ha : DE X W a fa) (hb : DE X W b fb) (hg : Gl X x) (hm : X.mg x = none) (hv : bootBuiltins x = some (.builtin id) := by rfl) (hn : x ≠ "__name__" := by decide) (hdb : (x == ("__debug__" : Str)) = false := by decide)
    (he : starEach [a, b] X.env = (false, eval a X.env) :: starEach [b] X.env := by rfl) (he2 : starEach [b] X.env = (false, eval b X.env) :: starEach [] X.env := by rfl) (hpl : (backTo pos (starEach [b] X.env)).any (·.1) = false := by rfl) : DE X W (.Call (.Name x p) [a, b] [] pos) (eBin g fa fb) :=
  PE.imp (pe_callB hc hg hm hv (pa_cons ha (pa_cons hb pa_nil he2) he) hn hdb he hpl) fun σ H Q h => tE.mono (bin_in h) fun x H1 h1 => tE.mono h1 fun y H2 h2 => ⟨x, y, rfl, h2⟩
theorem cb_len : CallR X (.builtin "len") (rC1 X.K gLen) := by
  rintro pins s σ H xs us Q I r ⟨x, rfl, F, d, o, sF, cx, hg, q⟩
  cases d with
  | list ds =>
    cases hg
    obtain ⟨l, vs, rfl, hq, ka⟩ := cx.lst sF
    exact call_len pins s σ H _ us Q I r ⟨_, _, rfl, .inl ⟨vs, hq, ka.length.symm⟩, q _ (.int _)⟩
  | tuple ds =>
    cases hg
    obtain ⟨l, vs, rfl, hq, ka⟩ := cx.tup sF
    exact call_len pins s σ H _ us Q I r ⟨_, _, rfl, .inr ⟨vs, hq, ka.length.symm⟩, q _ (.int _)⟩
  | str z =>
    simp only [gLen] at hg
    split at hg
    · rename_i hl
      cases hg
      cases cx.str
      exact call_len pins s σ H _ us Q I r ⟨_, _, rfl, ⟨line_le hl, rfl⟩, q _ (.int _)⟩
    · cases hg
  | _ => cases hg
theorem cb_min2 (hcalm : X.calm = true) : CallR X (.builtin "min") (rC2 X.K gMin2) := by
  rintro pins s σ H xs us Q I r ⟨x, y, rfl, F, d, e, o, sF, cx, cy, hg, q⟩
  cases d with
  | int i =>
    cases e with
    | int j =>
      cases hg
      exact call_min2 hcalm pins s σ H _ us Q I r ⟨i, j, by rw [cx.int, cy.int], by
        have e : (if j < i then j else i) = min i j := by split <;> omega
        rw [e]; exact q _ (.int _)⟩
    | _ => cases hg
  | _ => cases hg
theorem cb_max2 (hcalm : X.calm = true) : CallR X (.builtin "max") (rC2 X.K gMax2) := by
  rintro pins s σ H xs us Q I r ⟨x, y, rfl, F, d, e, o, sF, cx, cy, hg, q⟩
  cases d with
  | int i =>
    cases e with
    | int j =>
      cases hg
      exact call_max2 hcalm pins s σ H _ us Q I r ⟨i, j, by rw [cx.int, cy.int], by
        have e : (if j > i then j else i) = max i j := by split <;> omega
        rw [e]; exact q _ (.int _)⟩
    | _ => cases hg
  | _ => cases hg
theorem toInts_eq : ∀ {ds : List D} {ns : List Int}, toInts ds = some ns → ds = ns.map PyData.int
  | [], _, h => by cases h; rfl
  | .int i :: r, ns, h => by
    rw [toInts_cons, Option.map_eq_some_iff] at h
    obtain ⟨ns', e, rfl⟩ := h
    rw [toInts_eq e]; rfl
theorem toBools_eq : ∀ {ds : List D} {ns : List Bool}, toBools ds = some ns → ds = ns.map PyData.bool
  | [], _, h => by cases h; rfl
  | .bool i :: r, ns, h => by
    rw [toBools_cons, Option.map_eq_some_iff] at h
    obtain ⟨ns', e, rfl⟩ := h
    rw [toBools_eq e]; rfl
theorem foldl_max_mem : ∀ (l : List Int) (x : Int), (l.foldl max x = x ∨ l.foldl max x ∈ l) ∧ x ≤ l.foldl max x ∧ ∀ y ∈ l, y ≤ l.foldl max x
  | [], x => ⟨.inl rfl, Int.le_refl _, fun y h => nomatch h⟩
  | z :: l, x => by
    obtain ⟨h1, h2, h3⟩ := foldl_max_mem l (max x z)
    rw [List.foldl_cons]
    refine ⟨?_, by omega, fun y hy => ?_⟩
    · rcases h1 with h1 | h1
      · rw [h1]
        by_cases h : x ≤ z
        · exact .inr (by rw [Int.max_eq_right h]; exact List.mem_cons_self)
        · exact .inl (Int.max_eq_left (by omega))
      · exact .inr (List.mem_cons_of_mem _ h1)
    · rcases List.mem_cons.mp hy with rfl | hy
      · omega
      · exact h3 y hy
theorem foldl_min_mem : ∀ (l : List Int) (x : Int), (l.foldl min x = x ∨ l.foldl min x ∈ l) ∧ l.foldl min x ≤ x ∧ ∀ y ∈ l, l.foldl min x ≤ y
  | [], x => ⟨.inl rfl, Int.le_refl _, fun y h => nomatch h⟩
  | z :: l, x => by
    obtain ⟨h1, h2, h3⟩ := foldl_min_mem l (min x z)
    rw [List.foldl_cons]
    refine ⟨?_, by omega, fun y hy => ?_⟩
    · rcases h1 with h1 | h1
      · rw [h1]
        by_cases h : x ≤ z
        · exact .inl (Int.min_eq_left h)
        · exact .inr (by rw [Int.min_eq_right (by omega)]; exact List.mem_cons_self)
      · exact .inr (List.mem_cons_of_mem _ h1)
    · rcases List.mem_cons.mp hy with rfl | hy
      · omega
      · exact h3 y hy
theorem max_is {l : List Int} {x m : Int} (h : m ∈ x :: l) (hm : ∀ y, y ∈ x :: l → y ≤ m) : m = l.foldl max x := by
  obtain ⟨h1, h2, h3⟩ := foldl_max_mem l x
  have a : l.foldl max x ≤ m := by
    rcases h1 with h1 | h1
    · rw [h1]; exact hm _ List.mem_cons_self
    · exact hm _ (List.mem_cons_of_mem _ h1)
  have b : m ≤ l.foldl max x := by
    rcases List.mem_cons.mp h with rfl | h
    · exact h2
    · exact h3 _ h
  omega
theorem min_is {l : List Int} {x m : Int} (h : m ∈ x :: l) (hm : ∀ y, y ∈ x :: l → m ≤ y) : m = l.foldl min x := by
  obtain ⟨h1, h2, h3⟩ := foldl_min_mem l x
  have a : m ≤ l.foldl min x := by
    rcases h1 with h1 | h1
    · rw [h1]; exact hm _ List.mem_cons_self
    · exact hm _ (List.mem_cons_of_mem _ h1)
  have b : l.foldl min x ≤ m := by
    rcases List.mem_cons.mp h with rfl | h
    · exact h2
    · exact h3 _ h
  omega
theorem cb_max (hcalm : X.calm = true) : CallR X (.builtin "max") (rC1 X.K gMax) := by
  rintro pins s σ H xs us Q I r ⟨x, rfl, F, d, o, sF, cx, hg, q⟩
  cases d with
  | list ds =>
    simp only [gMax, Option.map_eq_some_iff, Option.bind_eq_some_iff] at hg
    obtain ⟨m, ⟨ns, e1, e2⟩, rfl⟩ := hg
    cases toInts_eq e1
    obtain ⟨l, vs, rfl, hq, ka⟩ := cx.lst sF
    cases ka.of_ints
    cases ns with
    | nil => cases e2
    | cons n ns =>
      cases e2
      exact cr_max hcalm pins s σ H _ us Q I r ⟨l, _, rfl, hq, by simp, fun m h1 h2 => by rw [max_is h1 h2]; exact q _ (.int _)⟩
  | _ => cases hg
theorem cb_min (hcalm : X.calm = true) : CallR X (.builtin "min") (rC1 X.K gMin) := by
  rintro pins s σ H xs us Q I r ⟨x, rfl, F, d, o, sF, cx, hg, q⟩
  cases d with
  | list ds =>
    simp only [gMin, Option.map_eq_some_iff, Option.bind_eq_some_iff] at hg
    obtain ⟨m, ⟨ns, e1, e2⟩, rfl⟩ := hg
    cases toInts_eq e1
    obtain ⟨l, vs, rfl, hq, ka⟩ := cx.lst sF
    cases ka.of_ints
    cases ns with
    | nil => cases e2
    | cons n ns =>
      cases e2
      exact cr_min hcalm pins s σ H _ us Q I r ⟨l, _, rfl, hq, by simp, fun m h1 h2 => by rw [min_is h1 h2]; exact q _ (.int _)⟩
  | _ => cases hg
theorem cb_sum (hcalm : X.calm = true) : CallR X (.builtin "sum") (rC1 X.K gSum) := by
  rintro pins s σ H xs us Q I r ⟨x, rfl, F, d, o, sF, cx, hg, q⟩
  cases d with
  | list ds =>
    simp only [gSum, Option.map_eq_some_iff] at hg
    obtain ⟨ns, e1, rfl⟩ := hg
    cases toInts_eq e1
    obtain ⟨l, vs, rfl, hq, ka⟩ := cx.lst sF
    cases ka.of_ints
    exact cr_sum hcalm pins s σ H _ us Q I r ⟨l, _, rfl, hq, q _ (.int _)⟩
  | _ => cases hg
theorem cb_all (hcalm : X.calm = true) : CallR X (.builtin "all") (rC1 X.K gAll) := by
  rintro pins s σ H xs us Q I r ⟨x, rfl, F, d, o, sF, cx, hg, q⟩
  cases d with
  | list ds =>
    simp only [gAll, Option.map_eq_some_iff] at hg
    obtain ⟨ns, e1, rfl⟩ := hg
    cases toBools_eq e1
    obtain ⟨l, vs, rfl, hq, ka⟩ := cx.lst sF
    cases ka.of_bools
    exact cr_all hcalm pins s σ H _ us Q I r ⟨l, _, rfl, hq, q _ (.bl _)⟩
  | _ => cases hg
theorem cb_any (hcalm : X.calm = true) : CallR X (.builtin "any") (rC1 X.K gAny) := by
  rintro pins s σ H xs us Q I r ⟨x, rfl, F, d, o, sF, cx, hg, q⟩
  cases d with
  | list ds =>
    simp only [gAny, Option.map_eq_some_iff] at hg
    obtain ⟨ns, e1, rfl⟩ := hg
    cases toBools_eq e1
    obtain ⟨l, vs, rfl, hq, ka⟩ := cx.lst sF
    cases ka.of_bools
    exact cr_any hcalm pins s σ H _ us Q I r ⟨l, _, rfl, hq, q _ (.bl _)⟩
  | _ => cases hg
theorem zip_fst {κ : Type} (f : κ → D) : ∀ {kvs : List (κ × V)} {ds : List D}, kvs.length = ds.length → ((kvs.map fun p => f p.1).zip ds).map (·.1) = kvs.map fun p => f p.1
  | [], [], _ => rfl
  | _ :: kvs, _ :: ds, h => by
    rw [List.map_cons, List.zip_cons_cons, List.map_cons, zip_fst f (by simpa using h)]
theorem at_keys {K : PySem.W.Frag} {F : Hp} : ∀ (kvs : List (Key × V)), AtAll K F (kvs.map fun kv => kV kv.1) (kvs.map fun p => keyD p.1)
  | [] => .nil
  | ⟨k, _⟩ :: r => .cons (by cases k <;> constructor) (at_keys r)
theorem cb_list (hcalm : X.calm = true) : CallR X (.type "list") (rC1 X.K gList) := by
  rintro pins s σ H xs us Q I r ⟨x, rfl, F, d, o, sF, cx, hg, q⟩
  cases d with
  | list ds =>
    cases hg
    obtain ⟨l, vs, rfl, hq, ka⟩ := cx.lst sF
    exact call_list_of pins s σ H _ us Q I r ⟨l, vs, rfl, .inl hq, fun p hp => q p _ hp ka⟩
  | tuple ds =>
    cases hg
    obtain ⟨l, vs, rfl, hq, ka⟩ := cx.tup sF
    exact call_list_of pins s σ H _ us Q I r ⟨l, vs, rfl, .inr hq, fun p hp => q p _ hp ka⟩
  | dict es =>
    simp only [gList, Option.map_eq_some_iff] at hg
    obtain ⟨ks, e1, rfl⟩ := hg
    obtain ⟨a, rfl, ⟨kvs, ds, e2, ka, rfl⟩ | ⟨kvs, ds, e2, ka, rfl⟩⟩ := cx.dict sF
    · rw [zip_fst keyD (by have := ka.length; rwa [List.length_map] at this)] at q
      exact call_listD hcalm pins s σ H _ us Q I r ⟨a, kvs, rfl, .inl e2, fun p hp => q p _ hp (at_keys kvs)⟩
    · cases e1
  | _ => cases hg
theorem cb_int : CallR X (.type "int") (rC1 X.K gInt) := by
  rintro pins s σ H xs us Q I r ⟨x, rfl, F, d, o, sF, cx, hg, q⟩
  cases d with
  | int i =>
    cases hg
    exact call_int1 pins s σ H _ us Q I r (.inl ⟨i, by rw [cx.int], q _ (.int _)⟩)
  | bool b =>
    cases hg
    exact call_int1 pins s σ H _ us Q I r (.inr ⟨b, by rw [cx.bl], q _ (.int _)⟩)
  | _ => cases hg
theorem cb_abs : CallR X (.builtin "abs") (rC1 X.K gAbs) := by
  rintro pins s σ H xs us Q I r ⟨x, rfl, F, d, o, sF, cx, hg, q⟩
  cases d with
  | int i =>
    cases hg
    exact call_abs pins s σ H _ us Q I r ⟨i, by rw [cx.int], q _ (.int _)⟩
  | _ => cases hg
end
end Z

set_option Elab.async false
set_option linter.all false
set_option maxRecDepth 100000
set_option maxHeartbeats 4000000
/-! Z12: isinstance, methods that change a name's object, a[k] = d, dict methods. -/
namespace Z
open PySem PySem.Spec L2
section
variable {X : Cx} {W : WX} {a b e : Expr} {fa fb fc : E} {pos p apos cpos : Pos}
/-! ### isinstance -/
def Ty.nm : Ty → String
  | .int => "int"
  | .bool => "bool"
  | .str => "str"
  | .tuple => "tuple"
  | .list => "list"
def tyNm : D → String
  | .none => "NoneType"
  | .bool _ => "bool"
  | .int _ => "int"
  | .str _ => "str"
  | .list _ => "list"
  | .tuple _ => "tuple"
  | _ => "dict"
theorem Cn.ty {K : PySem.W.Frag} {F H : Hp} {v : V} {d : D} (s : Same F H) (h : Cn K F H v d) : TyX K H v (.type (tyNm d)) := by
  rcases h with h | ⟨a, o, c, rfl, e, hc, rfl⟩
  · cases h with
    | non => exact .base .non
    | bl b => exact .base (.bl b)
    | int b => exact .base (.int b)
    | str b => exact .base (.str b)
    | lst hq _ =>
      rcases s.seq hq with hq | ⟨o, its, n, h1, h2, _⟩
      · rcases hq with hq | ⟨o, hq⟩
        · exact .base (.lst hq)
        · exact .base (.frz hq)
      · exact .kList h1 h2
    | tup hq _ => exact .base (.tup (s _ _ hq))
    | dk hq _ => exact .base (.dK (s _ _ hq))
    | dt hq _ => exact .base (.dT (s _ _ hq))
  · cases hc with
    | ls _ => exact .base (.lst e)
    | dk _ _ => exact .base (.dK e)
    | dt _ _ => exact .base (.dT e)
theorem de_isi (T : Ty) (ha : DE X W a fa) (hg : Gl X "isinstance") (hm : X.mg "isinstance" = none) {tn : Str} (hg2 : Gl X tn) (hm2 : X.mg tn = none) {p2 : Pos} (hv2 : bootBuiltins tn = some (.type T.nm) := by rfl) (hn2 : tn ≠ "__name__" := by decide) (hd2 : (tn == ("__debug__" : Str)) = false := by decide)
    (he : starEach [a, .Name tn p2] X.env = (false, eval a X.env) :: starEach [.Name tn p2] X.env := by rfl) (he2 : starEach [Expr.Name tn p2] X.env = (false, eval (.Name tn p2) X.env) :: starEach [] X.env := by rfl) : DE X W (.Call (.Name "isinstance" p) [a, .Name tn p2] [] pos) (eUn (gIsi T) fa) := by
  refine PE.imp (pe_callB call_isi hg hm rfl (pa_cons ha (pa_cons (pe_bltn (v := .ty T.nm) hg2 hm2 hv2 rfl hn2 hd2) pa_nil he2) he) (by decide) (by decide) he rfl) fun σ H Q h => tE.mono (un_in h) fun x H1 ⟨F, d, o, sF, cx, hg, q⟩ => ?_
  cases hg
  refine ⟨x, .ty T.nm, _, _, isTy T d, rfl, .ty _, cx.ty sF, kit_ty ?_, q _ (.bl _)⟩
  cases T <;> cases d <;> first | rfl | decide +kernel
/-! ### methods -/
def TyO (T : String) (c : Ow) : Prop := match c with
  | .ls _ => T = "list"
  | .dk _ => T = "dict"
  | .dt _ => T = "dict"
theorem tyV_ow {K : PySem.W.Frag} {T : String} {F H : Hp} {a : Addr} {o : HO} {c : Ow} (h : OwAt K F o c) (e : H a = some o) (t : TyO T c) : tyV K T (.ref a) H := by
  cases h with
  | ls _ => exact .inl ⟨t, _, .inl (.inl e)⟩
  | dk _ _ => exact .inr (.inr (.inl ⟨t, .inl ⟨_, e⟩⟩))
  | dt _ _ => exact .inr (.inr (.inl ⟨t, .inr ⟨_, e⟩⟩))
abbrev rMu (K : PySem.W.Frag) (m : Mu) : V → List V → Hp → VK → Prop := fun x xs H Q => ∃ a F o c ds r c', x = .ref a ∧ Same F H ∧ H a = some o ∧ F a = none ∧ OwAt K F o c ∧ AtAll K F xs ds ∧ m c ds = some (r, c') ∧
  ∀ o' v, OwAt K F o' c' → At K F v r → Q v (upd H a o')
/-- the pure function, with the receiver's type -/
@[simp] def eMutT (ok : Ow → Bool) (m : Mu) (i : Nat) (as : Da) (env : DEnv) : R Opd := match ownAt env i with
  | none => .bad
  | some c0 => if ok c0 = true then (as env).bind fun ds env1 => match ownAt env1 i with
    | some c => match m c ds with
      | some (r, c') => .ok (.va r) (setOw env1 i c')
      | none => .bad
    | none => .bad else .bad
@[simp] def okL : Ow → Bool
  | .ls _ => true
  | _ => false
theorem mu_in {m : Mu} {ok : Ow → Bool} {T : String} {i : Nat} {as : List Expr} {fd : Da} {σ : L2.St} {H : Hp} {Q : VK} (hT : ∀ c, ok c = true → TyO T c) (h : tE X W (eMutT ok m i fd) σ H Q) :
    ∃ v, σ[i]? = some (some v) ∧ tyV X.K T v H ∧ tD X W fd σ H fun xs H2 => rMu X.K m v xs H2 Q := by
  obtain ⟨B, tm, env, F, r, h⟩ := h
  simp only [eMutT] at h
  cases e0 : ownAt env i with
  | none => rw [e0] at h; exact h.elim
  | some c0 =>
    rw [e0] at h
    simp only at h
    by_cases hk : ok c0 = true
    · rw [if_pos hk] at h
      obtain ⟨a, o, h1, h2, h3, h4⟩ := r.own (any_of_own e0)
      refine ⟨_, h1, tyV_ow h3 h2 (hT _ hk), B, tm, env, F, r, (RQ.bind h).imp fun ds env1 q xs F1 H1 s1 r1 k1 => ?_⟩
      cases e1 : ownAt env1 i with
      | none => rw [e1] at q; exact q.elim
      | some c =>
        rw [e1] at q
        simp only at q
        obtain ⟨a', o', h1', h2', h3', h4'⟩ := r1.own (any_of_own e1)
        rw [h1] at h1'
        cases h1'
        cases e2 : m c ds with
        | none => rw [e2] at q; exact q.elim
        | some z =>
          rw [e2] at q
          exact ⟨a, F1, o', c, ds, z.1, z.2, rfl, r1.sub, h2', h4', h3', k1, e2, fun o2 v hv kv => q v F1 _ s1 (r1.mutOw e1 h1 hv) kv⟩
    · rw [if_neg hk] at h; exact h.elim
theorem de_mut {m : Mu} {ok : Ow → Bool} {T : String} {id : String} {name : Str} {es : List Expr} {fd : Da} (i : Nat) {x : Str} {p' : Pos} (hm : MtR X id (rMu X.K m)) (hT : ∀ c, ok c = true → TyO T c) (pa : PlainAttrs T) (slot : PySem.Slot T name id) (hty : typeOf (.builtin id) = pure (.type "method_descriptor"))
    (hd : DD X W (e :: es) fd) (hN : X.N[i]? = some x := by rfl) (hv : Vis X.env.scope x := by first | exact Or.inl rfl | exact Or.inr (Or.inl rfl) | exact Or.inr (Or.inr rfl)) (hdb : (x == ("__debug__" : Str)) = false := by decide) (hcd : (x == ("__classdict__" : Str)) = false := by decide)
    (hbase : attributeBase (.Name x p') name X.env (eval (.Name x p') X.env) = eval (.Name x p') X.env := by rfl)
    (hfew : ((backTo cpos (starEach (e :: es) X.env)).all (fun x => !x.1) && (backToKw cpos (keywordEach [] X.env)).all (fun x => x.1.isSome)
      && decide ((e :: es).length + ([] : List Keyword).length + (if ([] : List Keyword).isEmpty then 0 else 1) < 30)) = true := by rfl)
    (hline : (apos.endLine == cpos.line) = true := by rfl) (hs : starEach (e :: es) X.env = (false, eval e X.env) :: starEach es X.env := by rfl) (hplain : (backTo cpos (starEach es X.env)).any (·.1) = false := by rfl) :
    DE X W (.Call (.Attribute (.Name x p') name apos) (e :: es) [] cpos) (eMutT ok m i fd) := by
  refine PE.imp (pe_bm pa slot hty hm (pe_var hN hv hdb hcd) hd hbase hfew hline hs hplain) fun σ H Q h => ?_
  obtain ⟨v, h1, h2, h3⟩ := mu_in (as := e :: es) hT h
  exact ⟨v, h1, h2, h3⟩
theorem de_mut0 {m : Mu} {ok : Ow → Bool} {T : String} {id : String} {name : Str} (i : Nat) {x : Str} {p' : Pos} (hm : MtR X id (rMu X.K m)) (hT : ∀ c, ok c = true → TyO T c) (pa : PlainAttrs T) (slot : PySem.Slot T name id) (hty : typeOf (.builtin id) = pure (.type "method_descriptor"))
    (hN : X.N[i]? = some x := by rfl) (hv : Vis X.env.scope x := by first | exact Or.inl rfl | exact Or.inr (Or.inl rfl) | exact Or.inr (Or.inr rfl)) (hdb : (x == ("__debug__" : Str)) = false := by decide) (hcd : (x == ("__classdict__" : Str)) = false := by decide)
    (hbase : attributeBase (.Name x p') name X.env (eval (.Name x p') X.env) = eval (.Name x p') X.env := by rfl)
    (hline : (apos.endLine == cpos.line) = true := by rfl) :
    DE X W (.Call (.Attribute (.Name x p') name apos) [] [] cpos) (eMutT ok m i dNil) := by
  refine PE.imp (pe_bm0 pa slot hty hm (pe_var hN hv hdb hcd) hbase hline) fun σ H Q h => ?_
  obtain ⟨v, h1, h2, B, tm, env, F, r, h3⟩ := mu_in (as := []) hT h
  refine ⟨v, h1, h2, ?_⟩
  obtain ⟨a, F', o, c, ds, rr, c', q1, q2, q3, q4, q5, q6, q7, q8⟩ := h3 [] F H (Same.refl _) r .nil
  exact ⟨a, F', o, c, ds, rr, c', q1, q2, q3, q4, q5, q6, q7, q8⟩
theorem okL_ty : ∀ c, okL c = true → TyO "list" c
  | .ls _, _ => rfl
theorem mu_append : MtR X "list.append" (rMu X.K mAppend) := by
  rintro pins s σ H x xs v us Q I rx rv ⟨a, F, o, c, ds, r, c', rfl, sF, ha, _, hc, hd, hm, q⟩
  cases hc with
  | @ls vs es k =>
    match ds, hd, hm with
    | [d], .cons (v := y) ky .nil, hm =>
      simp only [mAppend] at hm
      split at hm
      · rename_i hl
        cases hm
        exact mt_append pins s σ H _ _ v us Q I rx rv ⟨a, vs, y, rfl, rfl, ha, by rw [k.length, ← line_eq]; exact hl, q _ _ (.ls (k.append (.one ky))) .non⟩
      · cases hm
  | dk _ _ => cases hm
  | dt _ _ => cases hm
theorem mu_pop0 : MtR X "list.pop" (rMu X.K mPop) := by
  rintro pins s σ H x xs v us Q I rx rv ⟨a, F, o, c, ds, r, c', rfl, sF, ha, _, hc, hd, hm, q⟩
  cases hc with
  | @ls vs es k =>
    cases hd with
    | nil =>
      simp only [mPop, Option.map_eq_some_iff] at hm
      obtain ⟨d, e1, e2⟩ := hm
      cases e2
      rw [List.getLast?_eq_getElem?] at e1
      obtain ⟨y, e3, ky⟩ := k.get e1
      exact mt_pop pins s σ H _ _ v us Q I rx rv ⟨a, vs, y, rfl, rfl, ha, by rw [k.length]; exact e3, q _ _ (.ls k.dropLast) ky⟩
    | @cons _ _ d _ ky t =>
      cases t with
      | cons _ _ => cases d <;> simp at hm
      | nil =>
        cases d with
        | int i =>
          cases ky
          simp only [mPop] at hm
          cases e1 : L2.ixN es.length i with
          | none => rw [e1] at hm; cases hm
          | some j =>
            rw [e1] at hm
            simp only [Option.map_eq_some_iff] at hm
            obtain ⟨d, e2, e3⟩ := hm
            cases e3
            obtain ⟨y, e3, ky⟩ := k.get e2
            obtain ⟨h1, h2, h3, h4⟩ := ixN_seq e1
            have hz := (I.lstM ha).1
            have hl := k.length
            rw [sizeL] at hz
            exact mt_popAt pins s σ H _ _ v us Q I rx rv ⟨a, vs, i, j, y, rfl, rfl, ha, by omega, by omega, by rw [hl]; exact h1, e3, q _ _ (.ls (k.eraseIdx j)) ky⟩
        | _ => simp at hm
  | dk _ _ => cases hm
  | dt _ _ => cases hm
theorem mu_reverse : MtR X "list.reverse" (rMu X.K mReverse) := by
  rintro pins s σ H x xs v us Q I rx rv ⟨a, F, o, c, ds, r, c', rfl, sF, ha, _, hc, hd, hm, q⟩
  cases hc with
  | @ls vs es k =>
    match ds, hd, hm with
    | [], .nil, hm =>
      cases hm
      exact mt_reverse pins s σ H _ _ v us Q I rx rv ⟨a, vs, rfl, rfl, ha, q _ _ (.ls k.reverse) .non⟩
  | dk _ _ => cases hm
  | dt _ _ => cases hm
end
/-! ### extend -/
section
open PySem.AutoSeq1
theorem q_extend (l : Addr) (items : Array Value) (n : Nat) (b : Addr) (items2 : Array Value) (n2 : Nat) (dd : Option Addr) (sl : Array (Option Value)) (hc0 : ¬(!items.isEmpty && Builtin.List.listTooLong (items.size + items2.size)) = true) (hc1 : items.size ≤ sizeLine) (hs2 : items.size + items2.size ≤ sizeLine + 1) :
    Meets (Builtin.«list.extend» ⟨[.ref l, .ref b], []⟩) (fun _ R s => s.heap.get? l = some { cls := .type "list", dict := none, data := .seq items n, slots := #[] } ∧ s.heap.get? b = some { cls := .type "list", dict := dd, data := .seq items2 n2, slots := sl } ∧ R (.ok (.ret Value.none)) { s with heap := s.heap.update l (Obj.mapSeq fun x => x ++ items2), toks := s.toks }) :=
  .of_wp fun prog w A R s h => by
    obtain ⟨hp, g, d, tk, os⟩ := s; obtain ⟨hl, hb, h⟩ := h; have f1 := idx_int; have f2 := sub_tuple_tuple; have f3 := sub_list_list; have f4 := sub_tuple_list; have f5 := sub_list_tuple;
    have hz' : (items ++ items2).size ≤ sizeLine + 1 := by rw [Array.size_append]; exact hs2
    wp_walk using (wpAny_updateSeq hl rfl (hz := hc1) (_hz' := hz')), wpAny_loadPart' hl, wpAny_loadPart' hb; exact ⟨_, rfl, h⟩
theorem q_extendT (l : Addr) (items : Array Value) (n : Nat) (b : Addr) (items2 : Array Value) (n2 : Nat) (dd : Option Addr) (sl : Array (Option Value)) (hs0 : ¬(!items.isEmpty && Builtin.List.listTooLong (items.size + items2.size)) = true) (hs1 : items.size ≤ sizeLine) (hs2 : items.size + items2.size ≤ sizeLine + 1) :
    Meets (Builtin.«list.extend» ⟨[.ref l, .ref b], []⟩) (fun _ R s => s.heap.get? l = some { cls := .type "list", dict := none, data := .seq items n, slots := #[] } ∧ s.heap.get? b = some { cls := .type "tuple", dict := dd, data := .seq items2 n2, slots := sl } ∧ R (.ok (.ret Value.none)) { s with heap := s.heap.update l (Obj.mapSeq fun x => x ++ items2), toks := s.toks }) :=
  .of_wp fun prog w A R s h => by
    obtain ⟨hp, g, d, tk, os⟩ := s; obtain ⟨hl, hb, h⟩ := h; have f1 := idx_int; have f2 := sub_tuple_tuple; have f3 := sub_list_list; have f4 := sub_tuple_list; have f5 := sub_list_tuple;
    have hz' : (items ++ items2).size ≤ sizeLine + 1 := by rw [Array.size_append]; exact hs2
    wp_walk using (wpAny_updateSeq hl rfl (hz := hs1) (_hz' := hz')), wpAny_loadPart' hl, wpAny_loadPart' hb; exact ⟨_, rfl, h⟩
end
section
variable {X : Cx} {W : WX} {a b e : Expr} {fa fb fc : E} {pos p apos cpos : Pos}
theorem extend_run {pins : List (Addr × Obj)} {s : Shared} {σ : L2.St} {H : Hp} {l : Addr} {xs zs : List V} {Q : VK} (I : Inv X pins σ H s) (hH : H l = some (.lst xs)) (hz : xs.length + zs.length ≤ sizeLine) {b : Addr} (hB : SqL X.K H b zs) (q : Q .non (upd H l (.lst (xs ++ zs)))) :
    wpAny (model X.prog X.w) X.A (call (.builtin "list.extend") [.ref l, .ref b]) (EP X pins σ Q) X.xe s := by
  obtain ⟨z, its, n, r, hl, e⟩ := I.lstM hH
  obtain ⟨its2, r2, ⟨⟨cls, dd, data, sl⟩, n2, e2, hc, hdn, hd⟩, z2⟩ := I.list hB
  simp only at hc hd
  subst hc hd
  have hl2 := r2.length
  have hsz : its.toArray.size + its2.toArray.size ≤ sizeLine := by rw [List.size_toArray, List.size_toArray]; omega
  have hlong : ¬ (!its.toArray.isEmpty && Builtin.List.listTooLong (its.toArray.size + its2.toArray.size)) = true := by
    rw [notLongL hsz, Bool.and_false]
    exact Bool.false_ne_true
  refine call_meets F.slot_list_extend ⟨_, e, rfl⟩ F.entry_list_extend (F.args_list_extend_2 _ _)
    (q_extend l its.toArray n b its2.toArray n2 dd sl hlong (by rw [List.size_toArray]; omega) (by omega)) ⟨e, e2, ?_⟩
  refine ⟨.non, _, I.lset (its' := its ++ its2) hH e (by simp) (r.append r2) ?_, rfl, q⟩
  rw [List.length_append]
  omega
theorem mu_extend : MtR X "list.extend" (rMu X.K mExtend) := by
  rintro pins s σ H x xs v us Q I rx rv ⟨a, F, o, c, ds, r, c', rfl, sF, ha, _, hc, hd, hm, q⟩
  cases hc with
  | @ls vs es k =>
    cases hd with
    | nil => cases hm
    | @cons _ _ d _ ky t =>
      cases t with
      | cons _ _ => cases d <;> simp at hm
      | nil =>
        cases d with
        | list ys =>
          simp only [mExtend] at hm
          split at hm
          · rename_i hl
            cases hm
            cases ky with
            | lst hq ky =>
              cases rx
              obtain ⟨u, rfl, ru⟩ := rv.one
              cases ru
              exact extend_run I ha (by rw [k.length, ky.length]; exact line_le hl) (sF.seq hq) (q _ _ (.ls (k.append ky)) .non)
          · cases hm
        | _ => simp at hm
  | dk _ _ => cases hm
  | dt _ _ => cases hm
/-! ### a[k] = v -/
theorem keys_any {κ : Type} [DecidableEq κ] (k : κ) : ∀ {kvs : List (κ × V)} {kvs' : List (κ × D)}, kvs.map (·.1) = kvs'.map (·.1) → (kvs.any fun kv => decide (kv.1 = k)) = kvs'.any fun kv => decide (kv.1 = k)
  | [], [], _ => rfl
  | [], _ :: _, h => by simp at h
  | _ :: _, [], h => by simp at h
  | p :: r, q :: r', h => by
    simp only [List.map_cons, List.cons.injEq] at h
    rw [List.any_cons, List.any_cons, keys_any k h.2, h.1]
theorem put_keys {κ : Type} [DecidableEq κ] {α β : Type} (k : κ) (v : α) (d : β) : ∀ {kvs : List (κ × α)} {kvs' : List (κ × β)}, kvs.map (·.1) = kvs'.map (·.1) → (kvs.map fun kv => if kv.1 = k then (kv.1, v) else kv).map (·.1) = (kvs'.map fun kv => if kv.1 = k then (kv.1, d) else kv).map (·.1)
  | [], [], _ => rfl
  | [], _ :: _, h => by simp at h
  | _ :: _, [], h => by simp at h
  | p :: r, q :: r', h => by
    simp only [List.map_cons, List.cons.injEq] at h
    simp only [List.map_cons]
    rw [put_keys k v d h.2]
    congr 1
    by_cases e : p.1 = k
    · rw [if_pos e, if_pos (h.1 ▸ e)]; exact h.1
    · rw [if_neg e, if_neg (h.1 ▸ e)]; exact h.1
theorem put_at {κ : Type} [DecidableEq κ] {K : PySem.W.Frag} {F : Hp} {k : κ} {v : V} {d : D} (kv : At K F v d) : ∀ {kvs : List (κ × V)} {kvs' : List (κ × D)}, kvs.map (·.1) = kvs'.map (·.1) → AtAll K F (kvs.map (·.2)) (kvs'.map (·.2)) →
    AtAll K F ((kvs.map fun kv => if kv.1 = k then (kv.1, v) else kv).map (·.2)) ((kvs'.map fun kv => if kv.1 = k then (kv.1, d) else kv).map (·.2))
  | [], [], _, _ => .nil
  | [], _ :: _, h, _ => by simp at h
  | _ :: _, [], h, _ => by simp at h
  | p :: r, q :: r', h, t => by
    simp only [List.map_cons, List.cons.injEq] at h
    cases t with
    | cons t1 t2 =>
      simp only [List.map_cons]
      refine .cons ?_ (put_at kv h.2 t2)
      by_cases e : p.1 = k
      · rw [if_pos e, if_pos (h.1 ▸ e)]; exact kv
      · rw [if_neg e, if_neg (h.1 ▸ e)]; exact t1
theorem putK_both {κ : Type} [DecidableEq κ] {K : PySem.W.Frag} {F : Hp} {k : κ} {v : V} {d : D} {kvs : List (κ × V)} {kvs' : List (κ × D)} (kv : At K F v d) (h : kvs.map (·.1) = kvs'.map (·.1)) (t : AtAll K F (kvs.map (·.2)) (kvs'.map (·.2))) :
    (L2.putK kvs k v).map (·.1) = (Z.putK kvs' k d).map (·.1) ∧ AtAll K F ((L2.putK kvs k v).map (·.2)) ((Z.putK kvs' k d).map (·.2)) := by
  unfold L2.putK Z.putK
  rw [keys_any k h]
  split
  · exact ⟨put_keys k v d h, put_at kv h t⟩
  · rw [List.map_append, List.map_append, List.map_append, List.map_append, h]
    exact ⟨rfl, t.append (.one kv)⟩
def rSetG (K : PySem.W.Frag) : V → V → V → Hp → (Hp → Prop) → Prop := fun o i v H Q => ∃ a F ho k c d c', o = .ref a ∧ Same F H ∧ H a = some ho ∧ OwAt K F ho c ∧ Cn K F H i k ∧ At K F v d ∧ mSet c k d = some c' ∧ ∀ ho', OwAt K F ho' c' → Q (upd H a ho')
theorem set_all (hu : X.A.units + 64 < cLine) : PSet X (rSetG X.K) := by
  rintro pins s σ H o i v ov iv u Q I ro ri rv ⟨a, F, ho, k, c, d, c', rfl, sF, ha, hc, ci, kv, hm, q⟩
  cases hc with
  | @ls vs es ka =>
    cases k with
    | int k =>
      simp only [mSet, Option.map_eq_some_iff] at hm
      obtain ⟨j, e1, rfl⟩ := hm
      exact set_list pins s σ H _ i v ov iv u Q I ro ri rv ⟨a, vs, k, j, rfl, ci.int, ha, by rw [ka.length]; exact e1, q _ (.ls (ka.set kv j))⟩
    | _ => cases hm
  | dk h1 h2 =>
    simp only [mSet] at hm
    cases e1 : keyOf k with
    | none => rw [e1] at hm; cases hm
    | some k1 =>
      rw [e1] at hm
      simp only at hm
      split at hm
      · rename_i hl
        cases hm
        cases ro
        have hk := keyOf_eq e1
        subst hk
        obtain ⟨p1, p2⟩ := putK_both kv h1 h2
        have hl2 := congrArg List.length h1
        rw [List.length_map, List.length_map] at hl2
        exact d_setItem (by omega) I (.inl ⟨_, k1, ha, key_at ci, by rw [hl2, ← line_eq]; exact hl, rfl⟩) ri rv fun s' I' => ⟨_, I', q _ (.dk p1 p2)⟩
      · cases hm
  | dt h1 h2 =>
    simp only [mSet] at hm
    cases e1 : keysD k with
    | none => rw [e1] at hm; cases hm
    | some k1 =>
      rw [e1] at hm
      simp only at hm
      split at hm
      · rename_i hl
        cases hm
        cases ro
        cases k with
        | tuple kd =>
          obtain ⟨p1, p2⟩ := putK_both kv h1 h2
          have hl2 := congrArg List.length h1
          rw [List.length_map, List.length_map] at hl2
          rcases ci with ci | ⟨_, _, _, _, _, hc, e3⟩
          · cases ci with
            | tup ht kt => exact d_setItem (by omega) I (.inr ⟨_, k1, _, ha, rfl, by rw [sF _ _ ht, keys_at e1 kt], by rw [hl2, ← line_eq]; exact hl, rfl⟩) ri rv fun s' I' => ⟨_, I', q _ (.dt p1 p2)⟩
          · cases hc <;> simp at e3
        | _ => cases e1
      · cases hm
end
end Z

set_option Elab.async false
set_option linter.all false
set_option maxRecDepth 100000
set_option maxHeartbeats 4000000
/-! Z13: a[k] = v; dict methods; raise. -/
namespace Z
open PySem PySem.Spec L2
section
variable {X : Cx} {W : WX} {a b e ix value : Expr} {fa fb fc fi fv : E} {pos p p1 p2 apos cpos : Pos}
theorem ds_setIx (hu : X.A.units + 64 < cLine) (i : Nat) {x : Str} (hval : DE X W value fv) (hix : DE X W ix fi) (hN : X.N[i]? = some x := by rfl) (hv : Vis X.env.scope x := by first | exact Or.inl rfl | exact Or.inr (Or.inl rfl) | exact Or.inr (Or.inr rfl)) (hdb : (x == ("__debug__" : Str)) = false := by decide) (hcd : (x == ("__classdict__" : Str)) = false := by decide)
    (ha : ∀ v, assign (.Subscript (.Name x p1) ix p2) X.env v = (do
      let ov ← holding [v] (eval (.Name x p1) X.env)
      let iv ← holding [v, ov] (eval ix X.env)
      standAt p2
      holding [v, ov, iv] (setItem ov iv v)
      release [v, ov, iv] []) := by intro _; rfl)
    (hs : swapsWithSole [.Subscript (.Name x p1) ix p2] value pos.line X.env = pure false := by rfl) (hw : swappedStores [.Subscript (.Name x p1) ix p2] value X.env = pure none := by rfl)
    (h1 : (assignEach [.Subscript (.Name x p1) ix p2] X.env).map (·.2) = [assign (.Subscript (.Name x p1) ix p2) X.env] := by rfl) : DS X W (.Assign [.Subscript (.Name x p1) ix p2] value pos) (sSetIx i fi fv) := by
  refine PS.imp (ps_asg hval (pg_sub (pe_var hN hv hdb hcd) hix (set_all hu) ha) hs hw h1) fun D σ H ⟨B, tm, env, F, r, h⟩ => ⟨B, tm, env, F, r, (RS.of h).imp fun o env1 h1 v F1 H1 s1 r1 k1 => ?_⟩
  cases e1 : share o env1 with
  | bad => rw [e1] at h1; exact h1.elim
  | exc c en => exact absurd e1 share_no_exc
  | ok d env2 =>
    rw [e1, bind_ok] at h1
    obtain ⟨F2, s2, r2, k2⟩ := r1.share k1 e1
    cases e2 : ownAt env2 i with
    | none => rw [e2] at h1; exact h1.elim
    | some c0 =>
      rw [e2] at h1
      obtain ⟨a, o0, q1, _⟩ := r2.own (any_of_own e2)
      refine ⟨_, q1, B, tm, env2, F2, r2, (RS.of h1).imp fun o3 env3 h3 u F3 H3 s3 r3 k3 => ?_⟩
      obtain ⟨F4, s4, r4, k4⟩ := r3.keepO k3
      cases e3 : rd o3 env3 with
      | none => rw [e3] at h3; exact h3.elim
      | some kk =>
        cases e4 : ownAt env3 i with
        | none => rw [e3, e4] at h3; exact h3.elim
        | some c =>
          rw [e3, e4] at h3
          simp only at h3
          obtain ⟨a', o', z1, z2, z3, z4⟩ := r4.own (any_of_own e4)
          rw [q1] at z1
          cases z1
          cases e5 : mSet c kk d with
          | none => rw [e5] at h3; exact h3.elim
          | some c' =>
            rw [e5] at h3
            exact ⟨a, F4, o', kk, c, d, c', rfl, r4.sub, z2, z3, r4.rdK k4 e3, At.mono (s3.trans s4) k2, e5, fun ho' hh => h3 σ F4 _ (s1.trans (s2.trans (s3.trans s4))) (r4.mutOw e4 q1 hh)⟩
/-- d.get(k, z) -/
@[simp] def eGet (c k z : E) (env : DEnv) : R Opd := (c env).bind fun o1 env1 => match rd o1 env1 with
  | some (.dict _) => (k env1).bind fun o2 env2 => (z env2).bind fun o3 env3 => (share o3 env3).bind fun dz env4 => match rd o1 env4, rd o2 env4 with
    | some (.dict es), some dk => match lookD es dk with
      | some r => .ok (.va (r.getD dz)) env4
      | none => .bad
    | _, _ => .bad
  | _ => .bad
end
end Z

set_option Elab.async false
set_option linter.all false
set_option maxRecDepth 100000
set_option maxHeartbeats 4000000
/-! Z14: and, or as values; chains; range with a step; raise; enumerate; calls by keywords. -/
namespace Z
open PySem PySem.Spec L2
@[simp] def eAndB (a b : E) (env : DEnv) : R Opd := (a env).bind fun o env1 => match rd o env1 with
  | some (.bool true) => b env1
  | some (.bool false) => .ok (.va (.bool false)) env1
  | _ => .bad
@[simp] def eOrB (a b : E) (env : DEnv) : R Opd := (a env).bind fun o env1 => match rd o env1 with
  | some (.bool true) => .ok (.va (.bool true)) env1
  | some (.bool false) => b env1
  | _ => .bad
@[simp] def eNotB (a : E) : E := eUn (fun d => match d with
  | .bool b => some (.va (.bool !b))
  | _ => none) a
@[simp] def eChain (g g' : D → D → Option Out) (a b c : E) (env : DEnv) : R Opd := (a env).bind fun o1 env1 => (b env1).bind fun o2 env2 => match rd o1 env2, rd o2 env2 with
  | some d1, some d2 => match g d1 d2 with
    | some (.va (.bool true)) => (c env2).bind fun o3 env3 => match rd o2 env3, rd o3 env3 with
      | some d2, some d3 => outR (g' d2 d3) env3
      | _, _ => .bad
    | some (.va (.bool false)) => .ok (.va (.bool false)) env2
    | _ => .bad
  | _, _ => .bad
def rangeC (lo c : Int) (n : Nat) : List D := (List.range n).map fun (k : Nat) => .int (lo + (k : Int) * c)
/-- range(a, b, -1) -/
@[simp] def iRangeD (a b : E) (env : DEnv) : R (List D × Option Nat) := (a env).bind fun o env1 => (b env1).bind fun p env2 => match rd o env2, rd p env2 with
  | some (.int i), some (.int j) => if -(2 ^ 62) ≤ i ∧ i < 2 ^ 62 ∧ -(2 ^ 62) ≤ j ∧ j < 2 ^ 62 then .ok (rangeC i (-1) (i - j).toNat, none) env2 else .bad
  | _, _ => .bad
section
variable {X : Cx} {W : WX} {a b c e tg : Expr} {fa fb fc : E} {pos p p1 p2 apos cpos : Pos}
theorem outQ_bool {K : PySem.W.Frag} {F H : Hp} {Q : VK} {b : Bool} (q : Q (.bl b) H) : OutQ K F H (.va (.bool b)) Q := fun v k => by cases k; exact q
theorem de_and {rest : List Expr} (ha : DE X W a fa) (hb : DE X W (.BoolOp .And (b :: rest) pos) fb) : DE X W (.BoolOp .And (a :: b :: rest) pos) (eAndB fa fb) := by
  refine PE.imp (pe_and ha hb) fun σ H Q ⟨B, tm, env, F, r, h⟩ => ⟨B, tm, env, F, r, (RQ.bind h).imp fun o env1 h1 v F1 H1 s1 r1 k1 => ?_⟩
  obtain ⟨d, F2, s2, r2, cv, h1⟩ := rd1_in (k := fun d => match d with | .bool true => fb env1 | .bool false => .ok (.va (.bool false)) env1 | _ => .bad) r1 k1 (by
    cases e1 : rd o env1 with
    | none => rw [e1] at h1; exact h1
    | some d => rw [e1] at h1; cases d with
      | bool b => cases b <;> exact h1
      | _ => exact h1)
  cases d with
  | bool b =>
    refine ⟨b, cv.bl, ?_⟩
    cases b with
    | true =>
      rw [if_pos rfl]
      exact ⟨B, tm, env1, F2, r2, h1.imp fun o2 env2 h2 v F3 H3 s3 r3 k3 => h2 v F3 H3 (s1.trans (s2.trans s3)) r3 k3⟩
    | false =>
      rw [if_neg (by simp)]
      exact h1 _ F2 H1 (s1.trans s2) r2 (.bl false)
  | _ => exact h1.elim
theorem de_or {rest : List Expr} (ha : DE X W a fa) (hb : DE X W (.BoolOp .Or (b :: rest) pos) fb) : DE X W (.BoolOp .Or (a :: b :: rest) pos) (eOrB fa fb) := by
  refine PE.imp (pe_or ha hb) fun σ H Q ⟨B, tm, env, F, r, h⟩ => ⟨B, tm, env, F, r, (RQ.bind h).imp fun o env1 h1 v F1 H1 s1 r1 k1 => ?_⟩
  obtain ⟨d, F2, s2, r2, cv, h1⟩ := rd1_in (k := fun d => match d with | .bool true => .ok (.va (.bool true)) env1 | .bool false => fb env1 | _ => .bad) r1 k1 (by
    cases e1 : rd o env1 with
    | none => rw [e1] at h1; exact h1
    | some d => rw [e1] at h1; cases d with
      | bool b => cases b <;> exact h1
      | _ => exact h1)
  cases d with
  | bool b =>
    refine ⟨b, cv.bl, ?_⟩
    cases b with
    | true =>
      rw [if_pos rfl]
      exact h1 _ F2 H1 (s1.trans s2) r2 (.bl true)
    | false =>
      rw [if_neg (by simp)]
      exact ⟨B, tm, env1, F2, r2, h1.imp fun o2 env2 h2 v F3 H3 s3 r3 k3 => h2 v F3 H3 (s1.trans (s2.trans s3)) r3 k3⟩
  | _ => exact h1.elim
theorem de_one {op} (ha : DE X W a fa) : DE X W (.BoolOp op [a] pos) fa := pe_one ha
theorem chain_in {g g' : D → D → Option Out} {σ : L2.St} {H : Hp} {Q : VK} (h : tE X W (eChain g g' fa fb fc) σ H Q) : tChain (rG X.K g) (rG X.K g') (tE X W fa) (tE X W fb) (tE X W fc) σ H Q := by
  obtain ⟨B, tm, env, F, r, h⟩ := h
  refine ⟨B, tm, env, F, r, (RQ.bind h).imp fun o1 env1 h1 v F1 H1 s1 r1 k1 => ?_⟩
  obtain ⟨F1', s1', r1', k1'⟩ := r1.keepO k1
  refine ⟨B, tm, env1, F1', r1', (RQ.bind h1).imp fun o2 env2 h2 u F2 H2 s2 r2 k2 => ?_⟩
  obtain ⟨F2', s2', r2', k2'⟩ := r2.keepO k2
  cases e1 : rd o1 env2 with
  | none => rw [e1] at h2; exact h2.elim
  | some d1 =>
    cases e2 : rd o2 env2 with
    | none => rw [e1, e2] at h2; exact h2.elim
    | some d2 =>
      rw [e1, e2] at h2
      simp only at h2
      have c1 := r2'.rdK (k1'.mono (s2.trans s2')) e1
      have c2 := r2'.rdK k2' e2
      cases e3 : g d1 d2 with
      | none => rw [e3] at h2; exact h2.elim
      | some z =>
        rw [e3] at h2
        match z, e3, h2 with
        | .va (.bool true), e3, h2 =>
          refine ⟨F2', d1, d2, _, r2'.sub, c1, c2, e3, outQ_bool ⟨true, rfl, ?_⟩⟩
          rw [if_pos rfl]
          refine ⟨B, tm, env2, F2', r2', (RQ.bind h2).imp fun o3 env3 h3 w F3 H3 s3 r3 k3 => ?_⟩
          obtain ⟨F3', s3', r3', k3'⟩ := r3.keepO k3
          cases e4 : rd o2 env3 with
          | none => rw [e4] at h3; exact h3.elim
          | some d2' =>
            cases e5 : rd o3 env3 with
            | none => rw [e4, e5] at h3; exact h3.elim
            | some d3 =>
              rw [e4, e5] at h3
              obtain ⟨o, ho, q⟩ := outQ_of (Q := Q) (F := F3') r3' (h3.imp fun a en h v F' H' s => h v F' H' (s1.trans (s1'.trans (s2.trans (s2'.trans (s3.trans (s3'.trans s)))))))
              exact ⟨F3', d2', d3, o, r3'.sub, r3'.rdK (k2'.mono (s3.trans s3')) e4, r3'.rdK k3' e5, ho, q⟩
        | .va (.bool false), e3, h2 =>
          refine ⟨F2', d1, d2, _, r2'.sub, c1, c2, e3, outQ_bool ⟨false, rfl, ?_⟩⟩
          rw [if_neg (by simp)]
          exact h2 _ F2' H2 (s1.trans (s1'.trans (s2.trans s2'))) r2' (.bl false)
        | .va .none, _, h2 => exact h2.elim
        | .va (.int _), _, h2 => exact h2.elim
        | .va (.str _), _, h2 => exact h2.elim
        | .va (.list _), _, h2 => exact h2.elim
        | .va (.tuple _), _, h2 => exact h2.elim
        | .va (.dict _), _, h2 => exact h2.elim
        | .nt _, _, h2 => exact h2.elim
        | .nl _, _, h2 => exact h2.elim
theorem de_chain {op op' : CmpOp} {g g' : D → D → Option Out} (ho : OpR X (compareOp op) (rG X.K g)) (ho' : OpR X (compareOp op') (rG X.K g')) (ha : DE X W a fa) (hb : DE X W b fb) (hc : DE X W c fc)
    (hm : lastMarks [op, op'] [b, c] = false := by with_unfolding_all rfl) : DE X W (.Compare a [op, op'] [b, c] pos) (eChain g g' fa fb fc) :=
  PE.imp (pe_chain ho ho' ha hb hc hm) fun _ _ _ h => chain_in h
theorem dt_chain {op op' : CmpOp} {g g' : D → D → Option Out} (ho : OpR X (compareOp op) (rG X.K g)) (ho' : OpR X (compareOp op') (rG X.K g')) (ha : DE X W a fa) (hb : DE X W b fb) (hc : DE X W c fc)
    (hm : lastMarks [op, op'] [b, c] = false := by with_unfolding_all rfl) : DT X W (.Compare a [op, op'] [b, c] pos) (tE1 (eChain g g' fa fb fc)) :=
  PT.imp (pt_chain ho ho' ha hb hc hm) fun _ _ _ h => chain_in (val_in h)
/-! ### range(a, b, -1) -/
theorem walkD_rangeC {K : PySem.W.Frag} {lo c : Int} {n : Nat} {F1 : Hp} : WalkD K (Itc lo c n) (rangeC lo c n) (fun F _ => Same F1 F) := by
  have hl : (rangeC lo c n).length = n := by simp [rangeC]
  refine ⟨fun i F H hi s g => ?_, fun F H s g => ?_, fun i F H x H' hi s g y => ?_⟩
  · rw [hl] at hi; exact walk_rangeC.goes i H hi trivial
  · rw [hl]; exact walk_rangeC.stops H trivial
  · rw [hl] at hi
    obtain ⟨rfl, rfl⟩ := walk_rangeC.yields i H x H' hi trivial y
    exact ⟨.int (lo + (i : Nat) * c), by simp [rangeC, hi], .inl ⟨rfl, .int _⟩⟩
theorem un_neg1 {k : Nat} : PE X (.UnaryOp .USub (.Constant (.int 1) k p1) p2) (tC (.int (-1))) := by
  refine PE.imp (pe_un (op := .USub) un_neg pe_int) fun σ H Q h => ?_
  exact ⟨1, rfl, h⟩
theorem di_rangeD {k : Nat} (ha : DE X W a fa) (hb : DE X W b fb) (hm : X.mg "range" = none) (hg : Gl X "range" := by rfl)
    (hs : starEach [a, b, .UnaryOp .USub (.Constant (.int 1) k p1) p2] X.env = (false, eval a X.env) :: starEach [b, .UnaryOp .USub (.Constant (.int 1) k p1) p2] X.env := by rfl)
    (hs2 : starEach [b, .UnaryOp .USub (.Constant (.int 1) k p1) p2] X.env = (false, eval b X.env) :: starEach [.UnaryOp .USub (.Constant (.int 1) k p1) p2] X.env := by rfl)
    (hs3 : starEach [Expr.UnaryOp .USub (.Constant (.int 1) k p1) p2] X.env = (false, eval (.UnaryOp .USub (.Constant (.int 1) k p1) p2) X.env) :: starEach [] X.env := by rfl)
    (hpl : (backTo pos (starEach [b, .UnaryOp .USub (.Constant (.int 1) k p1) p2] X.env)).any (·.1) = false := by rfl) :
    DI X W tg (.Call (.Name "range" p) [a, b, .UnaryOp .USub (.Constant (.int 1) k p1) p2] [] pos) (iRangeD fa fb) := by
  refine PI.imp (pi_range3 hg hm (pa_cons ha (pa_cons hb (pa_cons un_neg1 pa_nil hs3) hs2) hs) hs hpl) fun σ H R ⟨B, tm, env, F, r, h⟩ => ?_
  refine ⟨B, tm, env, F, r, (RQ.bind h).imp fun o1 env1 h1 v F1 H1 s1 r1 k1 => ?_⟩
  obtain ⟨F1', s1', r1', k1'⟩ := r1.keepO k1
  refine ⟨B, tm, env1, F1', r1', (RQ.bind h1).imp fun o2 env2 h2 u F2 H2 s2 r2 k2 => ?_⟩
  obtain ⟨F2', s2', r2', k2'⟩ := r2.keepO k2
  cases e1 : rd o1 env2 with
  | none => rw [e1] at h2; exact h2.elim
  | some d =>
    cases e2 : rd o2 env2 with
    | none => rw [e1, e2] at h2; cases d <;> exact h2.elim
    | some d2 =>
      rw [e1, e2] at h2
      cases d with
      | int i =>
        cases d2 with
        | int j =>
          simp only at h2
          split at h2
          · rename_i hj
            exact ⟨i, j, -1, (i - j).toNat, by rw [(r2'.rdK (k1'.mono (s2.trans s2')) e1).int, (r2'.rdK k2' e2).int], RgC.neg hj.1 hj.2.1 hj.2.2.1 hj.2.2.2, h2 _ F2' H2 _ (s1.trans (s1'.trans (s2.trans s2'))) r2' rfl walkD_rangeC⟩
          · exact h2.elim
        | _ => exact h2.elim
      | _ => exact h2.elim
/-! ### raise -/
theorem ds_raise {C : Addr} {bmB : List Value} {Bs newId initId : String} {x m : Str} {j : Nat} (hc : X.calm = true) (tk : Takes X W) (Fa : ExcBaseFacts Bs newId initId bmB) (q : PySem.W.excIn X.K C bmB newId = true) (gC : X.mg x = some (.ref C)) (kC : PySem.W.keepIn X.K (.ref C) = true)
    (h1 : PySem.W.subIn X.K (.ref C) (.type "BaseException") = some true) (h2 : PySem.W.typeIn X.K (.ref C) = some (.type "type")) (hg : Gl X x := by rfl) (hdb : (x == ("__debug__" : Str)) = false := by decide) :
    DS X W (.Raise (some (.Call (.Name x p) [.Constant (.str m) j p2] [] p1)) none pos) (sRaise x) := by
  refine PS.imp (ps_raise hc tk (pmk_own Fa q gC kC (raises_own h1 h2) hg hdb)) fun D σ H ⟨B, tm, env, F, r, h⟩ => ?_
  exact h σ F H r C gC
end
end Z

set_option Elab.async false
set_option linter.all false
set_option maxRecDepth 100000
set_option maxHeartbeats 4000000
/-! Z15: what is known of a def; its calls. -/
namespace Z
open PySem PySem.Spec L2
/-- the def x stands in the module and keeps its promise -/
def Knows (P : Program) (w : World) (K : PySem.W.Frag) (mg : Str → Option Value) (base : Heap) (k : Nat) (x : Str) (ps : List Str) (fn : Fn) : Prop :=
  ∃ f fd, (mg x = some (.ref f) ∧ ∃ oc od sl, K.lookup f = some ⟨oc, od, .func fd, sl⟩) ∧ PySem.W.keepIn K (.ref f) = true ∧ Binds K fd ps [] ∧ FnG P w K mg base (L2.CX P w) k f fd ps (spD K mg ps.length fn)
/-- the def x stands in the module -/
def Has (K : PySem.W.Frag) (mg : Str → Option Value) (x : Str) (st : Stmt) (ps : List Str) : Prop :=
  ∃ f fd, mg x = some (.ref f) ∧ PySem.W.keepIn K (.ref f) = true ∧ Fun K x x st f fd ∧ Binds K fd ps []
theorem Fun.func {K : PySem.W.Frag} {x q : Str} {st : Stmt} {f : Addr} {fd : FuncData} (F : Fun K x q st f fd) : ∃ oc od sl, K.lookup f = some ⟨oc, od, .func fd, sl⟩ := by
  obtain ⟨oc, od, kV, doc, pm, an, cdv, ct, osl, _, l, _⟩ := F.ex
  exact ⟨oc, od, osl, l⟩
theorem Has.mk {K : PySem.W.Frag} {h : Heap} {mg : Str → Option Value} {x : Str} {st : Stmt} {ps : List Str} {f : Addr} {oc kV dc pm cd ct : Value} {od an : Option Addr} {sl : Array (Option Value)} (X : K.In h) (G : h.Ns mainGlobals mg)
    (b : ∀ (kV doc pm : Value) (an : Option Addr) (cdv ct : Value) (us : List Value), us.length = ps.length → bindArgs (PySem.W.fnOf x x (defArgs st) (defBody st) (defScope st) .none kV doc pm an cdv ct) ⟨us, []⟩ = pure (ps.zip us))
    (a : PySem.W.nsIn K mainGlobals x = some (some (.ref f))) (l : K.lookup f = some ⟨oc, od, .func (PySem.W.fnOf x x (defArgs st) (defBody st) (defScope st) .none kV dc pm an cd ct), sl⟩) (c : PySem.W.codeIn K cd x = true) (k : PySem.W.keepIn K (.ref f) = true) : Has K mg x st ps :=
  ⟨f, _, PySem.W.mg_of X G a, k, fun_mk (st := st) l c k, (fun_mk (st := st) l c k).binds b⟩
section
variable {P : Program} {w : World} {K : PySem.W.Frag} {mg : Str → Option Value} {base : Heap}
/-- THE RULE for a def, its facts in one -/
theorem Has.know {x : Str} {st : Stmt} {N ps : List Str} {k : Nat} {body : S} (h : Has K mg x st ps) (Sc : FnScope N ps (defScope st))
    (hb : ∀ (f : Addr) (cdv : Value) (A : Around) (outer : List PySem.Env) (s : Shared) (H : Hp) (E : XK), Room k (A.deeper (PyProof.Rows.envOfC x (defScope st) s.heap.objs.size f cdv)) → A.guards = some [] →
      DSs (cxOf (L2.CX P w) P w K mg base N x (defScope st) f cdv A outer s H E) (fun cls d _ H' => E cls d H') (defBody st) body) :
    Knows P w K mg base (k + 1) x ps (runD ps.length N.length body) := by
  obtain ⟨f, fd, h1, h2, h3, h4⟩ := h
  exact ⟨f, fd, ⟨h1, Fun.func h3⟩, h2, h4, fn_body h3 Sc (hb f)⟩
theorem Knows.imp {x : Str} {ps : List Str} {k : Nat} {g g' : Fn} (h : Knows P w K mg base k x ps g) (hg : ∀ args, g' args ≠ .bad → g' args = g args) : Knows P w K mg base k x ps g' := by
  obtain ⟨f, fd, h1, h2, h3, h4⟩ := h
  exact ⟨f, fd, h1, h2, h3, fn_imp h4 hg⟩
end
theorem takes0 {X : Cx} : Takes X W0 := fun u s' ⟨_, _, _, _, _, _, _, _, _, _, _, _, _, _, _, _, z⟩ => z.elim
section
variable {X : Cx} {W : WX} {j k : Nat} {ps : List Str} {fn : Fn} {x : Str} {p pos : Pos} {e a : Expr} {es : List Expr} {fas : As} {fa : E}
theorem de_callN (G : Knows X.prog X.w X.K X.mg X.base k x ps fn) (hr : Room j X.A) (hk : k ≤ j) (hgd : X.A.guards = some []) (tk : Takes X W)
    (ha : DA X W (e :: es) fas) (hg : Gl X x := by rfl) (hdb : (x == ("__debug__" : Str)) = false := by decide) (he : starEach (e :: es) X.env = (false, eval e X.env) :: starEach es X.env := by rfl) (hpl : (backTo pos (starEach es X.env)).any (·.1) = false := by rfl) :
    DE X W (.Call (.Name x p) (e :: es) [] pos) (eCall ps.length fn fas) := by
  obtain ⟨f, fd, h1, h2, h3, h4⟩ := G
  exact de_call h4 (hr.mono hk) hgd tk h1.1 h2 h3 ha hg hdb he hpl
theorem de_not (ha : DE X W a fa) : DE X W (.UnaryOp .Not a pos) (eNotB fa) := by
  refine PE.imp (pe_not ha) fun σ H Q h => tE.mono (un_in h) fun x H1 ⟨F, d, o, sF, cx, hg, q⟩ => ?_
  cases d with
  | bool b => cases hg; exact ⟨b, cx.bl, q _ (.bl _)⟩
  | _ => cases hg
/-! ### op= -/
@[simp] def hAdd : D → D → Option D
  | .int i, .int j => some (.int (i + j))
  | .str a, .str b => if a.length + b.length ≤ lineN then some (.str (a ++ b)) else none
  | _, _ => none
@[simp] def hSub : D → D → Option D
  | .int i, .int j => some (.int (i - j))
  | _, _ => none
@[simp] def hFdiv : D → D → Option D
  | .int i, .int j => if 0 < j ∧ j.natAbs < 2 ^ 8000 then some (.int (i / j)) else none
  | _, _ => none
@[simp] def hMul : D → D → Option D
  | .int i, .int j => if i.natAbs < 2 ^ 63 ∨ j.natAbs < 2 ^ 63 ∨ (i.natAbs < 2 ^ 4000 ∧ j.natAbs < 2 ^ 4000) then some (.int (i * j)) else none
  | _, _ => none
theorem ip_addD : PIp X .Add (ipG X.K hAdd) := by
  rintro pins s σ H x y v u Q I rx ry ⟨F, d, e, o, sF, cx, cy, hg, q⟩
  cases d with
  | int i =>
    cases e with
    | int j =>
      cases hg
      exact iop_add pins s σ H x y v u Q I rx ry ⟨i, j, cx.int, cy.int, q _ (.int _)⟩
    | _ => cases hg
  | str i =>
    cases e with
    | str j =>
      simp only [hAdd] at hg
      split at hg
      · rename_i hl
        cases hg
        exact iop_add_str pins s σ H x y v u Q I rx ry ⟨i, j, cx.str, cy.str, line_le hl, q _ (.str _)⟩
      · cases hg
    | _ => cases hg
  | _ => cases hg
theorem ip_subD : PIp X .Sub (ipG X.K hSub) := by
  rintro pins s σ H x y v u Q I rx ry ⟨F, d, e, o, sF, cx, cy, hg, q⟩
  cases d with
  | int i =>
    cases e with
    | int j =>
      cases hg
      exact iop_sub pins s σ H x y v u Q I rx ry ⟨i, j, cx.int, cy.int, q _ (.int _)⟩
    | _ => cases hg
  | _ => cases hg
end
end Z

set_option Elab.async false
set_option linter.all false
set_option maxRecDepth 100000
set_option maxHeartbeats 4000000
/-! Z16: calls by keywords alone. -/
namespace Z
open PySem PySem.Spec L2
def permO {α : Type} : List Nat → List α → Option (List α)
  | [], _ => some []
  | i :: r, xs => match xs[i]? with
    | some x => (permO r xs).map (x :: ·)
    | none => none
@[simp] def aPerm (perm : List Nat) (as : As) (env : DEnv) : R (List Arg) := (as env).bind fun xs env1 => match permO perm xs with
  | some ys => .ok ys env1
  | none => .bad
abbrev eCallK (np : Nat) (perm : List Nat) (f : Fn) (as : As) : E := eCall np f (aPerm perm as)
def KB (K : PySem.W.Frag) (fd : FuncData) (ps ks : List Str) (perm : List Nat) : Prop :=
  ∀ (s : Shared) (us vs : List Value), K.In s.heap → us.length = ks.length → permO perm us = some vs → BindsTo s fd ⟨[], ks.zip us⟩ (ps.zip vs)
theorem KB.of {K : PySem.W.Frag} {x : Str} {st : Stmt} {f : Addr} {fd : FuncData} {ps ks : List Str} {perm : List Nat} (F : Fun K x x st f fd)
    (h : ∀ (kV doc pm : Value) (an : Option Addr) (cdv ct : Value) (us vs : List Value), us.length = ks.length → permO perm us = some vs → bindArgs (PySem.W.fnOf x x (defArgs st) (defBody st) (defScope st) .none kV doc pm an cdv ct) ⟨[], ks.zip us⟩ = pure (ps.zip vs)) : KB K fd ps ks perm := by
  obtain ⟨oc, od, kV, doc, pm, an, cdv, ct, osl, rfl, l, _⟩ := F.ex
  exact fun s us vs _ h1 h2 => .of_eq (h kV doc pm an cdv ct us vs h1 h2)
theorem ArgAt.get {K : PySem.W.Frag} {F : Hp} {σ : L2.St} {as : List Arg} {vs : List V} (h : ArgAt K F σ as vs) : ∀ {i : Nat} {a : Arg}, as[i]? = some a → ∃ v, vs[i]? = some v ∧ ArgAt K F σ [a] [v] := by
  induction h with
  | nil => intro i a e; simp at e
  | @d as vs v d k _ ih =>
    intro i a e
    cases i with
    | zero => cases e; exact ⟨_, rfl, .d k .nil⟩
    | succ i => exact ih e
  | @le as vs v j k _ ih =>
    intro i a e
    cases i with
    | zero => cases e; exact ⟨_, rfl, .le k .nil⟩
    | succ i => exact ih e
  | @bo as vs v j k _ ih =>
    intro i a e
    cases i with
    | zero => cases e; exact ⟨_, rfl, .bo k .nil⟩
    | succ i => exact ih e
theorem ArgAt.perm {K : PySem.W.Frag} {F : Hp} {σ : L2.St} {as : List Arg} {vs : List V} (h : ArgAt K F σ as vs) : ∀ {perm : List Nat} {bs : List Arg}, permO perm as = some bs → ∃ ws, permO perm vs = some ws ∧ ArgAt K F σ bs ws
  | [], bs, e => by cases e; exact ⟨[], rfl, .nil⟩
  | i :: r, bs, e => by
    unfold permO at e ⊢
    cases e1 : as[i]? with
    | none => rw [e1] at e; cases e
    | some a =>
      rw [e1] at e
      simp only [Option.map_eq_some_iff] at e
      obtain ⟨bs', e2, rfl⟩ := e
      obtain ⟨v, e3, k⟩ := h.get e1
      obtain ⟨ws, e4, k2⟩ := h.perm e2
      rw [e3]
      refine ⟨v :: ws, by simp only [e4, Option.map_some], ?_⟩
      cases k with
      | d k _ => exact .d k k2
      | le k _ => exact .le k k2
      | bo k _ => exact .bo k k2
theorem permO_rel : ∀ {perm : List Nat} {vs ws : List V} {us : List Value}, Vals vs us → permO perm vs = some ws → ∃ xs, permO perm us = some xs ∧ Vals ws xs
  | [], vs, ws, us, _, e => by cases e; exact ⟨[], rfl, .nil⟩
  | i :: r, vs, ws, us, h, e => by
    unfold permO at e ⊢
    cases e1 : vs[i]? with
    | none => rw [e1] at e; cases e
    | some a =>
      rw [e1] at e
      simp only [Option.map_eq_some_iff] at e
      obtain ⟨bs', e2, rfl⟩ := e
      obtain ⟨v, e3, k⟩ := h.get e1
      obtain ⟨xs, e4, k2⟩ := permO_rel h e2
      rw [e3]
      exact ⟨v :: xs, by simp only [e4, Option.map_some], .cons k k2⟩
section
variable {X : Cx} {W : WX} {j k : Nat} {ps ks : List Str} {fn : Fn} {x : Str} {p pos kpos : Pos} {e a : Expr} {kws : List Keyword} {fas : As} {fa : E} {nm : Option Str} {perm : List Nat} {st : Stmt}
theorem PK.imp {t t' : TA} (h : PK X kws t) (hi : ∀ σ H Q, t' σ H Q → t σ H Q) : PK X kws t' := ⟨fun pos pins s σ H Q I q => h.run pos pins s σ H Q I (hi σ H Q q)⟩
abbrev DK (X : Cx) (W : WX) (kws : List Keyword) (f : As) : Prop := PK X kws (tA X W f)
theorem dk_nil : DK X W [] aNil := PK.imp pk_nil fun σ H Q ⟨B, tm, env, F, r, h⟩ => h [] F H (Same.refl _) r .nil
theorem dk_sh (ha : DE X W e fa) (hr : DK X W kws fas) : DK X W (⟨nm, e, kpos⟩ :: kws) (aSh fa fas) := by
  refine PK.imp (pk_cons ha hr) fun σ H Q ⟨B, tm, env, F, r, h⟩ => ?_
  refine ⟨B, tm, env, F, r, (RQ.bind h).imp fun o env1 h1 v F1 H1 s1 r1 o1 => ?_⟩
  cases e1 : share o env1 with
  | bad => rw [e1] at h1; exact h1.elim
  | exc c env2 => exact absurd e1 share_no_exc
  | ok d env2 =>
    rw [e1, bind_ok] at h1
    obtain ⟨F2, s2, r2, k2⟩ := r1.share o1 e1
    refine ⟨B, tm, env2, F2, r2, (RQ.bind h1).imp fun as env3 h3 vs F3 H3 s3 r3 k3 => ?_⟩
    exact h3 (v :: vs) F3 H3 (s1.trans (s2.trans s3)) r3 (.d (At.mono s3 k2) k3)
theorem perm_in {σ : L2.St} {H : Hp} {Q : List V → Hp → Prop} (h : tA X W (aPerm perm fas) σ H Q) : tA X W fas σ H (fun vs H1 => ∃ ws, permO perm vs = some ws ∧ Q ws H1) := by
  obtain ⟨B, tm, env, F, r, h⟩ := h
  refine ⟨B, tm, env, F, r, (RQ.bind h).imp fun args env1 h1 vs F1 H1 s1 r1 ka => ?_⟩
  cases e : permO perm args with
  | none => rw [e] at h1; exact h1.elim
  | some bs =>
    rw [e] at h1
    obtain ⟨ws, e2, k2⟩ := ka.perm e
    exact ⟨ws, e2, h1 ws F1 H1 s1 r1 k2⟩
theorem pe_callK0 {CX : CXT} {f : Addr} {fd : FuncData} {sp : Sp} {E : L2.St → XK} {tk : TA} (F : FnG X.prog X.w X.K X.mg X.base CX k f fd ps sp) (hr : Room k X.A) (hgd : X.A.guards = some []) (hg : Gl X x) (hm : X.mg x = some (.ref f)) (hk : PySem.W.keepIn X.K (.ref f) = true) (hb : KB X.K fd ps ks perm) (hx : ∀ σ, PassesAt CX X σ (E σ))
    (hkw : PK X kws tk) (hl : kws.length = ks.length) (hall : (backToKw pos (keywordEach kws X.env)).all (·.1.isSome) = true := by rfl) (hks : (backToKw pos (keywordEach kws X.env)).filterMap (·.1) = ks := by rfl)
    (hdb : (x == ("__debug__" : Str)) = false := by decide) (hpl : ((backTo pos (starEach [] X.env)).any (·.1) || (backToKw pos (keywordEach kws X.env)).any (·.1.isNone)) = false := by rfl) :
    PE X (.Call (.Name x p) [] kws pos) (fun σ H Q => tk σ H fun vs H1 => vs.length = ks.length ∧ ∃ ws, permO perm vs = some ws ∧ sp ws H1 Q (E σ)) := by
  refine ⟨fun pins s σ H Q I h => ?_⟩
  refine wpAny_Call_Name_kw (ld_glob I hg hm ?_ hdb)
  refine PySem.W.callWith_KW0 (h₀ := X.base) I.ok.mod.kin hk hall (thn (hkw.run pos pins s σ H _ I h) fun us s1 ⟨vs, H1, I1, r, hlen, ws, e1, q⟩ => ⟨I1.kIn, ?_⟩) hpl
  rw [hks]
  obtain ⟨xs, e2, r2⟩ := permO_rel r e1
  have hl2 : us.length = ks.length := by rw [← r.length]; exact hlen
  exact runG (args := ⟨[], ks.zip us⟩) F hr hgd (hb s1 us xs I1.kIn hl2 e2) (hx σ) I1 r2 q
theorem tA.lenK {fas : As} {n : Nat} {σ : L2.St} {H : Hp} {Q : List V → Hp → Prop} (hn : ∀ env xs env1, fas env = .ok xs env1 → xs.length = n) (h : tA X W fas σ H Q) : tA X W fas σ H (fun vs H1 => vs.length = n ∧ Q vs H1) := by
  obtain ⟨B, tm, env, F, r, h⟩ := h
  refine ⟨B, tm, env, F, r, ?_⟩
  cases e : fas env with
  | bad => rw [e] at h; exact h.elim
  | exc c env1 => rw [e] at h; exact h
  | ok xs env1 =>
    rw [e] at h
    exact fun vs F' H' s r k => ⟨by rw [← k.len]; exact hn _ _ _ e, h vs F' H' s r k⟩
theorem len_nil : ∀ env xs env1, aNil env = .ok xs env1 → xs.length = 0 := fun _ _ _ h => by cases h; rfl
theorem len_sh {n : Nat} (h : ∀ env xs env1, fas env = .ok xs env1 → xs.length = n) : ∀ env xs env1, aSh fa fas env = .ok xs env1 → xs.length = n + 1 := by
  intro env xs env1 e
  unfold aSh at e
  cases e1 : fa env with
  | bad => rw [e1] at e; cases e
  | exc c en => rw [e1] at e; cases e
  | ok o en =>
    rw [e1, bind_ok] at e
    cases e2 : share o en with
    | bad => rw [e2] at e; cases e
    | exc c en => rw [e2] at e; cases e
    | ok d en2 =>
      rw [e2, bind_ok] at e
      cases e3 : fas en2 with
      | bad => rw [e3] at e; cases e
      | exc c en => rw [e3] at e; cases e
      | ok as en3 =>
        rw [e3, bind_ok] at e
        cases e
        rw [List.length_cons, h _ _ _ e3]
theorem de_callK (G : Knows X.prog X.w X.K X.mg X.base k x ps fn) (h0 : Has X.K X.mg x st ps) (hkb : ∀ fd f, Fun X.K x x st f fd → KB X.K fd ps ks perm) (hr : Room j X.A) (hk : k ≤ j) (hgd : X.A.guards = some []) (tk : Takes X W) (ha : DK X W kws fas) (hn : ∀ env xs env1, fas env = .ok xs env1 → xs.length = ks.length) (hl : kws.length = ks.length := by rfl)
    (hall : (backToKw pos (keywordEach kws X.env)).all (·.1.isSome) = true := by rfl) (hks : (backToKw pos (keywordEach kws X.env)).filterMap (·.1) = ks := by rfl) (hg : Gl X x := by rfl)
    (hdb : (x == ("__debug__" : Str)) = false := by decide) (hpl : ((backTo pos (starEach [] X.env)).any (·.1) || (backToKw pos (keywordEach kws X.env)).any (·.1.isNone)) = false := by rfl) :
    DE X W (.Call (.Name x p) [] kws pos) (eCallK ps.length perm fn fas) := by
  obtain ⟨f, fd, ⟨h1, oc, od, sl, hlk⟩, h2, h3, h4⟩ := G
  obtain ⟨f', fd', g1, g2, g3, g4⟩ := h0
  rw [h1] at g1
  cases g1
  obtain ⟨oc', od', sl', hlk'⟩ := Fun.func g3
  rw [hlk] at hlk'
  cases hlk'
  refine PE.imp (pe_callK0 h4 (hr.mono hk) hgd hg h1 h2 (hkb _ _ g3) (fun σ => passAt tk σ) ha hl hall hks hdb hpl) fun σ H Q h => tA.lenK hn (perm_in (call_in h))
end
end Z

set_option Elab.async false
set_option linter.all false
set_option maxRecDepth 100000
set_option maxHeartbeats 4000000
/-! Z17: repr, sorted. -/
namespace Z
open PySem PySem.Spec L2
@[simp] def gRepr (c : D) : Option Out := match c with
  | .list ds => if PyData.showable (.list ds) = true ∧ PyData.plain (.list ds) = true ∧ PyData.depth (.list ds) ≤ 60 ∧ (PyData.shown (.list ds)).length ≤ lineN then some (.va (.str (PyData.shown (.list ds)))) else none
  | .tuple ds => if PyData.showable (.tuple ds) = true ∧ PyData.plain (.tuple ds) = true ∧ PyData.depth (.tuple ds) ≤ 60 ∧ (PyData.shown (.tuple ds)).length ≤ lineN then some (.va (.str (PyData.shown (.tuple ds)))) else none
  | _ => none
mutual
theorem noDict : ∀ {d : D}, PyData.plain d = true → PyData.hasDict d = false
  | .none, _ => rfl
  | .bool _, _ => rfl
  | .int _, _ => rfl
  | .str _, _ => rfl
  | .list xs, h => by
    have h' : PyData.plainAll xs = true := by simpa [PyData.plain] using h
    have := noDictAll h'
    simpa [PyData.hasDict] using this
  | .tuple xs, h => by
    have h' : PyData.plainAll xs = true := by simpa [PyData.plain] using h
    have := noDictAll h'
    simpa [PyData.hasDict] using this
  | .dict _, h => by simp [PyData.plain] at h
theorem noDictAll : ∀ {ds : List D}, PyData.plainAll ds = true → PyData.hasDictAll ds = false
  | [], _ => rfl
  | d :: r, h => by
    have h' : PyData.plain d = true ∧ PyData.plainAll r = true := by simpa [PyData.plainAll] using h
    simp [PyData.hasDictAll, noDict h'.1, noDictAll h'.2]
end
section
variable {X : Cx} {W : WX}
theorem repr_run {pins : List (Addr × Obj)} {s : Shared} {σ : L2.St} {H : Hp} {a : Addr} {d : D} {as : List Addr} {Q : VK} (I : Inv X pins σ H s) (hu : X.A.units + 64 < cLine) (hg : X.A.guards = some []) (r : Reads s.heap (.ref a) d as) (h1 : d.showable = true) (h2 : d.plain = true) (h3 : d.depth ≤ 60)
    (h4 : d.shown.length ≤ lineN) (q : Q (.str d.shown) H) : wpAny (model X.prog X.w) X.A (call (.builtin "repr") [.ref a]) (EP X pins σ Q) X.xe s :=
  repr_of_reads' r h1 (fun z => by rw [noDict h2] at z; cases z) hg (by omega) (fun _ _ e => e) (fun h' u tk hk => ⟨.str _, H, I.kept hk, ⟨_, rfl⟩, q⟩) (line_le h4)
theorem cb_repr (hu : X.A.units + 64 < cLine) (hgd : X.A.guards = some []) : CallR X (.builtin "repr") (rC1 X.K gRepr) := by
  rintro pins s σ H xs us Q I r ⟨x, rfl, F, d, o, sF, cx, hg, q⟩
  obtain ⟨u, rfl, ru⟩ := Vals.one r
  cases d with
  | list ds =>
    simp only [gRepr] at hg
    split at hg
    · rename_i hc
      cases hg
      obtain ⟨as, ra⟩ := Dp.reads I _ _ _ (At.dp hc.2.1 (cx.at sF)) ru
      obtain ⟨l, vs, rfl, _⟩ := cx.lst sF
      cases ru
      exact repr_run I hu hgd ra hc.1 hc.2.1 hc.2.2.1 hc.2.2.2 (q _ (.str _))
    · cases hg
  | tuple ds =>
    simp only [gRepr] at hg
    split at hg
    · rename_i hc
      cases hg
      obtain ⟨as, ra⟩ := Dp.reads I _ _ _ (At.dp hc.2.1 (cx.at sF)) ru
      obtain ⟨l, vs, rfl, _⟩ := cx.tup sF
      cases ru
      exact repr_run I hu hgd ra hc.1 hc.2.1 hc.2.2.1 hc.2.2.2 (q _ (.str _))
    · cases hg
  | _ => cases hg
end
/-! ### sorted -/
def insD (x : D) : List D → List D
  | [] => [x]
  | y :: r => if PySem.W.dataLt x y = true then x :: y :: r else y :: insD x r
def sortL (xs : List D) : List D := xs.foldl (fun acc x => insD x acc) []
end Z

set_option Elab.async false
set_option linter.all false
set_option maxRecDepth 100000
set_option maxHeartbeats 4000000
/-! Z18: a < b for tuples whose first difference decides (what stands behind it need not be comparable); sorted. -/
namespace Z
open PySem PySem.Spec PySem.W PySem.SeqAt PyProof.Rows
open AutoSeq1 (wpAny_loadPart')
open MeetsSeq MeetsSeq2 MeetsSeq3 SeqRoads2
section
theorem q_tuple_lt (l b : Addr) (items items2 : Array Value) (n n2 : Nat) (dd dd2 : Option Addr) (sl sl2 : Array (Option Value)) (e r : Nat → Bool) :
    Meets (Builtin.«tuple.__lt__» ⟨[.ref l, .ref b], []⟩)
      (fun A R s => s.heap.get? l = some { cls := .type "tuple", dict := dd, data := .seq items n, slots := sl } ∧ s.heap.get? b = some { cls := .type "tuple", dict := dd2, data := .seq items2 n2, slots := sl2 } ∧
        (∀ j (h1 : j < items.size) (h2 : j < items2.size), EqAt A.in1 s items[j] items2[j] (e j)) ∧ (∀ j (h1 : j < items.size) (h2 : j < items2.size), (∀ i, i < j → e i = true) → e j = false → RcLt A.in1 s items[j] items2[j] (r j)) ∧
        R (.ok (.ret (.bool (firstLt e r (decide (items.size < items2.size)) (List.range (min items.size items2.size)))))) s) :=
  .of_wp fun prog w A R s h => by
    obtain ⟨hp, g, d, tk, os⟩ := s; obtain ⟨hl, hb, he, hr, h⟩ := h
    have f2 := AutoSeq1.sub_tuple_tuple
    have hZ : (items.toList.zip items2.toList).length = min items.size items2.size := by simp
    wp_walk using wpAny_loadPart' hl, wpAny_loadPart' hb, wpAny_forIn_list _ (fun rest b s' => b.1 = none ∧ s' = ⟨hp, g, d, tk, os⟩ ∧ ∃ i, (∀ k, k < i → e k = true) ∧ rest = (items.toList.zip items2.toList).drop i ∧
      R (.ok (.ret (.bool (firstLt e r (decide (items.size < items2.size)) ((List.range (min items.size items2.size)).drop i))))) ⟨hp, g, d, tk, os⟩) _
    case turn =>
      rintro ⟨y, x⟩ rest b s' ⟨hb', rfl, i, hall, hz, hR⟩
      have hlt : i < (items.toList.zip items2.toList).length := by
        rcases Nat.lt_or_ge i (items.toList.zip items2.toList).length with h' | h'
        · exact h'
        · rw [List.drop_of_length_le h'] at hz; cases hz
      have hm : i < min items.size items2.size := hZ ▸ hlt
      have h1 : i < items.size := Nat.lt_of_lt_of_le hm (Nat.min_le_left _ _)
      have h2 : i < items2.size := Nat.lt_of_lt_of_le hm (Nat.min_le_right _ _)
      rw [List.drop_eq_getElem_cons hlt] at hz
      injection hz with hyx hrest
      have hy : y = items[i] := by have := congrArg Prod.fst hyx; simpa using this
      have hx : x = items2[i] := by have := congrArg Prod.snd hyx; simpa using this
      subst hy hx
      have hd : (List.range (min items.size items2.size)).drop i = i :: (List.range (min items.size items2.size)).drop (i + 1) := by simp [List.drop_eq_getElem_cons, hm]
      rw [hd] at hR
      refine wpAny_bind (he i h1 h2 prog w _ _ ?_)
      cases hy : e i with
      | true =>
        rw [firstLt_yes hy] at hR
        wp_walk
        exact ⟨rfl, rfl, i + 1, fun k hk => (Nat.lt_succ_iff_lt_or_eq.mp hk).elim (hall k) (fun z => z ▸ hy), hrest, hR⟩
      | false =>
        rw [firstLt_no hy] at hR
        have hlt : ∀ (E' : Value → Shared → Prop) (Q' : Value → Shared → Prop), Q' (.bool (r i)) ⟨hp, g, d, tk, os⟩ → wpAny (model prog w) A.in1 (PySem.richCompare .Lt items[i] items2[i]) Q' E' ⟨hp, g, d, tk, os⟩ := hr i h1 h2 hall hy prog w
        generalize PySem.richCompare = rc at hlt ⊢
        wp_walk
        refine hlt _ _ ?_
        wp_walk
        exact ⟨_, rfl, hR⟩
    case fin =>
      rintro ⟨b1, b2⟩ s' ⟨hb', rfl, i, _, hz, hR⟩
      simp only at hb'
      subst hb'
      have hge : min items.size items2.size ≤ i := by
        rcases Nat.lt_or_ge i (items.toList.zip items2.toList).length with h' | h'
        · rw [List.drop_eq_getElem_cons h'] at hz; cases hz
        · exact hZ ▸ h'
      rw [List.drop_of_length_le (by simpa using hge)] at hR
      wp_walk
      exact ⟨_, rfl, by simpa [Builtin.Tuple.tupleCompareSizes, firstLt] using hR⟩
    case h =>
      exact ⟨rfl, rfl, 0, fun k hk => absurd hk (Nat.not_lt_zero _), rfl, by simpa using h⟩
end
theorem rcLt_tuples {A : Around} {s : Shared} {l b : Addr} {items items2 : Array Value} {e r : Nat → Bool} (hl : s.heap.IsTuple l items) (hb : s.heap.IsTuple b items2) (hu : A.units < cLine)
    (he : ∀ j (h1 : j < items.size) (h2 : j < items2.size), EqAt A.in1 s items[j] items2[j] (e j)) (hr : ∀ j (h1 : j < items.size) (h2 : j < items2.size), (∀ i, i < j → e i = true) → e j = false → RcLt A.in1 s items[j] items2[j] (r j)) :
    RcLt A s (.ref l) (.ref b) (firstLt e r (decide (items.size < items2.size)) (List.range (min items.size items2.size))) := fun prog w E Q h => by
  obtain ⟨⟨cls, dd, data, sl⟩, ho, hc, n, hd⟩ := id hl
  obtain ⟨⟨cls2, dd2, data2, sl2⟩, ho2, hc2, n2, hd2⟩ := id hb
  simp only at hc hd hc2 hd2
  subst hc hd hc2 hd2
  exact richCompare_meets_room (op := .Lt) ⟨_, ho, rfl⟩ ⟨_, ho2, rfl⟩ F.slot_tuple_lt F.entry_tuple_lt (F.args_tuple_lt_2 _ _) (q_tuple_lt l b items items2 n n2 dd dd2 sl sl2 e r)
    ⟨ho, ho2, he, hr, show Value.bool (firstLt e r (decide (items.size < items2.size)) (List.range (min items.size items2.size))) ≠ Value.notImplemented ∧ Q (.bool (firstLt e r (decide (items.size < items2.size)) (List.range (min items.size items2.size)))) s from ⟨(fun x => nomatch x), h⟩⟩ hu
mutual
/-- x < y has an answer -/
def cmpOk : D → D → Bool
  | .none, y => match y with | .none => true | _ => false
  | .bool _, y => match y with | .bool _ => true | _ => false
  | .int _, y => match y with | .int _ => true | _ => false
  | .str _, y => match y with | .str _ => true | _ => false
  | .list _, _ => false
  | .tuple xs, y => match y with | .tuple ys => cmpOkL xs ys | _ => false
  | .dict _, _ => false
def cmpOkL : List D → List D → Bool
  | [], _ => true
  | x :: xs, ys => match ys with
    | [] => true
    | y :: ys => cmpOk x y && (!PyData.eqv x y || cmpOkL xs ys)
end
theorem cmpL_cons {x y : D} {xs ys : List D} (h : cmpOkL (x :: xs) (y :: ys) = true) : cmpOk x y = true ∧ (PyData.eqv x y = true → cmpOkL xs ys = true) := by
  simp only [cmpOkL, Bool.and_eq_true, Bool.or_eq_true, Bool.not_eq_true'] at h
  refine ⟨h.1, fun e => ?_⟩
  rcases h.2 with z | z
  · rw [e] at z; cases z
  · exact z
mutual
theorem cmp_toks : ∀ (x y : D), cmpOk x y = true → (PyData.eqv x y = true → keyToks x = keyToks y) ∧ (PyData.eqv x y = false → ∀ l m, lexLt itemOrd (keyToks x ++ l) (keyToks y ++ m) = lexLt itemOrd (keyToks x) (keyToks y))
  | .none, y, h => toks_eqv .none y (by cases y <;> simp [cmpOk] at h <;> simp [alike])
  | .bool a, y, h => toks_eqv (.bool a) y (by cases y <;> simp [cmpOk] at h <;> simp [alike])
  | .int a, y, h => toks_eqv (.int a) y (by cases y <;> simp [cmpOk] at h <;> simp [alike])
  | .str a, y, h => toks_eqv (.str a) y (by cases y <;> simp [cmpOk] at h <;> simp [alike])
  | .list xs, y, h => by simp [cmpOk] at h
  | .tuple xs, y, h => by
    cases y with
    | tuple ys =>
      have t := cmpAll_toks xs ys (by simpa [cmpOk] using h)
      simp only [keyToks, PyData.eqv]
      exact t
    | _ => simp [cmpOk] at h
  | .dict _, y, h => by simp [cmpOk] at h
theorem cmpAll_toks : ∀ (xs ys : List D), cmpOkL xs ys = true → (PyData.eqvAll xs ys = true → keyToksAll xs = keyToksAll ys) ∧ (PyData.eqvAll xs ys = false → ∀ l m, lexLt itemOrd (keyToksAll xs ++ l) (keyToksAll ys ++ m) = lexLt itemOrd (keyToksAll xs) (keyToksAll ys))
  | [], [], _ => ⟨fun _ => rfl, fun e => absurd e (by simp [PyData.eqvAll])⟩
  | [], y :: ys, _ => ⟨fun e => absurd e (by simp [PyData.eqvAll]), fun _ l m => by
      simp only [keyToksAll, List.cons_append, List.nil_append]
      exact (lex_atom (by simp) _ _).trans (lex_atom (by simp) _ _).symm⟩
  | x :: xs, [], _ => ⟨fun e => absurd e (by simp [PyData.eqvAll]), fun _ l m => by
      simp only [keyToksAll, List.cons_append, List.nil_append]
      exact (lex_atom (by simp) _ _).trans (lex_atom (by simp) _ _).symm⟩
  | x :: xs, y :: ys, h => by
    obtain ⟨a1, a2⟩ := cmp_toks x y (cmpL_cons h).1
    rw [eqv_all_cons, toks_all_cons, toks_all_cons]
    cases hx : PyData.eqv x y with
    | true =>
      obtain ⟨b1, b2⟩ := cmpAll_toks xs ys ((cmpL_cons h).2 hx)
      rw [a1 hx, Bool.true_and]
      refine ⟨fun e => by rw [b1 e], fun e l m => ?_⟩
      simp only [List.cons_append, List.append_assoc]
      exact (lex_self (O := itemOrd) _ _ _).trans ((lex_pre _ _ _).trans ((b2 e l m).trans ((lex_pre _ _ _).symm.trans (lex_self (O := itemOrd) _ _ _).symm)))
    | false =>
      rw [Bool.false_and]
      refine ⟨fun e => absurd e Bool.false_ne_true, fun _ l m => ?_⟩
      simp only [List.cons_append, List.append_assoc]
      exact (lex_self (O := itemOrd) _ _ _).trans ((a2 hx _ _).trans ((a2 hx _ _).symm.trans (lex_self (O := itemOrd) _ _ _).symm))
end
theorem cmp_yes {x y : D} {xs ys : List D} (h : cmpOk x y = true) (e : PyData.eqv x y = true) : lexLt itemOrd (keyToksAll (x :: xs)) (keyToksAll (y :: ys)) = lexLt itemOrd (keyToksAll xs) (keyToksAll ys) := by
  rw [toks_all_cons, toks_all_cons, (cmp_toks x y h).1 e]
  exact (lex_self (O := itemOrd) _ _ _).trans (lex_pre _ _ _)
theorem cmp_no {x y : D} {xs ys : List D} (h : cmpOk x y = true) (e : PyData.eqv x y = false) : lexLt itemOrd (keyToksAll (x :: xs)) (keyToksAll (y :: ys)) = dataLt x y := by
  rw [toks_all_cons, toks_all_cons]
  exact (lex_self (O := itemOrd) _ _ _).trans ((cmp_toks x y h).2 e _ _)
theorem firstLt_cmp : ∀ (xs ys : List D), cmpOkL xs ys = true →
    firstLt (pairEq xs ys) (fun j => dataLt (xs.getD j .none) (ys.getD j .none)) (decide (xs.length < ys.length)) (List.range (min xs.length ys.length)) = lexLt itemOrd (keyToksAll xs) (keyToksAll ys)
  | [], [], _ => by simp [firstLt, keyToksAll, lex_irrefl]
  | [], y :: ys, _ => by
    rw [toks_all_cons]
    simp only [keyToksAll]
    rw [lex_diff (O := itemOrd) (by simp)]
    simp [firstLt, itemLt]
  | x :: xs, [], _ => by
    rw [toks_all_cons]
    simp only [keyToksAll]
    rw [lex_diff (O := itemOrd) (by simp)]
    simp [firstLt, itemLt]
  | x :: xs, y :: ys, h => by
    obtain ⟨h1, h2⟩ := cmpL_cons h
    have em : min (x :: xs).length (y :: ys).length = min xs.length ys.length + 1 := by
      rw [List.length_cons, List.length_cons]
      omega
    have ed : decide ((x :: xs).length < (y :: ys).length) = decide (xs.length < ys.length) := by
      rw [List.length_cons, List.length_cons]
      exact decide_eq_decide.mpr (by omega)
    rw [em, ed, List.range_succ_eq_map]
    cases hx : PyData.eqv x y with
    | true =>
      have ih := firstLt_cmp xs ys (h2 hx)
      rw [firstLt_yes (show pairEq (x :: xs) (y :: ys) 0 = true from hx), firstLt_map, cmp_yes h1 hx, ← ih]
      rfl
    | false =>
      rw [firstLt_no (show pairEq (x :: xs) (y :: ys) 0 = false from hx), cmp_no h1 hx]
      rfl
theorem plain_cons {x : D} {xs : List D} (h : PyData.plainAll (x :: xs) = true) : x.plain = true ∧ PyData.plainAll xs = true := by simpa [PyData.plainAll] using h
mutual
theorem rcLt_cmp : ∀ (da db : D) (A : Around) (s : Shared) (a b : Value) (as bs : List Addr), Reads s.heap a da as → Reads s.heap b db bs → da.plain = true → db.plain = true → cmpOk da db = true → da ≠ .none → A.units + min da.depth db.depth < cLine → RcLt A s a b (dataLt da db)
  | .none, _, _, _, _, _, _, _, _, _, _, _, _, hn, _ => absurd rfl hn
  | .bool x, db, A, s, a, b, as, bs, ra, rb, _, _, h, e, hu => rcLt_alike (.bool x) db A s a b as bs ra rb (by cases db <;> simp [cmpOk] at h <;> simp [alike]) e hu
  | .int x, db, A, s, a, b, as, bs, ra, rb, _, _, h, e, hu => rcLt_alike (.int x) db A s a b as bs ra rb (by cases db <;> simp [cmpOk] at h <;> simp [alike]) e hu
  | .str x, db, A, s, a, b, as, bs, ra, rb, _, _, h, e, hu => rcLt_alike (.str x) db A s a b as bs ra rb (by cases db <;> simp [cmpOk] at h <;> simp [alike]) e hu
  | .list xs, db, _, _, _, _, _, _, _, _, _, _, h, _, _ => by simp [cmpOk] at h
  | .tuple xs, db, A, s, a, b, as, bs, ra, rb, pa, pb, h, e, hu => by
    cases db with
    | tuple ys =>
      have hal : cmpOkL xs ys = true := by simpa [cmpOk] using h
      have px : PyData.plainAll xs = true := by simpa [PyData.plain] using pa
      have py : PyData.plainAll ys = true := by simpa [PyData.plain] using pb
      cases ra with
      | @tuple l o vs n _ as₁ h1 h2 h3 h4 =>
        cases rb with
        | @tuple l' o' vs' n' _ bs₁ k1 k2 k3 k4 =>
          have n1 : vs.size = xs.length := by simpa using SeqAt.ReadsAll.length _ _ _ h4
          have n2 : vs'.size = ys.length := by simpa using SeqAt.ReadsAll.length _ _ _ k4
          rw [dataLt_tuple, ← firstLt_cmp xs ys hal, ← n1, ← n2]
          refine rcLt_tuples ⟨_, h1, h2, _, h3⟩ ⟨_, k1, k2, _, k3⟩ (room_here hu) (fun j j1 j2 => ?_) fun j j1 j2 hall hj => ?_
          · have := eqAt_plainAll xs ys A.in1 s vs.toList vs'.toList _ _ h4 k4 px py (room_in hu) j (by simpa using j1) (by simpa using j2)
            simpa using this
          · have := rcLt_cmpAll xs ys A.in1 s vs.toList vs'.toList _ _ h4 k4 px py hal (room_in hu) j (by simpa using j1) (by simpa using j2) hall hj
            simpa using this
    | _ => simp [cmpOk] at h
  | .dict _, db, _, _, _, _, _, _, _, _, _, _, h, _, _ => by simp [cmpOk] at h
theorem rcLt_cmpAll : ∀ (xs ys : List D) (A : Around) (s : Shared) (vs ws : List Value) (as bs : List Addr), ReadsAll s.heap vs xs as → ReadsAll s.heap ws ys bs → PyData.plainAll xs = true → PyData.plainAll ys = true → cmpOkL xs ys = true →
    A.units + min (PyData.depthAll xs) (PyData.depthAll ys) < cLine → ∀ j (h1 : j < vs.length) (h2 : j < ws.length), (∀ i, i < j → pairEq xs ys i = true) → pairEq xs ys j = false → RcLt A s vs[j] ws[j] (dataLt (xs.getD j .none) (ys.getD j .none))
  | [], _, _, _, _, _, _, _, ra, _, _, _, _, _, j, h1, _, _, _ => by cases ra; exact absurd h1 (Nat.not_lt_zero _)
  | _ :: _, [], _, _, _, _, _, _, _, rb, _, _, _, _, j, _, h2, _, _ => by cases rb; exact absurd h2 (Nat.not_lt_zero _)
  | x :: xs, y :: ys, A, s, _, _, _, _, ra, rb, px, py, h, hu, j, h1, h2, hall, hj => by
    cases ra with
    | cons r rs =>
      cases rb with
      | cons r' rs' =>
        cases j with
        | zero =>
          have hx : PyData.eqv x y = false := hj
          refine rcLt_cmp x y A s _ _ _ _ r r' (plain_cons px).1 (plain_cons py).1 (cmpL_cons h).1 (fun z => ?_) (room_head hu)
          subst z
          have := (cmpL_cons h).1
          cases y <;> simp [cmpOk] at this
          simp [PyData.eqv] at hx
        | succ j => exact rcLt_cmpAll xs ys A s _ _ _ _ rs rs' (plain_cons px).2 (plain_cons py).2 ((cmpL_cons h).2 (hall 0 (Nat.succ_pos _))) (room_tail hu) j (Nat.lt_of_succ_lt_succ h1) (Nat.lt_of_succ_lt_succ h2) (fun i hi => hall (i + 1) (Nat.succ_lt_succ hi)) hj
end
end Z

set_option Elab.async false
set_option linter.all false
set_option maxRecDepth 100000
set_option maxHeartbeats 4000000
/-! Z19: sorted(xs). -/
namespace Z
open PySem PySem.Spec PySem.W PySem.SeqAt PyProof.Rows
section
variable {prog : Program} {w : World} {A : Around} {E : Value → Shared → Prop} {s : Shared}
theorem reads_unique {h : Heap} {d d' : D} {v : Value} {as as' : List Addr} (h1 : d.plain = true) (h2 : d'.plain = true) (r : Reads h v d as) (r' : Reads h v d' as') : d = d' := by
  rw [← readOf_plain h1 r, ← readOf_plain h2 r']
theorem kind_some {h : Heap} {ds : List D} (hp : ∀ d ∈ ds, d.plain = true) {v : Value} {d : D} {as : List Addr} (hd : d ∈ ds) (r : Reads h v d as) : (dataKind h ds).keyOf v = some (keyToks d) := by
  have q : ∃ d, d ∈ ds ∧ ∃ as, Reads h v d as := ⟨d, hd, as, r⟩
  obtain ⟨k, hk⟩ : ∃ k, (dataKind h ds).keyOf v = some k := by
    refine ⟨keyToks q.choose, ?_⟩
    show (open Classical in if q : ∃ d, d ∈ ds ∧ ∃ as, Reads h v d as then some (keyToks q.choose) else none) = _
    rw [dif_pos q]
    rfl
  obtain ⟨d', as', h1, h2, h3⟩ := dataKind_inv hk
  rw [hk, h3, reads_unique (hp _ h1) (hp _ hd) h2 r]
  rfl
theorem keys_each {h : Heap} {ds : List D} (hp : ∀ d ∈ ds, d.plain = true) : ∀ {vs : List Value} {es : List D}, (∀ d ∈ es, d ∈ ds) → EachIs (fun v d => ∃ as, Reads h v d as) vs es → EachIs (fun v d => (dataKind h ds).keyOf v = some (keyToks d)) vs es
  | _, _, _, .nil => .nil
  | _, _, hm, .cons ⟨as, r⟩ t => .cons (kind_some hp (hm _ List.mem_cons_self) r) (keys_each hp (fun d hd => hm d (List.mem_cons_of_mem _ hd)) t)
theorem alike_of_cmp {x y : D} (h : cmpOk x y = true) (ht : ∀ xs, x ≠ .tuple xs) : alike x y = true := by
  cases x <;> cases y <;> first | (simp [cmpOk] at h; done) | rfl | exact absurd rfl (ht _) | simp [alike]
theorem oneLt_cmp {f : Bool} {da db : D} {a b : Value} {as bs : List Addr} {Q : Bool → Shared → Prop} (hf : f = true → ∀ xs, da ≠ .tuple xs) (ra : Reads s.heap a da as) (rb : Reads s.heap b db bs) (pa : da.plain = true) (pb : db.plain = true) (h : cmpOk da db = true) (hn : da ≠ .none)
    (hu : A.units + min da.depth db.depth < cLine) (hq : Q (dataLt da db) s) : wpAny (model prog w) A (oneLt' f a b) Q E s := by
  cases f with
  | false =>
    rw [oneLt'_eq]
    simp only [Bool.false_eq_true, if_false]
    exact wpAny_bind (rcLt_cmp da db A s a b as bs ra rb pa pb h hn hu prog w E _ (wpAny_truthy_bool hq))
  | true => exact oneLt_alike hf ra rb (alike_of_cmp h (hf rfl)) hn hu hq
theorem katLex_cmp {b fin : Bool} {Q : Bool → Shared → Prop} : ∀ (xs ys : List D) (i : Nat) (vs ws : List Value) (as bs : List Addr), ReadsAll s.heap vs xs as → ReadsAll s.heap ws ys bs → PyData.plainAll xs = true → PyData.plainAll ys = true → cmpOkL xs ys = true →
    A.units + min (PyData.depthAll xs) (PyData.depthAll ys) < cLine → (b = true → i = 0 → ∀ x r t, xs = x :: r → x ≠ .tuple t) → fin = decide (xs.length < ys.length) → Q (lexLt itemOrd (keyToksAll xs) (keyToksAll ys)) s → KatLex prog w A b fin Q (vs.zip ws) i s
  | [], [], i, _, _, _, _, ra, rb, _, _, _, _, _, hf, hq => by
    cases ra
    cases rb
    have e : fin = false := by rw [hf]; rfl
    subst e
    rw [lex_irrefl] at hq
    exact kat_nil hq
  | [], y :: ys, i, _, _, _, _, ra, rb, _, _, _, _, _, hf, hq => by
    cases ra
    have e : fin = true := by rw [hf]; exact decide_eq_true (Nat.succ_pos _)
    subst e
    rw [toks_all_cons] at hq
    simp only [keyToksAll] at hq
    rw [lex_diff (O := itemOrd) (by simp)] at hq
    rw [List.zip_nil_left]
    exact kat_nil (by simpa [itemLt] using hq)
  | x :: xs, [], i, _, _, _, _, ra, rb, _, _, _, _, _, hf, hq => by
    cases rb
    have e : fin = false := by rw [hf]; exact decide_eq_false (Nat.not_lt_zero _)
    subst e
    rw [toks_all_cons] at hq
    simp only [keyToksAll] at hq
    rw [lex_diff (O := itemOrd) (by simp)] at hq
    rw [List.zip_nil_right]
    exact kat_nil (by simpa [itemLt] using hq)
  | x :: xs, y :: ys, i, _, _, _, _, ra, rb, px, py, h, hu, hb, hf, hq => by
    obtain ⟨h1, h2⟩ := cmpL_cons h
    have hf' : fin = decide (xs.length < ys.length) := by
      rw [hf]
      simp only [List.length_cons, Nat.add_lt_add_iff_right]
    cases ra with
    | cons r rs =>
      cases rb with
      | cons r' rs' =>
        rw [List.zip_cons_cons]
        refine kat_cons (eqAt_plain x y A s _ _ _ _ r r' (plain_cons px).1 (plain_cons py).1 (room_head hu) prog w _ _ ?_)
        cases hx : PyData.eqv x y with
        | true =>
          rw [cmp_yes h1 hx] at hq
          exact kat_yes (katLex_cmp xs ys (i + 1) _ _ _ _ rs rs' (plain_cons px).2 (plain_cons py).2 (h2 hx) (room_tail hu) (fun _ hi => absurd hi (Nat.succ_ne_zero i)) hf' hq)
        | false =>
          rw [cmp_no h1 hx] at hq
          refine kat_no (oneLt_cmp (fun hbi t => ?_) r r' (plain_cons px).1 (plain_cons py).1 h1 (fun z => ?_) (room_head hu) hq)
          · rw [Bool.and_eq_true] at hbi
            exact hb hbi.1 (by simpa using hbi.2) x xs t rfl
          · subst z
            cases y <;> simp [cmpOk] at h1
            simp [PyData.eqv] at hx
theorem sorts_cmp {vs : List Value} {ds : List D} {T : Value} (e : EachIs (fun v d => ∃ as, Reads s.heap v d as) vs ds) (hp : ∀ d ∈ ds, d.plain = true) (hc : ∀ d ∈ ds, ∀ d' ∈ ds, cmpOk d d' = true) (ht : ∀ d, d ∈ ds → ∃ x r, d = PyData.tuple (x :: r))
    (hT : T ≠ .type "tuple") (hTT : (T == T) = true) (hf : ∀ x r, PyData.tuple (x :: r) ∈ ds → dataType x = T) (hTb : (T != Value.type "tuple") = true) (hu : ∀ d, d ∈ ds → A.units + d.depth < cLine) : SortsAt prog w A s (dataKind s.heap ds) vs := by
  have room : ∀ {d d' : D}, d ∈ ds → A.units + min d.depth d'.depth < cLine := fun {d d'} hd => Nat.lt_of_le_of_lt (Nat.add_le_add_left (Nat.min_le_left _ _) _) (hu d hd)
  refine ⟨fun v hv => ?_, tuples' true, ?_, fun h2 E Q hq => ?_⟩
  · obtain ⟨d, hd, as, r⟩ := e.left v hv
    exact ⟨_, kind_some hp hd r⟩
  · intro E x y a b Q ha hb hq
    obtain ⟨d, as, hd, ra, rfl⟩ := dataKind_inv ha
    obtain ⟨d', as', hd', rb, rfl⟩ := dataKind_inv hb
    have hdd := hc d hd d' hd'
    have hroom := room (d' := d') hd
    have p1 := hp d hd
    have p2 := hp d' hd'
    obtain ⟨x1, r1, rfl⟩ := ht d hd
    obtain ⟨x2, r2, rfl⟩ := ht d' hd'
    have hq' : Q (dataLt (.tuple (x1 :: r1)) (.tuple (x2 :: r2))) s := hq
    rw [dataLt_tuple] at hq'
    cases ra with
    | @tuple l o xs n _ _ h1 h2 h3 h4 =>
      cases rb with
      | @tuple l' o' xs' n' _ _ k1 k2 k3 k4 =>
        have n1 : xs.size = (x1 :: r1).length := by simpa using SeqAt.ReadsAll.length _ _ _ h4
        have n2 : xs'.size = (x2 :: r2).length := by simpa using SeqAt.ReadsAll.length _ _ _ k4
        refine kat_lt h1 h3 k1 k3 (katLex_cmp (x1 :: r1) (x2 :: r2) 0 _ _ _ _ h4 k4 (by simpa [PyData.plain] using p1) (by simpa [PyData.plain] using p2) (by simpa [cmpOk] using hdd) (by have q := SeqAt.room_in hroom; omega) (fun hb _ x r t ex => ?_) (by rw [n1, n2]) hq')
        obtain ⟨rfl, rfl⟩ := List.cons.inj ex
        have q := hf _ _ hd
        rintro rfl
        exact hT q.symm
  · obtain ⟨fs, t1, t2, t3⟩ := each_katTups e ht
    refine kat_kind (T := T) t1 (by omega) (fun f hf' => ?_) hTT (by rw [hTb]; exact hq)
    obtain ⟨x, r, as, m1, m2⟩ := t3 f hf'
    rw [← hf x r m1]
    exact looks_reads m2
end
/-! ### the call -/
def fstIs (T : D → Bool) : D → Bool
  | .tuple (x :: _) => T x
  | _ => false
def isStrD : D → Bool
  | .str _ => true
  | _ => false
def isIntD : D → Bool
  | .int _ => true
  | _ => false
/-- the data can be sorted -/
def okSort (ds : List D) : Bool := (ds.all fun d => d.plain && decide (d.depth ≤ 60)) && (ds.all isIntD || ds.all isStrD || ((ds.all (fstIs isStrD) || ds.all (fstIs isIntD)) && ds.all fun d => ds.all fun d' => cmpOk d d'))
def srtD (ds : List D) : List D := ds.mergeSort (dataLe false (id : D → D))
@[simp] def gSorted (c : D) : Option Out := match c with
  | .list ds => if okSort ds = true then some (.nl (srtD ds)) else none
  | .tuple ds => if okSort ds = true then none else none
  | _ => none
theorem sorts_any {prog : Program} {w : World} {A : Around} {s : Shared} {vs : List Value} {ds : List D} (e : EachIs (fun v d => ∃ as, Reads s.heap v d as) vs ds) (h : okSort ds = true) (hu : A.units + 60 < cLine) : SortsAt prog w A s (dataKind s.heap ds) vs := by
  unfold okSort at h
  rw [Bool.and_eq_true, List.all_eq_true] at h
  obtain ⟨h1, h2⟩ := h
  have hp : ∀ d ∈ ds, d.plain = true := fun d hd => (Bool.and_eq_true _ _ ▸ h1 d hd).1
  have hd : ∀ d ∈ ds, A.units + d.depth < cLine := fun d hd => by
    have := of_decide_eq_true (Bool.and_eq_true _ _ ▸ h1 d hd).2
    omega
  rw [Bool.or_eq_true, Bool.or_eq_true] at h2
  rcases h2 with (h2 | h2) | h2
  · rw [List.all_eq_true] at h2
    refine SortsAt.data e (fun d m d' m' => ?_) (.inr fun d m => ?_) hd
    · have a := h2 d m
      have b := h2 d' m'
      cases d <;> simp [isIntD] at a
      cases d' <;> simp [isIntD] at b
      simp [alike]
    · have a := h2 d m
      cases d <;> simp [isIntD] at a
      exact ⟨nofun, nofun⟩
  · rw [List.all_eq_true] at h2
    refine SortsAt.data e (fun d m d' m' => ?_) (.inr fun d m => ?_) hd
    · have a := h2 d m
      have b := h2 d' m'
      cases d <;> simp [isStrD] at a
      cases d' <;> simp [isStrD] at b
      simp [alike]
    · have a := h2 d m
      cases d <;> simp [isStrD] at a
      exact ⟨nofun, nofun⟩
  · rw [Bool.and_eq_true, Bool.or_eq_true, List.all_eq_true, List.all_eq_true, List.all_eq_true] at h2
    obtain ⟨h2, h3⟩ := h2
    have hc : ∀ d ∈ ds, ∀ d' ∈ ds, cmpOk d d' = true := fun d m d' m' => List.all_eq_true.mp (h3 d m) d' m'
    rcases h2 with h2 | h2
    · refine sorts_cmp (T := .type "str") e hp hc (fun d m => ?_) (by decide) rfl (fun x r m => ?_) rfl hd
      · have a := h2 d m
        match d, a with
        | .tuple (x :: r), _ => exact ⟨x, r, rfl⟩
      · have a := h2 _ m
        cases x <;> simp [fstIs, isStrD] at a
        rfl
    · refine sorts_cmp (T := .type "int") e hp hc (fun d m => ?_) (by decide) rfl (fun x r m => ?_) rfl hd
      · have a := h2 d m
        match d, a with
        | .tuple (x :: r), _ => exact ⟨x, r, rfl⟩
      · have a := h2 _ m
        cases x <;> simp [fstIs, isIntD] at a
        rfl
section
open L2
variable {X : Cx}
theorem each_at {K : PySem.W.Frag} {F : Hp} : ∀ {vs : List V} {us : List Value} {ds : List D}, Vals vs us → AtAll K F vs ds → EachIs (fun u d => ∃ v, RelV v u ∧ At K F v d) us ds
  | _, _, _, .nil, .nil => .nil
  | _, _, _, .cons r t, .cons k m => .cons ⟨_, r, k⟩ (each_at t m)
theorem at_each {K : PySem.W.Frag} {F : Hp} : ∀ {us : List Value} {ds : List D}, EachIs (fun u d => ∃ v, RelV v u ∧ At K F v d) us ds → ∃ vs, Vals vs us ∧ AtAll K F vs ds
  | _, _, .nil => ⟨[], .nil, .nil⟩
  | _, _, .cons ⟨v, r, k⟩ t => by
    obtain ⟨vs, h1, h2⟩ := at_each t
    exact ⟨v :: vs, .cons r h1, .cons k h2⟩
theorem each_rd {pins : List (Addr × Obj)} {σ : L2.St} {H : Hp} {s : Shared} (I : Inv X pins σ H s) {F : Hp} (sF : Same F H) : ∀ {vs : List V} {us : List Value} {ds : List D}, (∀ d ∈ ds, d.plain = true) → Vals vs us → AtAll X.K F vs ds → EachIs (fun u d => ∃ as, Reads s.heap u d as) us ds
  | _, _, _, _, .nil, .nil => .nil
  | _, _, _, hp, .cons r t, .cons k m => .cons (Dp.reads I _ _ _ (At.dp (hp _ List.mem_cons_self) (At.mono sF k)) r) (each_rd I sF (fun d hd => hp d (List.mem_cons_of_mem _ hd)) t m)
theorem cb_sorted (hu : X.A.units + 64 < cLine) : CallR X (.builtin "sorted") (rC1 X.K gSorted) := by
  rintro pins s σ H xs us Q I r ⟨x, rfl, F, d, o, sF, cx, hg, q⟩
  cases d with
  | list ds =>
    simp only [gSorted] at hg
    split at hg
    · rename_i hc
      cases hg
      obtain ⟨a, vs, rfl, hq, ka⟩ := cx.lst sF
      obtain ⟨its, rv, hl, hz⟩ := I.list hq
      obtain ⟨u, rfl, ru⟩ := Vals.one r
      cases ru
      have hp : ∀ d ∈ ds, d.plain = true := by
        have := hc
        unfold okSort at this
        rw [Bool.and_eq_true, List.all_eq_true] at this
        exact fun d hd => (Bool.and_eq_true _ _ ▸ this.1 d hd).1
      have er := each_rd I sF hp rv ka
      have er' : EachIs (fun v d => ∃ as, Reads (sortingHeap (copyHeap s.heap its) (s.heap.objs.size + 1) its) v d as) its ds := er.mono fun _ _ ⟨as, r⟩ => ⟨as, PyProof.Rows.Reads.keeps (fun _ _ => sorting_copy_old) r⟩
      have hlen : its.length = vs.length := rv.length.symm
      refine sorted_vals hl.isList (sorts_any (s := { s with heap := sortingHeap (copyHeap s.heap its) (s.heap.objs.size + 1) its }) er' hc (by show X.A.units + 1 + 1 + 60 < cLine; omega)) (by omega) ?_
      have out := sortVals_each (κ := dataKind (sortingHeap (copyHeap s.heap its) (s.heap.objs.size + 1) its) ds) (rev := false) (fun b => keyToks b) (each_at rv ka) (keys_each hp (fun _ z => z) er')
      obtain ⟨ys, v1, k1⟩ := at_each out
      have k1' : AtAll X.K F ys (srtD ds) := k1
      obtain ⟨ep, he'⟩ := PyProof.Rows.sortedAll_at s.heap its (sortVals (dataKind (sortingHeap (copyHeap s.heap its) (s.heap.objs.size + 1) its) ds) false its its).toArray
      have hlen2 : ys.length ≤ sizeLine := by
        rw [v1.length, sortVals_length false rfl, hlen]
        exact hz
      exact ⟨.ref _, upd H (s.heap.objs.size + 1) (.lst ys), I.laid (t' := s.toks) (fun _ _ => PyProof.Rows.sortedAll_old) (Nat.le_succ _) ⟨hlen2, _, ep, v1, he'⟩, rfl, q _ ys (I.hok.fresh (Nat.le_succ _)) k1'⟩
    · cases hg
  | tuple ds =>
    simp only [gSorted] at hg
    split at hg <;> cases hg
  | _ => cases hg
end
end Z

set_option Elab.async false
set_option linter.all false
set_option maxRecDepth 100000
set_option maxHeartbeats 4000000
/-! Z20: the law's end. -/
namespace Z
open PySem PySem.Spec L2
/-- the law's promise: at every script it answers True -/
def spT (K : PySem.W.Frag) (n : Nat) : Sp := fun vs H Q _ => ∃ (a : Addr) (ns : List Int), vs = [.ref a] ∧ ns.length ≤ n ∧ (∀ z ∈ ns, Builtin.Int.intBits z ≤ 1048576) ∧ SqL K H a (ns.map V.int) ∧ ∀ H', Q (.bl true) H'
/-- what is to be shown in plain Lean -/
def LawTrue (f : Fn) (n : Nat) : Prop := ∀ ns : List Int, ns.length ≤ n → (∀ z ∈ ns, Builtin.Int.intBits z ≤ 1048576) → f [.sh (.list (ns.map PyData.int))] = .ok (.va (.bool true)) []
theorem spT_of {K : PySem.W.Frag} {mg : Str → Option Value} {f : Fn} {n : Nat} (hp : LawTrue f n) (vs : List V) (H : Hp) (Q : VK) (E : XK) (h : spT K n vs H Q E) : spD K mg 1 f vs H Q E := by
  obtain ⟨a, ns, rfl, h1, h2, hS, q⟩ := h
  refine ⟨H, [.sh (.list (ns.map PyData.int))], [], rfl, Same.refl _, .sh (.lst hS .ints) .nil, List.nodup_nil, ?_⟩
  rw [hp ns h1 h2]
  intro v F' H' _ k
  have k : At K F' v (.bool true) := k
  cases k
  exact q H'
theorem walkT {l : PySem.W.OpenLaw} {k : Nat} {q : Program} {loose : List Str} {XP : (Str → Option Value) → Heap → Prop} {YP : World → Heap → Prop} {d : DefRec} {K : Params → PySem.W.Frag} (hn : l.most = some 63) (hdf : d.params.defaults = []) (hr : Room k PySem.callerA)
    (hY : ∀ (w : World) (h : Heap), YP w h → (K w.params).In h)
    (F : ∀ (w : World) (mg : Str → Option Value) (fa : Addr) (h : Heap), (K w.params).In h → h.Ns mainGlobals mg → mg d.name = some (.ref fa) →
      ∃ fd : FuncData, (∀ (s : Shared) (u : Value), BindsTo s fd ⟨[u], []⟩ [("script", u)]) ∧
        ∀ base : Heap, (K w.params).In base → base.Ns mainGlobals mg → FnG l.prog w (K w.params) mg base (L2.CX l.prog w) k fa fd ["script"] (spT (K w.params) 63)) :
    PySem.W.WalkO q loose XP YP l.row.toRowW d [] (fun f vs => PySem.call f vs) :=
  walkG (n := 63) (k := k) (x := "script") (CX := fun w => L2.CX l.prog w) (sp := fun w => spT (K w.params) 63) hn (by decide) hdf hr hY F (fun w H a ns h1 h2 _ hS => ⟨a, ns, rfl, h1, h2, hS, fun _ => rfl⟩)
    fun w H s e s' h => by
      obtain ⟨_, _, _, _, _, _, _, _, _, _, _, _, z⟩ := h
      exact z.elim
end Z

set_option exponentiation.threshold 256
namespace Z
open PySem PySem.Spec L2
def top (i : Nat) : Stmt := PySem.Challenge.pw_ziplanes_k53_trees_counted.main.body.getD i (.Pass ⟨0, 0, 0, 0⟩)
abbrev s_is_integer : Stmt := top 4
def b_is_integer : S := sSeq (sIf (tOr (tNot (tE1 (eUn (gIsi .int) (eVar 0)))) (tE1 (eUn (gIsi .bool) (eVar 0)))) (sRet (eC (.bool false))) (sNil)) (sRet (eAndB (eBin gLe (eVar 1) (eVar 0)) (eOrB (eBin gIs2 (eVar 2) (eC .none)) (eBin gLe (eVar 0) (eVar 2)))))
def f_is_integer : Fn := runD 3 3 b_is_integer
abbrev s_check_number : Stmt := top 5
def b_check_number : S := sIf (tNot (tE1 (eCall 3 f_is_integer (aSh (eVar 0) (aSh (eVar 1) (aSh (eVar 2) (aNil))))))) (sRaise "InvalidNumberError") (sNil)
def f_check_number : Fn := runD 3 3 b_check_number
abbrev s_words_to_come : Stmt := top 8
def b_words_to_come : S := sSeq (sSet 1 (eLst (dCons (eLst (dCons (eC (.int 1)) (dNil))) (dNil)))) (sSeq (sFor (iRange2 (eC (.int 1)) (eBin gAdd (eVar 0) (eC (.int 1)))) (gName 2) (sSeq (sSet 3 (eBin gMul (eLst (dCons (eC (.int 0)) (dNil))) (eBin gAdd (eVar 2) (eC (.int 1))))) (sSeq (sFor (iRangeD (eVar 2) (eC (.int 0))) (gName 4) (sSetIx 3 (eVar 4) (eBin gAdd (eBin gIx (eBin gIx (eVar 1) (eBin gSub (eVar 2) (eC (.int 1)))) (eBin gSub (eVar 4) (eC (.int 1)))) (eIf (tE1 (eBin gLt (eVar 4) (eVar 2))) (eBin gIx (eVar 3) (eBin gAdd (eVar 4) (eC (.int 1)))) (eC (.int 0)))))) (sExpr (eMutT okL mAppend 1 (dCons (eVar 3) (dNil))))))) (sRet (eVar 1)))
def f_words_to_come : Fn := runD 1 5 b_words_to_come
abbrev s_tree_count : Stmt := top 9
def b_tree_count : S := sRet (eBin gIx (eBin gIx (eCall 1 f_words_to_come (aSh (eVar 0) (aNil))) (eVar 0)) (eC (.int 1)))
def f_tree_count : Fn := runD 1 1 b_tree_count
abbrev s_count_trees : Stmt := top 10
def b_count_trees : S := sSeq (sExpr (eCall 3 f_check_number (aSh (eVar 0) (aSh (eC (.int 1)) (aSh (eC (.int 12)) (aNil)))))) (sRet (eCall 1 f_tree_count (aSh (eVar 0) (aNil))))
def f_count_trees : Fn := runD 1 1 b_count_trees
abbrev s_law_pool : Stmt := top 12
def b_law_pool : S := sSeq (sSet 2 (eC (.int 0))) (sSeq (sIf (tE1 (eBin gLt (eVar 1) (eUn gLen (eVar 0)))) (sSet 2 (eBin gIx (eVar 0) (eVar 1))) (sNil)) (sRet (eLst (dCons (eBin gMax2 (eC (.int 0)) (eBin gSub (eVar 2) (eBin gPow (eC (.int 10)) (eC (.int 18))))) (dCons (eBin gAdd (eBin gMul (eBin gMod (eVar 2) (eBin gAdd (eBin gPow (eC (.int 10)) (eC (.int 40))) (eC (.int 121)))) (eC (.int 64))) (eVar 1)) (dCons (eC (.int 0)) (dNil)))))))
def f_law_pool : Fn := runD 2 3 b_law_pool
abbrev s_law_draw : Stmt := top 13
def b_law_draw : S := sSeq (sIf (tE1 (eBin gGt (eBin gIx (eVar 0) (eC (.int 0))) (eC (.int 0)))) (sSeq (sSet 3 (eBin gMod (eBin gIx (eVar 0) (eC (.int 0))) (eVar 1))) (sSeq (sSetIx 0 (eC (.int 0)) (eBin gFdiv (eBin gIx (eVar 0) (eC (.int 0))) (eVar 1))) (sRet (eVar 3)))) (sNil)) (sSeq (sSetIx 0 (eC (.int 2)) (eBin gAdd (eBin gIx (eVar 0) (eC (.int 2))) (eC (.int 1)))) (sSeq (sSet 2 (eBin gMod (eBin gPow (eBin gAdd (eBin gIx (eVar 0) (eC (.int 1))) (eBin gMul (eC (.int 69061)) (eBin gIx (eVar 0) (eC (.int 2))))) (eC (.int 3))) (eBin gAdd (eBin gPow (eC (.int 10)) (eC (.int 41))) (eC (.int 37))))) (sSeq (sSet 2 (eBin gMod (eBin gPow (eBin gAdd (eVar 2) (eBin gMul (eC (.int 88469)) (eBin gIx (eVar 0) (eC (.int 2))))) (eC (.int 3))) (eBin gAdd (eBin gPow (eC (.int 10)) (eC (.int 38))) (eC (.int 133))))) (sRet (eBin gMod (eBin gFdiv (eVar 2) (eC (.int 65537))) (eVar 1))))))
def f_law_draw : Fn := runD 2 4 b_law_draw
abbrev s_law_line : Stmt := top 14
def b_law_line : S := sSeq (sPar [3, 4] (oCons (eBin gIx (eLst (dCons (eBin gAdd (eC (.int 1)) (eCall 2 f_law_draw (aLe 0 (aSh (eVar 1) (aNil))))) (dCons (eVar 1) (dCons (eBin gAdd (eC (.int 1)) (eCall 2 f_law_draw (aLe 0 (aSh (eC (.int 3)) (aNil))))) (dNil))))) (eCall 2 f_law_draw (aLe 0 (aSh (eC (.int 3)) (aNil))))) (oCons (eCall 2 f_law_draw (aLe 0 (aSh (eC (.int 4)) (aNil)))) (oNil)))) (sSeq (sAsg (gTup (gsCons (gName 3) (gsCons (gName 4) (gsNil)))) (eIf (tE1 (eBin gEq (eVar 2) (eLst (dNil)))) (eTup (dCons (eC (.int 3)) (dCons (eC (.int 0)) (dNil)))) (eTup (dCons (eVar 3) (dCons (eVar 4) (dNil)))))) (sSeq (sSet 5 (eLst (dCons (eC (.str "a")) (dCons (eC (.str "b")) (dCons (eC (.str "c")) (dCons (eC (.str "d")) (dCons (eC (.str "east")) (dCons (eC (.str "ff")) (dCons (eC (.str "g")) (dCons (eC (.str "h")) (dCons (eC (.str "lane")) (dCons (eC (.str "zip")) (dCons (eC (.str "q")) (dCons (eC (.str "zzzzzzzz")) (dNil))))))))))))))) (sSeq (sPar [6, 7] (oCons (eLst (dNil)) (oCons (eBin gAdd (eC (.int 1)) (eCall 2 f_law_draw (aLe 0 (aSh (eC (.int 5)) (aNil))))) (oNil)))) (sSeq (sFor (iRange1 (eVar 3)) (gName 8) (sSeq (sSet 9 (eLst (dCons (eCall 2 f_law_draw (aLe 0 (aSh (eC (.int 5)) (aNil)))) (dCons (eBin gSub (eBin gPow (eC (.int 10)) (eC (.int 30))) (eCall 2 f_law_draw (aLe 0 (aSh (eC (.int 5)) (aNil))))) (dCons (eCall 2 f_law_draw (aLe 0 (aSh (eC (.int 30)) (aNil)))) (dCons (eVar 7) (dNil))))))) (sSeq (sSet 10 (eBin gIx (eLst (dCons (eC (.int 0)) (dCons (eC (.int 0)) (dCons (eCall 2 f_law_draw (aLe 0 (aSh (eC (.int 9)) (aNil)))) (dCons (eBin gSub (eBin gPow (eC (.int 10)) (eC (.int 30))) (eCall 2 f_law_draw (aLe 0 (aSh (eC (.int 9)) (aNil))))) (dNil)))))) (eCall 2 f_law_draw (aLe 0 (aSh (eC (.int 4)) (aNil)))))) (sSeq (sSet 11 (eBin gIx (eLst (dCons (eBin gIx (eVar 9) (eC (.int 0))) (dCons (eBin gIx (eVar 9) (eCall 2 f_law_draw (aLe 0 (aSh (eC (.int 4)) (aNil))))) (dCons (eBin gIx (eVar 9) (eC (.int 2))) (dCons (eVar 7) (dNil)))))) (eVar 4))) (sSeq (sIf (tAnd (tE1 (eBin gEq (eVar 4) (eC (.int 1)))) (tE1 (eBin gEq (eCall 2 f_law_draw (aLe 0 (aSh (eC (.int 2)) (aNil)))) (eC (.int 0))))) (sSet 11 (eBin gAdd (eC (.int 1)) (eCall 2 f_law_draw (aLe 0 (aSh (eBin gIx (eLst (dCons (eC (.int 10)) (dCons (eC (.int 100)) (dCons (eBin gPow (eC (.int 10)) (eC (.int 4))) (dCons (eBin gPow (eC (.int 10)) (eC (.int 8))) (dCons (eBin gPow (eC (.int 10)) (eC (.int 19))) (dCons (eBin gPow (eC (.int 10)) (eC (.int 30))) (dNil)))))))) (eCall 2 f_law_draw (aLe 0 (aSh (eC (.int 6)) (aNil))))) (aNil)))))) (sNil)) (sExpr (eMutT okL mAppend 6 (dCons (eTup (dCons (eC (.str "lane")) (dCons (eMutT okL mPop 5 (dCons (eCall 2 f_law_draw (aLe 0 (aSh (eUn gLen (eVar 5)) (aNil)))) (dNil))) (dCons (eVar 10) (dCons (eVar 11) (dNil)))))) (dNil))))))))) (sSeq (sIf (tE1 (eBin gEq (eComp (iHold 6) (gName 12) (tE1 (eBin gGt (eBin gIx (eVar 12) (eC (.int 3))) (eC (.int 0)))) (eC (.int 1)) [12]) (eLst (dNil)))) (sSetIx 6 (eC (.int 0)) (eTup (dCons (eC (.str "lane")) (dCons (eBin gIx (eBin gIx (eVar 6) (eC (.int 0))) (eC (.int 1))) (dCons (eC (.int 0)) (dCons (eC (.int 4)) (dNil))))))) (sNil)) (sRet (eVar 6)))))))
def f_law_line : Fn := runD 3 13 b_law_line
abbrev s_law_trees : Stmt := top 15
def b_law_trees : S := sSeq (sSet 1 eDt) (sSeq (sFor (iRange2 (eC (.int 1)) (eBin gAdd (eUn gLen (eVar 0)) (eC (.int 1)))) (gName 2) (sFor (iRange1 (eBin gAdd (eBin gSub (eUn gLen (eVar 0)) (eVar 2)) (eC (.int 1)))) (gName 3) (sSeq (sSet 4 (eBin gMul (eLst (dCons (eBin gIx (eVar 0) (eVar 3)) (dNil))) (eUn gInt (eBin gEq (eVar 2) (eC (.int 1)))))) (sSeq (sFor (iRange2 (eC (.int 1)) (eVar 2)) (gName 5) (sFor (iE (eBin gIx (eVar 1) (eTup (dCons (eVar 3) (dCons (eBin gAdd (eVar 3) (eVar 5)) (dNil)))))) (gName 6) (sExpr (eMutT okL mExtend 4 (dCons (eComp (iE (eBin gIx (eVar 1) (eTup (dCons (eBin gAdd (eVar 3) (eVar 5)) (dCons (eBin gAdd (eVar 3) (eVar 2)) (dNil)))))) (gName 7) (tYes) (eTup (dCons (eC (.str "zip")) (dCons (eVar 6) (dCons (eVar 7) (dNil))))) [7]) (dNil)))))) (sSetIx 1 (eTup (dCons (eVar 3) (dCons (eBin gAdd (eVar 3) (eVar 2)) (dNil)))) (eUn gSorted (eVar 4))))))) (sRet (eBin gIx (eVar 1) (eTup (dCons (eC (.int 0)) (dCons (eUn gLen (eVar 0)) (dNil)))))))
def f_law_trees : Fn := runD 1 8 b_law_trees
abbrev s_law_catalan : Stmt := top 16
def b_law_catalan : S := sSeq (sSet 1 (eLst (dCons (eC (.int 0)) (dCons (eC (.int 1)) (dNil))))) (sSeq (sFor (iRange2 (eC (.int 2)) (eBin gAdd (eVar 0) (eC (.int 1)))) (gName 2) (sExpr (eMutT okL mAppend 1 (dCons (eUn gSum (eComp (iRange2 (eC (.int 1)) (eVar 2)) (gName 3) (tYes) (eBin gMul (eBin gIx (eVar 1) (eVar 3)) (eBin gIx (eVar 1) (eBin gSub (eVar 2) (eVar 3)))) [3])) (dNil))))) (sRet (eVar 1)))
def f_law_catalan : Fn := runD 1 4 b_law_catalan
abbrev s_law : Stmt := top 17
def b_law : S := sSeq (sFor (iRange1 (eBin gMax2 (eC (.int 1)) (eBin gMin2 (eC (.int 6)) (eUn gLen (eVar 0))))) (gName 1) (sSeq (sSet 2 (eCall 2 f_law_pool (aSh (eVar 0) (aSh (eVar 1) (aNil))))) (sSeq (sSet 3 (eCall 1 f_law_catalan (aSh (eC (.int 12)) (aNil)))) (sSeq (sSet 4 (eBin gAdd (eC (.int 1)) (eCall 2 f_law_draw (aLe 2 (aSh (eC (.int 12)) (aNil)))))) (sSeq (sFor (iE (eLst (dCons (eVar 4) (dCons (eBin gSub (eC (.int 13)) (eVar 4)) (dCons (eC (.int 1)) (dCons (eC (.int 2)) (dCons (eC (.int 11)) (dCons (eC (.int 12)) (dNil))))))))) (gName 5) (sIf (tE1 (eBin gNe (eUn gRepr (eLst (dCons (eCall 1 f_count_trees (aSh (eVar 5) (aNil))) (dCons (eCallK 1 [0] f_count_trees (aSh (eVar 5) (aNil))) (dNil))))) (eUn gRepr (eLst (dCons (eBin gIx (eVar 3) (eVar 5)) (dCons (eBin gIx (eVar 3) (eVar 5)) (dNil))))))) (sRet (eC (.bool false))) (sNil))) (sSeq (sSet 6 (eCall 3 f_law_line (aLe 2 (aSh (eC (.int 6)) (aSh (eVar 0) (aNil)))))) (sIf (tE1 (eBin gNe (eCall 1 f_count_trees (aSh (eUn gLen (eVar 6)) (aNil))) (eUn gLen (eCall 1 f_law_trees (aSh (eVar 6) (aNil)))))) (sRet (eC (.bool false))) (sNil)))))))) (sRet (eC (.bool true)))
def f_law : Fn := runD 1 7 b_law
end Z

set_option linter.all false
set_option maxRecDepth 100000
set_option maxHeartbeats 4000000
/-! Zt: tools for plain laws. -/
namespace Z
open PySem PySem.Spec L2
theorem bind_lazy {α β : Type} {m m' : R α} (k : α → DEnv → R β) (h : m = m') : m.bind k = m'.bind k := by rw [h]
@[simp] theorem ownAt_eq (env : DEnv) (i : Nat) : ownAt env i = (slotAt env i).bind Slot.own? := rfl
@[simp] theorem anyAt_eq (env : DEnv) (i : Nat) : anyAt env i = (slotAt env i).bind Slot.any? := rfl
@[simp] theorem lineN_eq : lineN = 16777216 := rfl
@[simp] theorem own_ow (c : Ow) : (Slot.ow c).own? = some c := rfl
@[simp] theorem own_le (c : Ow) : (Slot.le c).own? = some c := rfl
@[simp] theorem own_sh (d : D) : (Slot.sh d).own? = none := rfl
@[simp] theorem own_hd (c : Ow) : (Slot.hd c).own? = none := rfl
@[simp] theorem any_ow (c : Ow) : (Slot.ow c).any? = some c := rfl
@[simp] theorem any_le (c : Ow) : (Slot.le c).any? = some c := rfl
@[simp] theorem any_sh (d : D) : (Slot.sh d).any? = none := rfl
@[simp] theorem any_hd (c : Ow) : (Slot.hd c).any? = some c := rfl
@[simp] theorem lentIx_nil (k : Nat) : lentIx k [] = [] := rfl
@[simp] theorem lentIx_sh (k : Nat) (d : D) (r : List FArg) : lentIx k (.sh d :: r) = lentIx (k + 1) r := rfl
@[simp] theorem lentIx_le (k : Nat) (c : Ow) (r : List FArg) : lentIx k (.le c :: r) = k :: lentIx (k + 1) r := rfl
@[simp] theorem outsOf_nil (env : DEnv) : outsOf env [] = some [] := rfl
@[simp] theorem outsOf_cons (env : DEnv) (i : Nat) (is : List Nat) : outsOf env (i :: is) = match slotAt env i with
    | some (.le c) => (outsOf env is).map (c :: ·)
    | _ => none := rfl
/-- a call's outcome where slot i was lent -/
def aft1 (i : Nat) (env : DEnv) : RO → R Opd
  | .ok o [c] => .ok o (setOw env i c)
  | .exc x [c] => .exc x (setOw env i c)
  | _ => .bad
@[simp] theorem aft1_ok (i : Nat) (env : DEnv) (o : Opd) (c : Ow) : aft1 i env (.ok o [c]) = .ok o (setOw env i c) := rfl
/-- a call's outcome where nothing was lent -/
def aft0 (env : DEnv) : RO → R Opd
  | .ok o [] => .ok o env
  | .exc x [] => .exc x env
  | _ => .bad
@[simp] theorem aft0_ok (env : DEnv) (o : Opd) : aft0 env (.ok o []) = .ok o env := rfl
@[simp] theorem aft0_exc (env : DEnv) (x : Str) : aft0 env (.exc x []) = .exc x env := rfl
theorem share_exc {o : Opd} {env env' : DEnv} {c : Str} : share o env ≠ .exc c env' := by
  cases o with
  | va d => simp
  | fr c => simp
  | sl i => simp; split <;> simp
@[simp] theorem call1 (f : Fn) (e : E) (env : DEnv) : eCall 1 f (aSh e aNil) env = (e env).bind fun o env1 => (share o env1).bind fun d env2 => aft0 env2 (f [.sh d]) := by
  unfold eCall
  simp only [aSh, aNil]
  cases e env with
  | bad => rfl
  | exc c en => rfl
  | ok o env1 =>
    simp only [bind_ok]
    cases share o env1 with
    | bad => rfl
    | exc c en => rfl
    | ok d env2 =>
      simp only [bind_ok]
      rw [if_pos ⟨rfl, rfl⟩]
      show (match f [.sh d] with | .ok o outs => _ | .exc c outs => _ | .bad => _) = _
      cases f [.sh d] with
      | bad => rfl
      | ok o outs => cases outs <;> simp [setOws, boIx, aft0]
      | exc c outs => cases outs <;> simp [setOws, boIx, aft0]
@[simp] theorem call2 (f : Fn) (e e2 : E) (env : DEnv) : eCall 2 f (aSh e (aSh e2 aNil)) env = (e env).bind fun o env1 => (share o env1).bind fun d env2 => (e2 env2).bind fun o2 env3 => (share o2 env3).bind fun d2 env4 => aft0 env4 (f [.sh d, .sh d2]) := by
  unfold eCall
  simp only [aSh, aNil]
  cases e env with
  | bad => rfl
  | exc c en => rfl
  | ok o env1 =>
    simp only [bind_ok]
    cases share o env1 with
    | bad => rfl
    | exc c en => rfl
    | ok d env2 =>
      simp only [bind_ok]
      cases e2 env2 with
      | bad => rfl
      | exc c en => rfl
      | ok o2 env3 =>
        simp only [bind_ok]
        cases share o2 env3 with
        | bad => rfl
        | exc c en => rfl
        | ok d2 env4 =>
          simp only [bind_ok]
          rw [if_pos ⟨rfl, rfl⟩]
          show (match f [.sh d, .sh d2] with | .ok o outs => _ | .exc c outs => _ | .bad => _) = _
          cases f [.sh d, .sh d2] with
          | bad => rfl
          | ok o outs => cases outs <;> simp [setOws, boIx, aft0]
          | exc c outs => cases outs <;> simp [setOws, boIx, aft0]
@[simp] theorem callLe1 (f : Fn) (i : Nat) (e : E) (env : DEnv) : eCall 2 f (aLe i (aSh e aNil)) env = match ownAt env i with
    | some _ => (e env).bind fun o env1 => (share o env1).bind fun d env2 => match ownAt env2 i with
      | some c => aft1 i env2 (f [.le c, .sh d])
      | none => .bad
    | none => .bad := by
  unfold eCall
  simp only [aLe, aSh, aNil]
  cases ownAt env i with
  | none => rfl
  | some _ =>
    simp only
    cases e env with
    | bad => rfl
    | exc c en => rfl
    | ok o env1 =>
      simp only [bind_ok]
      cases share o env1 with
      | bad => rfl
      | exc c en => rfl
      | ok d env2 =>
        simp only [bind_ok]
        rw [if_pos ⟨rfl, by simp [okArgs, leIx, boIx]⟩]
        cases e0 : ownAt env2 i with
        | none => simp only [fargs, e0]
        | some c =>
          simp only [fargs, e0, Option.map_some]
          cases f [.le c, .sh d] with
          | bad => rfl
          | ok o outs =>
            match outs with
            | [] => rfl
            | [c'] => simp [setOws, boIx, aft1, leIx]
            | _ :: _ :: _ => simp [setOws, aft1]
          | exc x outs =>
            match outs with
            | [] => rfl
            | [c'] => simp [setOws, boIx, aft1, leIx]
            | _ :: _ :: _ => simp [setOws, aft1]
/-! ### stepping -/
/-- m ends well, and then Q -/
def Wp {α : Type} (m : R α) (Q : α → DEnv → Prop) : Prop := ∃ a env, m = .ok a env ∧ Q a env
theorem wp_lazy {α : Type} {m m' : R α} (Q : α → DEnv → Prop) (h : m = m') : Wp m Q = Wp m' Q := by rw [h]
@[simp] theorem wp_ok {α : Type} (a : α) (env : DEnv) (Q : α → DEnv → Prop) : Wp (.ok a env) Q ↔ Q a env :=
  ⟨fun ⟨_, _, e, q⟩ => by cases e; exact q, fun q => ⟨a, env, rfl, q⟩⟩
@[simp] theorem wp_bind {α β : Type} (m : R α) (k : α → DEnv → R β) (Q : β → DEnv → Prop) : Wp (m.bind k) Q ↔ Wp m fun a env => Wp (k a env) Q := by
  cases m with
  | ok a env => simp
  | exc c env => constructor <;> (rintro ⟨_, _, e, _⟩; cases e)
  | bad => constructor <;> (rintro ⟨_, _, e, _⟩; cases e)
theorem Wp.imp {α : Type} {m : R α} {Q Q' : α → DEnv → Prop} (h : Wp m Q) (hq : ∀ a env, Q a env → Q' a env) : Wp m Q' := by
  obtain ⟨a, env, e, q⟩ := h
  exact ⟨a, env, e, hq _ _ q⟩
/-- f answers on args -/
def Gives (f : Fn) (args : List FArg) (P : Opd → List Ow → Prop) : Prop := ∃ o outs, f args = .ok o outs ∧ P o outs
theorem Gives.of {f : Fn} {args : List FArg} {P : Opd → List Ow → Prop} {o : Opd} {outs : List Ow} (h : f args = .ok o outs) (q : P o outs) : Gives f args P := ⟨o, outs, h, q⟩
theorem Gives.imp {f : Fn} {args : List FArg} {P P' : Opd → List Ow → Prop} (h : Gives f args P) (hq : ∀ o outs, P o outs → P' o outs) : Gives f args P' := by
  obtain ⟨o, outs, e, q⟩ := h
  exact ⟨o, outs, e, hq _ _ q⟩
/-- what is asked at a body's end -/
def EndP (ls : List Nat) (P : Opd → List Ow → Prop) (fl : Fl) (env : DEnv) : Prop := match fl with
  | .nx => ∃ cs, outsOf env ls = some cs ∧ P (.va .none) cs
  | .rt o => ∃ o' cs, Z.leave o env = some o' ∧ outsOf env ls = some cs ∧ P o' cs
  | _ => False
@[simp] theorem endP_rt (ls : List Nat) (P : Opd → List Ow → Prop) (o : Opd) (env : DEnv) : EndP ls P (.rt o) env ↔ ∃ o' cs, Z.leave o env = some o' ∧ outsOf env ls = some cs ∧ P o' cs := Iff.rfl
@[simp] theorem endP_nx (ls : List Nat) (P : Opd → List Ow → Prop) (env : DEnv) : EndP ls P .nx env ↔ ∃ cs, outsOf env ls = some cs ∧ P (.va .none) cs := Iff.rfl
theorem gives_run {p n : Nat} {body : S} {args : List FArg} {P : Opd → List Ow → Prop} (hl : args.length = p ∧ p ≤ n) (h : Wp (body (args.map slotA ++ List.replicate (n - args.length) none)) (EndP (lentIx 0 args) P)) : Gives (runD p n body) args P := by
  obtain ⟨fl, env, e, q⟩ := h
  unfold runD Gives
  simp only
  rw [if_pos hl, e]
  cases fl with
  | nx =>
    obtain ⟨cs, e1, q⟩ := q
    exact ⟨_, _, by simp [endOf, e1], q⟩
  | rt o =>
    obtain ⟨o', cs, e1, e2, q⟩ := q
    exact ⟨_, _, by simp only [endOf, e1, e2], q⟩
  | bk => exact q.elim
  | ct => exact q.elim
theorem wp_aft1 {f : Fn} {args : List FArg} {P : Opd → List Ow → Prop} {i : Nat} {env : DEnv} {Q : Opd → DEnv → Prop} (h : Gives f args P) (hq : ∀ o outs, P o outs → ∃ c, outs = [c] ∧ Q o (setOw env i c)) : Wp (aft1 i env (f args)) Q := by
  obtain ⟨o, outs, e, p⟩ := h
  obtain ⟨c, rfl, q⟩ := hq o outs p
  rw [e]
  exact ⟨_, _, rfl, q⟩
theorem wp_aft0 {f : Fn} {args : List FArg} {P : Opd → List Ow → Prop} {env : DEnv} {Q : Opd → DEnv → Prop} (h : Gives f args P) (hq : ∀ o outs, P o outs → outs = [] ∧ Q o env) : Wp (aft0 env (f args)) Q := by
  obtain ⟨o, outs, e, p⟩ := h
  obtain ⟨rfl, q⟩ := hq o outs p
  rw [e]
  exact ⟨_, _, rfl, q⟩
/-- a for over what no name holds: an invariant by place -/
theorem wp_for {all : List D} {g : Tg} {body : S} {env : DEnv} {Q : Fl → DEnv → Prop} (Inv : Nat → DEnv → Prop) (h0 : Inv 0 env)
    (hstep : ∀ i d env, all[i]? = some d → Inv i env → ∃ env1, g d env = some env1 ∧ Wp (body env1) fun fl env2 => (fl = .nx ∨ fl = .ct) ∧ Inv (i + 1) env2) (hq : ∀ env, Inv all.length env → Q .nx env) :
    Wp (forL none all g body all env) Q := by
  have go : ∀ (ds : List D) (i : Nat) (env : DEnv), i + ds.length = all.length → ds = all.drop i → Inv i env → Wp (forL none all g body ds env) Q := by
    intro ds
    induction ds with
    | nil =>
      intro i env hl _ hi
      unfold forL
      rw [if_pos (by rw [heldP_none]; trivial)]
      exact ⟨_, _, rfl, hq _ (by rw [← hl]; exact hi)⟩
    | cons d ds ih =>
      intro i env hl hd hi
      have hlt : i < all.length := by rw [← hl, List.length_cons]; omega
      rw [List.drop_eq_getElem_cons hlt] at hd
      injection hd with hd1 hd2
      obtain ⟨env1, e1, fl, env2, e2, hf, hi2⟩ := hstep i d env (by rw [List.getElem?_eq_getElem hlt, hd1]) hi
      unfold forL
      rw [if_pos (by rw [heldP_none]; trivial), e1]
      simp only [givx_none]
      rw [e2, bind_ok]
      have := ih (i + 1) env2 (by rw [← hl, List.length_cons]; omega) hd2 hi2
      rcases hf with rfl | rfl
      · exact this
      · exact this
  exact go all 0 env (by simp) (by simp) h0
/-- a for over a list that slot j holds -/
theorem wp_forH {all : List D} {g : Tg} {body : S} {env : DEnv} {j : Nat} {Q : Fl → DEnv → Prop} (Inv : Nat → DEnv → Prop) (h0 : Inv 0 env) (hh : ∀ i env, Inv i env → slotAt env j = some (.hd (.ls all)))
    (hstep : ∀ i d env, all[i]? = some d → Inv i env → ∃ env1, g d env = some env1 ∧ Wp (body env1) fun fl env2 => (fl = .nx ∨ fl = .ct) ∧ Inv (i + 1) env2) (hq : ∀ env, Inv all.length env → Q .nx (env.set j (some (.ow (.ls all))))) :
    Wp (forL (some j) all g body all env) Q := by
  have go : ∀ (ds : List D) (i : Nat) (env : DEnv), i + ds.length = all.length → ds = all.drop i → Inv i env → Wp (forL (some j) all g body ds env) Q := by
    intro ds
    induction ds with
    | nil =>
      intro i env hl _ hi
      unfold forL
      rw [if_pos (by rw [heldP_some]; exact hh i env hi)]
      refine ⟨_, _, rfl, ?_⟩
      rw [give1_some, hh i env hi]
      exact hq _ (by rw [← hl]; exact hi)
    | cons d ds ih =>
      intro i env hl hd hi
      have hlt : i < all.length := by rw [← hl, List.length_cons]; omega
      rw [List.drop_eq_getElem_cons hlt] at hd
      injection hd with hd1 hd2
      obtain ⟨env1, e1, fl, env2, e2, hf, hi2⟩ := hstep i d env (by rw [List.getElem?_eq_getElem hlt, hd1]) hi
      unfold forL
      rw [if_pos (by rw [heldP_some]; exact hh i env hi), e1]
      simp only
      rw [e2]
      simp only [givx_ok, bind_ok]
      have := ih (i + 1) env2 (by rw [← hl, List.length_cons]; omega) hd2 hi2
      rcases hf with rfl | rfl
      · exact this
      · exact this
  exact go all 0 env (by simp) (by simp) h0
/-- a comprehension without tests -/
theorem wp_comp {h : Option Nat} {all : List D} {g : Tg} {e : E} {vs : List Nat} {env : DEnv} {Q : List D → DEnv → Prop} (f : D → D) (hh : heldP env all h)
    (hstep : ∀ d ∈ all, ∃ env1 env2, g d env = some env1 ∧ e env1 = .ok (.va (f d)) env2 ∧ wipeD env2 vs = env) (hl : all.length ≤ lineN) (hq : Q (all.map f) env) :
    Wp (compL h all g tYes e vs all [] env) Q := by
  have go : ∀ (ds acc : List D), (∀ d ∈ ds, d ∈ all) → acc.length + ds.length ≤ lineN → compL h all g tYes e vs ds acc env = .ok (acc ++ ds.map f) env := by
    intro ds
    induction ds with
    | nil => intro acc _ _; unfold compL; rw [if_pos hh]; simp
    | cons d ds ih =>
      intro acc hm hl
      obtain ⟨env1, env2, e1, e2, e3⟩ := hstep d (hm d List.mem_cons_self)
      unfold compL
      rw [if_pos hh, e1]
      simp only [tYes, nox_ok, bind_ok, if_true]
      rw [e2]
      simp only [nox_ok, bind_ok, share]
      rw [List.length_cons] at hl
      rw [if_pos (by omega), e3, ih _ (fun d hd => hm d (List.mem_cons_of_mem _ hd)) (by rw [List.length_append, List.length_singleton]; omega)]
      simp
  exact ⟨_, _, go all [] (fun _ z => z) (by simpa using hl), by simpa using hq⟩
/-- a comprehension with a test -/
theorem wp_compIf {h : Option Nat} {all : List D} {g : Tg} {t : T} {e : E} {vs : List Nat} {env : DEnv} {Q : List D → DEnv → Prop} (p : D → Bool) (f : D → D) (hh : heldP env all h)
    (hstep : ∀ d ∈ all, ∃ env1 env2, g d env = some env1 ∧ t env1 = .ok (p d) env2 ∧ (p d = false → wipeD env2 vs = env) ∧ (p d = true → ∃ env3, e env2 = .ok (.va (f d)) env3 ∧ wipeD env3 vs = env)) (hl : all.length ≤ lineN) (hq : Q ((all.filter p).map f) env) :
    Wp (compL h all g t e vs all [] env) Q := by
  have go : ∀ (ds acc : List D), (∀ d ∈ ds, d ∈ all) → acc.length + ds.length ≤ lineN → compL h all g t e vs ds acc env = .ok (acc ++ (ds.filter p).map f) env := by
    intro ds
    induction ds with
    | nil => intro acc _ _; unfold compL; rw [if_pos hh]; simp
    | cons d ds ih =>
      intro acc hm hl
      obtain ⟨env1, env2, e1, e2, e3, e4⟩ := hstep d (hm d List.mem_cons_self)
      unfold compL
      rw [if_pos hh, e1]
      simp only
      rw [e2]
      simp only [nox_ok, bind_ok]
      rw [List.length_cons] at hl
      cases hp : p d with
      | false =>
        rw [if_neg (by simp), e3 hp, ih _ (fun d hd => hm d (List.mem_cons_of_mem _ hd)) (by omega), List.filter_cons_of_neg (by simp [hp])]
      | true =>
        obtain ⟨env3, e5, e6⟩ := e4 hp
        rw [if_pos rfl, e5]
        simp only [nox_ok, bind_ok, share]
        rw [if_pos (by omega), e6, ih _ (fun d hd => hm d (List.mem_cons_of_mem _ hd)) (by rw [List.length_append, List.length_singleton]; omega), List.filter_cons_of_pos (by simp [hp])]
        simp
  exact ⟨_, _, go all [] (fun _ z => z) (by simpa using hl), by simpa using hq⟩
@[simp] theorem atI_0 {α : Type} (x : α) (xs : List α) : L2.atI (x :: xs) 0 = some x := by simp [L2.atI, L2.ixN]
@[simp] theorem atI_1 {α : Type} (x y : α) (xs : List α) : L2.atI (x :: y :: xs) 1 = some y := by
  unfold L2.atI L2.ixN
  rw [if_pos (by omega), if_pos (by simp only [List.length_cons]; omega)]
  rfl
@[simp] theorem atI_2 {α : Type} (x y z : α) (xs : List α) : L2.atI (x :: y :: z :: xs) 2 = some z := by
  unfold L2.atI L2.ixN
  rw [if_pos (by omega), if_pos (by simp only [List.length_cons]; omega)]
  rfl
@[simp] theorem atI_3 {α : Type} (x y z w : α) (xs : List α) : L2.atI (x :: y :: z :: w :: xs) 3 = some w := by
  unfold L2.atI L2.ixN
  rw [if_pos (by omega), if_pos (by simp only [List.length_cons]; omega)]
  rfl
theorem ixN_in {n : Nat} {i : Int} (h0 : 0 ≤ i) (h1 : i < n) : L2.ixN n i = some i.toNat := by
  unfold L2.ixN
  rw [if_pos h0, if_pos h1]
@[simp] theorem ixN_0 (n : Nat) : L2.ixN (n + 1) 0 = some 0 := by
  unfold L2.ixN
  rw [if_pos (by omega), if_pos (by omega)]
  rfl
theorem atI_ex {α : Type} {xs : List α} {i : Int} (h0 : 0 ≤ i) (h1 : i < xs.length) : ∃ x, L2.atI xs i = some x ∧ x ∈ xs ∧ xs[i.toNat]? = some x := by
  have hl : i.toNat < xs.length := by omega
  refine ⟨xs[i.toNat], ?_, List.getElem_mem hl, List.getElem?_eq_getElem hl⟩
  unfold L2.atI
  rw [ixN_in h0 h1]
  simp
/-- one of some ints -/
theorem atI_ints {ns : List Int} {i : Int} {P : Int → Prop} (h0 : 0 ≤ i) (h1 : i < ns.length) (hp : ∀ n ∈ ns, P n) : ∃ n, L2.atI (ns.map PyData.int) i = some (.int n) ∧ P n := by
  obtain ⟨x, e, hm, _⟩ := atI_ex (xs := ns.map PyData.int) h0 (by simpa using h1)
  obtain ⟨n, hn, rfl⟩ := List.mem_map.mp hm
  exact ⟨n, e, hp n hn⟩
/-- the slot may be given another thing -/
def free : Option Slot → Bool
  | some (.le _) => false
  | some (.hd _) => false
  | _ => true
@[simp] theorem free_none : free none = true := rfl
@[simp] theorem free_sh (d : D) : free (some (.sh d)) = true := rfl
@[simp] theorem free_ow (c : Ow) : free (some (.ow c)) = true := rfl
@[simp] theorem put_free {env : DEnv} {i : Nat} {s : Slot} (h : free (slotAt env i) = true) (hl : i < env.length) : put env i s = some (env.set i (some s)) := by
  unfold put
  cases e : slotAt env i with
  | none => simp [hl]
  | some x => cases x <;> simp [e, free] at h <;> simp [hl]
@[simp] theorem plainAll_ints : ∀ ns : List Int, PyData.plainAll (ns.map PyData.int) = true
  | [] => rfl
  | n :: r => by rw [List.map_cons]; simp only [PyData.plainAll, PyData.plain, plainAll_ints r, Bool.and_self]
@[simp] theorem depthAll_ints : ∀ ns : List Int, PyData.depthAll (ns.map PyData.int) = 0
  | [] => by simp [PyData.depthAll]
  | n :: r => by rw [List.map_cons]; simp only [PyData.depthAll, PyData.depth, depthAll_ints r]; rfl
theorem okD_ints (ns : List Int) : okD (.list (ns.map PyData.int)) = true := by
  rw [okD_iff]
  simp [PyData.plain, PyData.depth]
theorem eqD_nil (ds : List D) : eqD (.list ds) (.list []) = ds.isEmpty := by
  cases ds <;> simp [eqD, PyData.eqv, PyData.eqvAll]
@[simp] theorem okD_nil : okD (.list []) = true := rfl
@[simp] theorem okD_ints' (ns : List Int) : okD (.list (ns.map PyData.int)) = true := okD_ints ns
@[simp] theorem eqD_nil' (ds : List D) : eqD (.list ds) (.list []) = ds.isEmpty := eqD_nil ds
@[simp] theorem eqD_int (i j : Int) : eqD (.int i) (.int j) = decide (i = j) := by rw [Bool.eq_iff_iff]; simp [eqD, PyData.eqv]
@[simp] theorem eqD_bool (i j : Bool) : eqD (.bool i) (.bool j) = decide (i = j) := by rw [Bool.eq_iff_iff]; simp [eqD, PyData.eqv]
@[simp] theorem eqD_str (i j : Str) : eqD (.str i) (.str j) = decide (i = j) := by rw [Bool.eq_iff_iff]; simp [eqD, PyData.eqv]
def SeqK (g : S) (Q : Fl → DEnv → Prop) (fl : Fl) (env : DEnv) : Prop := match fl with
  | .nx => Wp (g env) Q
  | fl => Q fl env
@[simp] theorem seqK_nx (g : S) (Q : Fl → DEnv → Prop) (env : DEnv) : SeqK g Q .nx env ↔ Wp (g env) Q := Iff.rfl
@[simp] theorem seqK_rt (g : S) (Q : Fl → DEnv → Prop) (o : Opd) (env : DEnv) : SeqK g Q (.rt o) env ↔ Q (.rt o) env := Iff.rfl
@[simp] theorem seqK_bk (g : S) (Q : Fl → DEnv → Prop) (env : DEnv) : SeqK g Q .bk env ↔ Q .bk env := Iff.rfl
@[simp] theorem seqK_ct (g : S) (Q : Fl → DEnv → Prop) (env : DEnv) : SeqK g Q .ct env ↔ Q .ct env := Iff.rfl
theorem wp_seq {f g : S} {env : DEnv} {Q : Fl → DEnv → Prop} (h : Wp (f env) (SeqK g Q)) : Wp (sSeq f g env) Q := by
  obtain ⟨fl, env1, e, q⟩ := h
  unfold sSeq
  rw [e, bind_ok]
  cases fl with
  | nx => exact q
  | rt o => exact ⟨_, _, rfl, q⟩
  | bk => exact ⟨_, _, rfl, q⟩
  | ct => exact ⟨_, _, rfl, q⟩
/-- a cut: one statement's outcome, forgotten but for P -/
theorem wp_cut {f g : S} {env : DEnv} {Q : Fl → DEnv → Prop} (P : DEnv → Prop) (h : Wp (f env) fun fl e => fl = .nx ∧ P e) (hq : ∀ e, P e → Wp (g e) Q) : Wp (sSeq f g env) Q :=
  wp_seq (h.imp fun fl e ⟨e1, p⟩ => by subst e1; exact hq e p)
end Z

set_option maxRecDepth 100000
set_option maxHeartbeats 4000000
set_option linter.all false
set_option exponentiation.threshold 10000
namespace Z
open PySem PySem.Spec L2
/-! the pool -/
def PoolOk (N : Nat) (c : Ow) : Prop := ∃ a b n : Int, c = .ls [.int a, .int b, .int n] ∧ 0 ≤ b ∧ b < 10 ^ 50 ∧ 0 ≤ n ∧ n ≤ N
theorem PoolOk.up {N M : Nat} {c : Ow} (h : PoolOk N c) (hm : N ≤ M) : PoolOk M c := by
  obtain ⟨a, b, n, e, h2, h3, h4, h5⟩ := h
  exact ⟨a, b, n, e, h2, h3, h4, by omega⟩
theorem abs_lt {x : Int} {B : Nat} (h0 : 0 ≤ x) (h : x < (B : Int)) (k : Nat) (hB : B ≤ k) : x.natAbs < k := by omega
theorem big4000 : 10 ^ 60 ≤ 2 ^ 4000 := by decide +kernel
theorem draw_ok {c : Ow} {N : Nat} {m : Int} (hm : 0 < m) (h8 : m < 10 ^ 50) (hN : N ≤ 10 ^ 9) (h : PoolOk N c) : ∃ r c', f_law_draw [.le c, .sh (.int m)] = .ok (.va (.int r)) [c'] ∧ 0 ≤ r ∧ r < m ∧ PoolOk (N + 1) c' := by
  obtain ⟨a, b, n, rfl, hb0, hb, hn0, hn⟩ := h
  have h8' : m.natAbs < 2 ^ 8000 := Nat.lt_of_lt_of_le (show m.natAbs < 10 ^ 50 by omega) (by decide +kernel)
  have hp1 : (b + 69061 * (n + 1)).natAbs < 2 ^ 4000 := Nat.lt_of_lt_of_le (show _ < 10 ^ 60 by omega) big4000
  by_cases ha : 0 < a
  · refine ⟨a % m, .ls [.int (a / m), .int b, .int n], ?_, Int.emod_nonneg _ (by omega), Int.emod_lt_of_pos _ hm, ⟨_, _, _, rfl, hb0, hb, hn0, by omega⟩⟩
    unfold f_law_draw runD b_law_draw
    simp [sSeq, L2.atI, L2.ixN, ha, hm, h8']
  · have hp2 : ∀ x : Int, (x % 100000000000000000000000000000000000000037 + 88469 * (n + 1)).natAbs < 2 ^ 4000 := fun x => by
      have h1 : 0 ≤ x % 100000000000000000000000000000000000000037 := Int.emod_nonneg _ (by decide)
      have h2 : x % 100000000000000000000000000000000000000037 < 100000000000000000000000000000000000000037 := Int.emod_lt_of_pos _ (by decide)
      exact Nat.lt_of_lt_of_le (show _ < 10 ^ 60 by omega) big4000
    refine ⟨(((b + 69061 * (n + 1)) ^ 3 % 100000000000000000000000000000000000000037 + 88469 * (n + 1)) ^ 3 % 100000000000000000000000000000000000133) / 65537 % m, .ls [.int a, .int b, .int (n + 1)], ?_, Int.emod_nonneg _ (show m ≠ 0 by omega), Int.emod_lt_of_pos _ hm, ⟨_, _, _, rfl, hb0, hb, by omega, by omega⟩⟩
    unfold f_law_draw runD b_law_draw
    simp [sSeq, L2.atI, L2.ixN, ha, hm, h8', hp1, hp2]
theorem atI_some {α : Type} {xs : List α} {i : Int} (h0 : 0 ≤ i) (h1 : i < xs.length) : ∃ x, L2.atI xs i = some x ∧ x ∈ xs ∧ xs[i.toNat]? = some x := by
  have hl : i.toNat < xs.length := by omega
  refine ⟨xs[i.toNat], ?_, List.getElem_mem hl, List.getElem?_eq_getElem hl⟩
  unfold L2.atI L2.ixN
  rw [if_pos h0, if_pos h1]
  simp
theorem pool_ok (ns : List Int) (k : Int) (hk : 0 ≤ k) (hk2 : k < 1000) (hl : ns.length ≤ 63) : ∃ c, f_law_pool [.sh (.list (ns.map PyData.int)), .sh (.int k)] = .ok (.fr c) [] ∧ PoolOk 0 c := by
  have key : ∀ v : Int, PoolOk 0 (.ls [.int (max 0 (v - 1000000000000000000)), .int (v % 10000000000000000000000000000000000000121 * 64 + k), .int 0]) := fun v => by
    have h1 : 0 ≤ v % 10000000000000000000000000000000000000121 := Int.emod_nonneg _ (by decide)
    have h2 : v % 10000000000000000000000000000000000000121 < 10000000000000000000000000000000000000121 := Int.emod_lt_of_pos _ (by decide)
    exact ⟨_, _, _, rfl, by omega, by omega, by omega, by omega⟩
  by_cases h : k < ns.length
  · obtain ⟨v, e, _⟩ := atI_some (xs := ns.map PyData.int) hk (by simpa using h)
    obtain ⟨i, rfl⟩ : ∃ i, v = .int i := by
      rename_i h2
      obtain ⟨i, _, rfl⟩ := List.mem_map.mp h2.1
      exact ⟨i, rfl⟩
    refine ⟨_, ?_, key i⟩
    unfold f_law_pool runD b_law_pool
    simp [sSeq, h, e]
  · refine ⟨_, ?_, key 0⟩
    unfold f_law_pool runD b_law_pool
    simp [sSeq, h]
end Z

set_option maxRecDepth 100000
set_option maxHeartbeats 4000000
set_option linter.all false
set_option exponentiation.threshold 10000
namespace Z
open PySem PySem.Spec L2
theorem wp_draw {i : Nat} {env : DEnv} {c : Ow} {m : Int} {N : Nat} {Q : Opd → DEnv → Prop} (h : PoolOk N c) (hN : N ≤ 10 ^ 9) (hm : 0 < m) (h8 : m < 10 ^ 50)
    (hq : ∀ r c', 0 ≤ r → r < m → PoolOk (N + 1) c' → Q (.va (.int r)) (setOw env i c')) : Wp (aft1 i env (f_law_draw [.le c, .sh (.int m)])) Q := by
  obtain ⟨r, c', e, h1, h2, h3⟩ := draw_ok hm h8 hN h
  rw [e]
  exact ⟨_, _, rfl, hq r c' h1 h2 h3⟩
/-! a row of lanes -/
abbrev LaneT := Str × Int × Int
def laneD (l : LaneT) : D := .tuple [.str "lane", .str l.1, .int l.2.1, .int l.2.2]
def namesL : List Str := ["a", "b", "c", "d", "east", "ff", "g", "h", "lane", "zip", "q", "zzzzzzzz"]
def LaneOk (l : LaneT) : Prop := 0 ≤ l.2.1 ∧ l.2.1 ≤ 10 ^ 30 ∧ 0 ≤ l.2.2 ∧ l.2.2 ≤ 10 ^ 30
structure LineOk (most : Int) (ls : List LaneT) : Prop where
  one : 1 ≤ ls.length
  few : (ls.length : Int) ≤ most
  ok : ∀ l ∈ ls, LaneOk l
  names : ∃ rest, (ls.map (·.1) ++ rest).Perm namesL
  some : ∃ l ∈ ls, 0 < l.2.2
def lineEnv (c : Ow) (most : Int) (ns : List Int) (many style : Int) (L : List Str) (ls : List LaneT) (same : Int) (s8 s9 s10 s11 : Option Slot) : DEnv :=
  [some (.le c), some (.sh (.int most)), some (.sh (.list (ns.map PyData.int))), some (.sh (.int many)), some (.sh (.int style)), some (.ow (.ls (L.map PyData.str))), some (.ow (.ls (ls.map laneD))), some (.sh (.int same)), s8, s9, s10, s11, none]
def LineInv (most : Int) (ns : List Int) (N : Nat) (many style same : Int) (i : Nat) (env : DEnv) : Prop := ∃ c L ls s8 s9 s10 s11, env = lineEnv c most ns many style L ls same s8 s9 s10 s11 ∧ PoolOk (N + 12 * i) c ∧
  (ls.map (·.1) ++ L).Perm namesL ∧ ls.length = i ∧ (∀ l ∈ ls, LaneOk l) ∧ free s8 = true ∧ free s9 = true ∧ free s10 = true ∧ free s11 = true
theorem erase_map {α β : Type} (f : α → β) : ∀ (L : List α) (k : Nat), (L.map f).eraseIdx k = (L.eraseIdx k).map f
  | [], _ => rfl
  | _ :: _, 0 => rfl
  | _ :: r, k + 1 => by
    show _ :: _ = _ :: _
    rw [erase_map f r k]
theorem erase_perm : ∀ (L : List Str) (k : Nat) (x : Str), L[k]? = some x → (x :: L.eraseIdx k).Perm L
  | [], k, x, h => by simp at h
  | y :: r, 0, x, h => by simp at h; subst h; exact List.Perm.refl _
  | y :: r, k + 1, x, h => ((List.Perm.swap _ _ _).trans (List.Perm.cons y (erase_perm r k x (by simpa using h))))
def posD : D → Bool
  | .tuple [_, _, _, .int s] => decide (0 < s)
  | _ => false
theorem posD_map (l : LaneT) : posD (laneD l) = decide (0 < l.2.2) := rfl
theorem plain_ones {α : Type} : ∀ xs : List α, PyData.plainAll (xs.map fun _ => PyData.int 1) = true
  | [] => rfl
  | _ :: r => by rw [List.map_cons]; simp only [PyData.plainAll, PyData.plain, plain_ones r, Bool.and_self]
theorem depth_ones {α : Type} : ∀ xs : List α, PyData.depthAll (xs.map fun _ => PyData.int 1) = 0
  | [] => by simp [PyData.depthAll]
  | _ :: r => by rw [List.map_cons]; simp only [PyData.depthAll, PyData.depth, depth_ones r]; rfl
theorem okD_ones {α : Type} (xs : List α) : okD (.list (xs.map fun _ => PyData.int 1)) = true := by
  rw [okD_iff]
  simp [PyData.plain, PyData.depth, plain_ones, depth_ones]
theorem line_ok {c : Ow} {N : Nat} {most : Int} {ns : List Int} (h3 : 3 ≤ most) (h12 : most ≤ 12) (hN : N ≤ 10 ^ 6) (hc : PoolOk N c) :
    Gives f_law_line [.le c, .sh (.int most), .sh (.list (ns.map PyData.int))] fun o outs => ∃ ls c', o = .fr (.ls (ls.map laneD)) ∧ outs = [c'] ∧ PoolOk (N + 200) c' ∧ LineOk most ls := by
  unfold f_law_line
  refine gives_run ⟨rfl, by decide⟩ ?_
  unfold b_law_line
  refine wp_cut (fun e => ∃ c many style, e = [some (.le c), some (.sh (.int most)), some (.sh (.list (ns.map PyData.int))), some (.sh (.int many)), some (.sh (.int style)), none, none, none, none, none, none, none, none] ∧ PoolOk (N + 4) c ∧ 1 ≤ many ∧ many ≤ most ∧ 0 ≤ style ∧ style < 4) ?_ ?_
  · simp
    refine wp_draw hc (by omega) (by omega) (by omega) fun r1 c1 l1 u1 k1 => ?_
    simp
    refine wp_draw k1 (by omega) (by omega) (by omega) fun r2 c2 l2 u2 k2 => ?_
    simp
    refine wp_draw k2 (by omega) (by omega) (by omega) fun r3 c3 l3 u3 k3 => ?_
    obtain ⟨m0, e0, a0, b0⟩ := atI_ints (ns := [1 + r1, most, 1 + r2]) (P := fun z => 1 ≤ z ∧ z ≤ most) l3 (by simpa using u3) (by
      intro n hn
      simp at hn
      rcases hn with rfl | rfl | rfl <;> omega)
    simp only [List.map_cons, List.map_nil] at e0
    simp [e0]
    refine wp_draw k3 (by omega) (by omega) (by omega) fun style0 c4 l4 u4 k4 => ?_
    simp
    exact ⟨_, _, _, ⟨rfl, rfl, rfl⟩, k4, a0, b0, l4, u4⟩
  rintro _ ⟨c, many, style, rfl, hc, h1, h2, h4, h5⟩
  refine wp_cut (fun e => ∃ many style, e = [some (.le c), some (.sh (.int most)), some (.sh (.list (ns.map PyData.int))), some (.sh (.int many)), some (.sh (.int style)), none, none, none, none, none, none, none, none] ∧ 1 ≤ many ∧ many ≤ most ∧ 0 ≤ style ∧ style < 4) ?_ ?_
  · by_cases hn : ns = []
    · simp [hn]
      exact ⟨3, 0, ⟨rfl, rfl⟩, by omega, by omega, by omega, by omega⟩
    · simp [hn]
      exact ⟨_, _, ⟨rfl, rfl⟩, h1, h2, h4, h5⟩
  clear h1 h2 h4 h5 many style
  rintro _ ⟨many, style, rfl, h1, h2, h4, h5⟩
  refine wp_seq ?_
  simp
  refine wp_seq ?_
  simp
  refine wp_draw hc (by omega) (by omega) (by omega) fun r1 c1 l1 u1 k1 => ?_
  simp
  refine wp_cut (LineInv most ns (N + 5) many style (1 + r1) many.toNat) ?_ ?_
  · simp
    have hr : -4611686018427387904 ≤ many ∧ many < 4611686018427387904 := by omega
    simp [hr]
    refine wp_for (LineInv most ns (N + 5) many style (1 + r1)) ⟨c1, namesL, [], none, none, none, none, rfl, by simpa using k1, by simp, rfl, by simp, rfl, rfl, rfl, rfl⟩ ?_ ?_
    · rintro i d env hd ⟨c, L, ls, s8, s9, s10, s11, rfl, kc, hp, hl, hok, f8, f9, f10, f11⟩
      have hi : i < many.toNat := by
        have := (List.getElem?_eq_some_iff.mp hd).1
        simpa [rangeL] using this
      have hL : L.length = 12 - i := by
        have := hp.length_eq
        rw [List.length_append, List.length_map, hl] at this
        have h12 : namesL.length = 12 := rfl
        omega
      refine ⟨lineEnv c most ns many style L ls (1 + r1) (some (.sh d)) s9 s10 s11, ?_, ?_⟩
      · simp [lineEnv, f8]
      refine wp_seq ?_
      simp [lineEnv, f9]
      refine wp_draw kc (by omega) (by omega) (by omega) fun a1 c1 l1 u1 k1 => ?_
      simp
      refine wp_draw k1 (by omega) (by omega) (by omega) fun a2 c2 l2 u2 k2 => ?_
      simp
      refine wp_draw k2 (by omega) (by omega) (by omega) fun a3 c3 l3 u3 k3 => ?_
      simp [f9]
      refine wp_seq ?_
      simp
      refine wp_draw k3 (by omega) (by omega) (by omega) fun a4 c4 l4 u4 k4 => ?_
      simp
      refine wp_draw k4 (by omega) (by omega) (by omega) fun a5 c5 l5 u5 k5 => ?_
      simp
      refine wp_draw k5 (by omega) (by omega) (by omega) fun a6 c6 l6 u6 k6 => ?_
      obtain ⟨fst, e1, p1, p2⟩ := atI_ints (ns := [0, 0, a4, 1000000000000000000000000000000 - a5]) (P := fun z => 0 ≤ z ∧ z ≤ 10 ^ 30) l6 (by simpa using u6) (by
        intro n hn
        simp at hn
        rcases hn with rfl | rfl | rfl <;> omega)
      simp only [List.map_cons, List.map_nil] at e1
      simp [f10, e1]
      refine wp_seq ?_
      simp
      refine wp_draw k6 (by omega) (by omega) (by omega) fun a7 c7 l7 u7 k7 => ?_
      obtain ⟨sz1, e2, q1, q2⟩ := atI_ints (ns := [a1, 1000000000000000000000000000000 - a2, a3, 1 + r1]) (P := fun z => 0 ≤ z ∧ z ≤ 10 ^ 30) l7 (by simpa using u7) (by
        intro n hn
        simp at hn
        rcases hn with rfl | rfl | rfl | rfl <;> omega)
      simp only [List.map_cons, List.map_nil] at e2
      simp [e2]
      obtain ⟨sz2, e3, q3, q4⟩ := atI_ints (ns := [a1, sz1, a3, 1 + r1]) (P := fun z => 0 ≤ z ∧ z ≤ 10 ^ 30) h4 (by simpa using h5) (by
        intro n hn
        simp at hn
        rcases hn with rfl | rfl | rfl | rfl <;> omega)
      simp only [List.map_cons, List.map_nil] at e3
      simp [e3, f11]
      refine wp_cut (fun e => ∃ c sz, e = lineEnv c most ns many style L ls (1 + r1) (some (.sh d)) (some (.ow (.ls [.int a1, .int (1000000000000000000000000000000 - a2), .int a3, .int (1 + r1)]))) (some (.sh (.int fst))) (some (.sh (.int sz))) ∧ PoolOk (N + 5 + 12 * i + 10) c ∧ 0 ≤ sz ∧ sz ≤ 10 ^ 30) ?_ ?_
      · by_cases hs : style = 1
        · simp [hs]
          refine wp_draw k7 (by omega) (by omega) (by omega) fun a8 c8 l8 u8 k8 => ?_
          by_cases hb : a8 = 0
          · simp [hb]
            refine wp_draw k8 (by omega) (by omega) (by omega) fun a9 c9 l9 u9 k9 => ?_
            obtain ⟨bd, e4, q5, q6⟩ := atI_ints (ns := [10, 100, 10000, 100000000, 10000000000000000000, 1000000000000000000000000000000]) (P := fun z => 1 ≤ z ∧ z ≤ 10 ^ 30) l9 (by simpa using u9) (by
              intro n hn
              simp at hn
              rcases hn with rfl | rfl | rfl | rfl | rfl | rfl <;> omega)
            simp only [List.map_cons, List.map_nil] at e4
            simp [e4]
            refine wp_draw k9 (by omega) (by omega) (by omega) fun b1 c10 l10 u10 k10 => ?_
            simp
            exact ⟨c10, 1 + b1, rfl, k10.up (by omega), by omega, by omega⟩
          · simp [hb]
            exact ⟨c8, sz2, rfl, k8.up (by omega), by omega, by omega⟩
        · simp [hs]
          exact ⟨c7, sz2, rfl, k7.up (by omega), by omega, by omega⟩
      rintro _ ⟨c, sz, rfl, kc, hz1, hz2⟩
      simp [lineEnv]
      refine wp_draw kc (by omega) (by omega) (by omega) fun b2 c11 l11 u11 k11 => ?_
      have e7 : L2.ixN L.length b2 = some b2.toNat := ixN_in l11 (by omega)
      have hb2 : b2.toNat < L.length := by omega
      have e8 : L[b2.toNat]? = some L[b2.toNat] := List.getElem?_eq_getElem hb2
      have hls : ls.length < 16777216 := by omega
      simp [e7, e8, erase_map, hls]
      have e9 : (ls ++ [((L[b2.toNat], fst, sz) : LaneT)]).map laneD = ls.map laneD ++ [PyData.tuple [.str "lane", .str L[b2.toNat], .int fst, .int sz]] := by simp [laneD]
      refine ⟨c11, L.eraseIdx b2.toNat, ls ++ [(L[b2.toNat], fst, sz)], _, _, _, _, by rw [lineEnv, e9], k11.up (by omega), ?_, by simp [hl], ?_, rfl, rfl, rfl, rfl⟩
      · refine List.Perm.trans ?_ hp
        rw [List.map_append, List.append_assoc]
        exact (erase_perm L b2.toNat _ e8).append_left _
      · intro l hm
        rcases List.mem_append.mp hm with hm | hm
        · exact hok l hm
        · cases List.mem_singleton.mp hm
          exact ⟨p1, p2, hz1, hz2⟩
    · intro env he
      simpa [rangeL] using he
  · rintro _ ⟨c, L, ls, s8, s9, s10, s11, rfl, kc, hp, hl, hok, f8, f9, f10, f11⟩
    obtain ⟨l0, rest, rfl⟩ : ∃ l0 rest, ls = l0 :: rest := by
      cases ls with
      | nil => simp at hl; omega
      | cons a r => exact ⟨a, r, rfl⟩
    have hlen : (((l0 :: rest : List LaneT)).length : Int) ≤ most := by omega
    refine wp_cut (fun e => ∃ ls s8 s9 s10 s11, e = lineEnv c most ns many style L ls (1 + r1) s8 s9 s10 s11 ∧ LineOk most ls) ?_ ?_
    · have hl4 : ∀ l : LaneT, gIx (laneD l) (.int 3) = Option.some (.va (.int l.2.2)) := fun l => by simp [laneD]
      have hl1 : ∀ l : LaneT, gIx (laneD l) (.int 1) = Option.some (.va (.str l.1)) := fun l => by simp [laneD]
      simp [lineEnv, freeD]
      refine wp_compIf posD (fun _ => .int 1) (by simp) ?_ (by simp at hlen; simp; omega) ?_
      · intro d hd
        obtain ⟨l, hm, rfl⟩ := List.mem_map.mp (show d ∈ (l0 :: rest).map laneD by simpa using hd)
        refine ⟨[some (.le c), some (.sh (.int most)), some (.sh (.list (ns.map PyData.int))), some (.sh (.int many)), some (.sh (.int style)), some (.ow (.ls (L.map PyData.str))), some (.hd (.ls (laneD l0 :: rest.map laneD))), some (.sh (.int (1 + r1))), s8, s9, s10, s11, some (.sh (laneD l))],
          [some (.le c), some (.sh (.int most)), some (.sh (.list (ns.map PyData.int))), some (.sh (.int many)), some (.sh (.int style)), some (.ow (.ls (L.map PyData.str))), some (.hd (.ls (laneD l0 :: rest.map laneD))), some (.sh (.int (1 + r1))), s8, s9, s10, s11, some (.sh (laneD l))], by simp [gName], ?_, by simp, by simp⟩
        simp [-gIx, hl4, posD_map]
      · simp [okD_ones]
        by_cases hz : ∃ l ∈ l0 :: rest, 0 < l.2.2
        · obtain ⟨l, hm, hp0⟩ := hz
          have he : (List.filter posD (laneD l0 :: List.map laneD rest)).isEmpty = false := by
            rw [List.isEmpty_eq_false_iff_exists_mem]
            exact ⟨laneD l, List.mem_filter.mpr ⟨by have := List.mem_map_of_mem (f := laneD) hm; simpa using this, by simp [posD_map, hp0]⟩⟩
          simp [he]
          exact ⟨l0 :: rest, by simp, by simp, hlen, hok, ⟨L, hp⟩, ⟨l, hm, hp0⟩⟩
        · have he : (List.filter posD (laneD l0 :: List.map laneD rest)).isEmpty = true := by
            rw [List.isEmpty_iff, List.filter_eq_nil_iff]
            intro d hd
            obtain ⟨l, hm, rfl⟩ := List.mem_map.mp (show d ∈ (l0 :: rest).map laneD by simpa using hd)
            rw [posD_map]
            simp only [decide_eq_true_eq]
            exact fun z => hz ⟨l, hm, z⟩
          simp [he]
          simp [show laneD l0 = .tuple [.str "lane", .str l0.1, .int l0.2.1, .int l0.2.2] from rfl]
          refine ⟨(l0.1, 0, 4) :: rest, by simp [laneD], by simp, by simpa using hlen, ?_, ⟨L, by simpa using hp⟩, ⟨(l0.1, 0, 4), List.mem_cons_self, by simp⟩⟩
          intro l hm
          rcases List.mem_cons.mp hm with rfl | hm
          · exact ⟨by simp, by simp, by simp, by simp⟩
          · exact hok l (List.mem_cons_of_mem _ hm)
    · rintro _ ⟨ls, s8, s9, s10, s11, rfl, hok⟩
      simp [lineEnv]
      exact ⟨ls, rfl, kc.up (by omega), hok⟩
end Z

set_option maxRecDepth 100000
set_option maxHeartbeats 4000000
set_option linter.all false
namespace Z
open PySem PySem.Spec L2
/-! trees over a row -/
inductive Tr : List LaneT → D → Nat → Prop
  | leaf (l : LaneT) (r : List LaneT) : Tr (l :: r) (laneD l) 1
  | node {rest : List LaneT} {x y : D} {n m : Nat} : Tr rest x n → Tr (rest.drop n) y m → Tr rest (.tuple [.str "zip", x, y]) (n + m)
theorem Tr.plain {rest : List LaneT} {t : D} {n : Nat} (h : Tr rest t n) : t.plain = true ∧ t.depth ≤ n ∧ fstIs isStrD t = true ∧ 1 ≤ n := by
  induction h with
  | leaf l r => simp [laneD, PyData.plain, PyData.plainAll, PyData.depth, PyData.depthAll, fstIs, isStrD]
  | node _ _ h1 h2 =>
    obtain ⟨a1, a2, a3, a4⟩ := h1
    obtain ⟨b1, b2, b3, b4⟩ := h2
    refine ⟨by simp [PyData.plain, PyData.plainAll, a1, b1], ?_, rfl, by omega⟩
    simp [PyData.depth, PyData.depthAll]
    omega
theorem eqv_tup (xs ys : List D) : PyData.eqv (.tuple xs) (.tuple ys) = PyData.eqvAll xs ys := by simp only [PyData.eqv]
theorem zl : PyData.eqv (.str "lane") (.str "zip") = false := by decide +kernel
theorem lz : PyData.eqv (.str "zip") (.str "lane") = false := by decide +kernel
theorem zz : PyData.eqv (.str "zip") (.str "zip") = true := by decide +kernel
theorem Tr.cmp : ∀ {rest : List LaneT} {t : D} {n : Nat}, Tr rest t n → ∀ {t' : D} {n' : Nat}, Tr rest t' n' → cmpOk t t' = true ∧ (PyData.eqv t t' = true → n = n') := by
  intro rest t n h
  induction h with
  | leaf l r =>
    intro t' n' h'
    cases h' with
    | leaf => simp [laneD, cmpOk, cmpOkL]
    | node h1 h2 =>
      refine ⟨by simp [laneD, cmpOk, cmpOkL, zl], fun he => ?_⟩
      simp only [laneD, eqv_tup, PySem.W.eqv_all_cons, zl, Bool.false_and] at he
      cases he
  | @node rest x y n m h1 h2 ih1 ih2 =>
    intro t' n' h'
    cases h' with
    | leaf =>
      refine ⟨by simp [laneD, cmpOk, cmpOkL, lz], fun he => ?_⟩
      simp only [laneD, eqv_tup, PySem.W.eqv_all_cons, lz, Bool.false_and] at he
      cases he
    | @node _ x' y' p q g1 g2 =>
      obtain ⟨c1, e1⟩ := ih1 g1
      refine ⟨?_, ?_⟩
      · simp only [cmpOk, cmpOkL, c1, zz, Bool.true_and, Bool.not_true, Bool.false_or, Bool.and_true, Bool.or_true]
        cases hx : PyData.eqv x x' with
        | false => rfl
        | true =>
          have := e1 hx
          subst this
          rw [(ih2 g2).1]
          rfl
      · intro he
        simp only [eqv_tup, PySem.W.eqv_all_cons, Bool.and_eq_true] at he
        have a := e1 he.2.1
        subst a
        have b := (ih2 g2).2 he.2.2.1
        omega
theorem okSort_tr {rest : List LaneT} {ds : List D} {n : Nat} (h : ∀ t ∈ ds, Tr rest t n) (hn : n ≤ 60) : okSort ds = true := by
  unfold okSort
  rw [Bool.and_eq_true, Bool.or_eq_true, Bool.and_eq_true]
  refine ⟨List.all_eq_true.mpr fun d hd => ?_, .inr ⟨by rw [Bool.or_eq_true]; exact .inl (List.all_eq_true.mpr fun d hd => (h d hd).plain.2.2.1), List.all_eq_true.mpr fun d hd => List.all_eq_true.mpr fun d' hd' => ((h d hd).cmp (h d' hd')).1⟩⟩
  have := (h d hd).plain
  rw [Bool.and_eq_true, decide_eq_true_eq]
  exact ⟨this.1, by omega⟩
theorem srtD_perm (ds : List D) : (srtD ds).Perm ds := List.mergeSort_perm _ _
/-! the dict of the law -/
abbrev KV := List (List L2.Key × D)
def getK (kvs : KV) (k : List L2.Key) : Option D := (kvs.find? fun p => decide (p.1 = k)).map (·.2)
theorem look_get (kvs : KV) (k : List L2.Key) : lookT (kvs.map fun p => (PyData.tuple (p.1.map keyD), p.2)) k = getK kvs k := by
  unfold lookT getK
  induction kvs with
  | nil => rfl
  | cons p r ih =>
    rw [List.map_cons, List.find?_cons, List.find?_cons]
    have e : (keysD (PyData.tuple (p.1.map keyD)) = some k) = (p.1 = k) := by
      show (keysOf _ = some k) = _
      rw [keysOf_keyD]
      exact propext ⟨fun z => Option.some.inj z, fun z => by rw [z]⟩
    by_cases h : p.1 = k
    · rw [decide_eq_true (e ▸ h), decide_eq_true h]
      rfl
    · rw [decide_eq_false (fun z => h (e ▸ z)), decide_eq_false h]
      exact ih
theorem get_put (kvs : KV) (k k' : List L2.Key) (v : D) : getK (Z.putK kvs k v) k' = if k = k' then some v else getK kvs k' := by
  unfold Z.putK
  split
  · rename_i h
    unfold getK
    induction kvs with
    | nil => simp at h
    | cons p r ih =>
      rw [List.map_cons, List.find?_cons, List.find?_cons]
      by_cases hp : p.1 = k
      · rw [if_pos hp]
        by_cases hk : k = k'
        · rw [if_pos hk, decide_eq_true (by show p.1 = k'; rw [hp, hk])]
          rfl
        · rw [if_neg hk, decide_eq_false (by show ¬ p.1 = k'; rw [hp]; exact hk)]
          simp only
          -- the rest holds the key or not: nothing else changes
          by_cases hr : (r.any fun kv => decide (kv.1 = k)) = true
          · have := ih hr
            rw [if_neg hk] at this
            exact this
          · have e : (r.map fun kv => if kv.1 = k then (kv.1, v) else kv) = r := by
              have : ∀ kv ∈ r, (if kv.1 = k then (kv.1, v) else kv) = kv := fun kv hm => by
                rw [if_neg]
                intro z
                exact hr (List.any_eq_true.mpr ⟨kv, hm, decide_eq_true z⟩)
              exact (List.map_congr_left this).trans (List.map_id' _)
            rw [e]
      · rw [if_neg hp]
        rw [List.any_cons, decide_eq_false hp, Bool.false_or] at h
        by_cases hk : p.1 = k'
        · rw [decide_eq_true hk]
          simp only
          rw [if_neg (fun z => hp (by rw [hk, z]))]
        · rw [decide_eq_false hk]
          exact ih h
  · rename_i h
    unfold getK
    rw [List.find?_append]
    by_cases hk : k = k'
    · subst hk
      rw [if_pos rfl]
      have : kvs.find? (fun p => decide (p.1 = k)) = none := by
        rw [List.find?_eq_none]
        intro p hp z
        exact h (List.any_eq_true.mpr ⟨p, hp, z⟩)
      rw [this]
      simp
    · rw [if_neg hk]
      cases e : kvs.find? (fun p => decide (p.1 = k')) with
      | some p => simp
      | none => simp [hk]
theorem put_len (kvs : KV) (k : List L2.Key) (v : D) : (Z.putK kvs k v).length ≤ kvs.length + 1 := by
  unfold Z.putK
  split
  · rw [List.length_map]; omega
  · rw [List.length_append, List.length_singleton]; omega
end Z

set_option maxRecDepth 100000
set_option maxHeartbeats 4000000
set_option linter.all false
set_option exponentiation.threshold 10000
namespace Z
open PySem PySem.Spec L2
def catN : Nat → Nat
  | 1 => 1
  | 2 => 1
  | 3 => 2
  | 4 => 5
  | 5 => 14
  | 6 => 42
  | _ => 0
def part (s k : Nat) : Nat := ((List.range k).map fun c => catN (c + 1) * catN (s - (c + 1))).sum
theorem part_succ (s k : Nat) : part s (k + 1) = part s k + catN (k + 1) * catN (s - (k + 1)) := by
  unfold part
  rw [List.range_succ, List.map_append, List.sum_append]
  simp
theorem part_all : ∀ s, s < 7 → 2 ≤ s → part s (s - 1) = catN s := by decide
theorem part_le : ∀ s, s < 7 → ∀ k, k < 6 → part s k ≤ 100000 := by decide
theorem cat_le : ∀ s, catN s ≤ 42 := fun s => by unfold catN; split <;> omega
def ky (a b : Nat) : List L2.Key := [.inl (a : Int), .inl (b : Int)]
/-- the trees over the parts of z lanes from a on -/
def Have (ls : List LaneT) (kvs : KV) (a z : Nat) : Prop := ∃ ds, getK kvs (ky a (a + z)) = some (.list ds) ∧ ds.length = catN z ∧ ∀ t ∈ ds, Tr (ls.drop a) t z
def Done (ls : List LaneT) (kvs : KV) (s f : Nat) : Prop := ∀ a z, 1 ≤ z → a + z ≤ ls.length → (z < s ∨ (z = s ∧ a < f)) → Have ls kvs a z
theorem ky_inj {a b c d : Nat} : ky a b = ky c d ↔ a = c ∧ b = d := by simp [ky]; omega
theorem Done.put {ls : List LaneT} {kvs : KV} {s f : Nat} {ds : List D} (h : Done ls kvs s f) (hl : ds.length = catN s) (ht : ∀ t ∈ ds, Tr (ls.drop f) t s) : Done ls (Z.putK kvs (ky f (f + s)) (.list ds)) s (f + 1) := by
  intro a z h1 h2 h3
  unfold Have
  rw [get_put]
  by_cases e : ky f (f + s) = ky a (a + z)
  · rw [if_pos e]
    obtain ⟨e1, e2⟩ := ky_inj.mp e
    subst e1
    have : z = s := by omega
    subst this
    exact ⟨ds, rfl, hl, ht⟩
  · rw [if_neg e]
    refine h a z h1 h2 ?_
    rcases h3 with h3 | ⟨h3, h4⟩
    · exact .inl h3
    · refine .inr ⟨h3, ?_⟩
      rcases Nat.lt_or_ge a f with h5 | h5
      · exact h5
      · exfalso
        apply e
        have : a = f := by omega
        subst this
        subst h3
        rfl
def tEnv (ls : List LaneT) (kvs : KV) (s2 s3 s4 s5 s6 : Option Slot) : DEnv := [some (.sh (.list (ls.map laneD))), some (.ow (.dt kvs)), s2, s3, s4, s5, s6, none]
theorem gix_dt {kvs : KV} {a b : Nat} {d : D} (h : getK kvs (ky a b) = some d) : gIx (Ow.d (.dt kvs)) (.tuple [.int a, .int b]) = some (.va d) := by
  have e : keysD (.tuple [.int a, .int b]) = some (ky a b) := rfl
  simp only [Ow.d, gIx, lookD, e, Option.map_some, look_get, h]
  rfl
theorem range_get {lo : Int} {n i : Nat} {d : D} (h : (rangeL lo n)[i]? = some d) : i < n ∧ d = .int (lo + i) := by
  have hl := (List.getElem?_eq_some_iff.mp h).1
  have hi : i < n := by simpa [rangeL] using hl
  refine ⟨hi, ?_⟩
  simp [rangeL, hi] at h
  exact h.symm
theorem iRange2_ok {a b : E} {env : DEnv} {i j : Int} (ha : a env = .ok (.va (.int i)) env) (hb : b env = .ok (.va (.int j)) env) (h : -(2 ^ 62) ≤ i ∧ i < 2 ^ 62 ∧ -(2 ^ 62) ≤ j ∧ j < 2 ^ 62) : iRange2 a b env = .ok (rangeL i (j - i).toNat, none) env := by
  unfold iRange2
  rw [ha, bind_ok, hb, bind_ok]
  simp only [rd]
  rw [if_pos h]
theorem iRange1_ok {a : E} {env : DEnv} {j : Int} (ha : a env = .ok (.va (.int j)) env) (h : -(2 ^ 62) ≤ j ∧ j < 2 ^ 62) : iRange1 a env = .ok (rangeL 0 j.toNat, none) env := by
  unfold iRange1
  rw [ha, bind_ok]
  simp only [rd]
  rw [if_pos h]
abbrev tb1 : S := sSet 4 (eBin gMul (eLst (dCons (eBin gIx (eVar 0) (eVar 3)) (dNil))) (eUn gInt (eBin gEq (eVar 2) (eC (.int 1)))))
abbrev tb2c : S := sExpr (eMutT okL mExtend 4 (dCons (eComp (iE (eBin gIx (eVar 1) (eTup (dCons (eBin gAdd (eVar 3) (eVar 5)) (dCons (eBin gAdd (eVar 3) (eVar 2)) (dNil)))))) (gName 7) (tYes) (eTup (dCons (eC (.str "zip")) (dCons (eVar 6) (dCons (eVar 7) (dNil))))) [7]) (dNil)))
abbrev tb2b : S := sFor (iE (eBin gIx (eVar 1) (eTup (dCons (eVar 3) (dCons (eBin gAdd (eVar 3) (eVar 5)) (dNil)))))) (gName 6) tb2c
abbrev tb2 : S := sFor (iRange2 (eC (.int 1)) (eVar 2)) (gName 5) tb2b
abbrev tb3 : S := sSetIx 1 (eTup (dCons (eVar 3) (dCons (eBin gAdd (eVar 3) (eVar 2)) (dNil)))) (eUn gSorted (eVar 4))
def tE4 (ls : List LaneT) (kvs : KV) (i j : Nat) (acc : List D) (s5 s6 : Option Slot) : DEnv := tEnv ls kvs (some (.sh (.int (1 + i)))) (some (.sh (.int j))) (some (.ow (.ls acc))) s5 s6
theorem tb1_ok {ls : List LaneT} {kvs : KV} {i j : Nat} {s4 s5 s6 : Option Slot} (hjl : j < ls.length) (f4 : free s4 = true) : Wp (tb1 (tEnv ls kvs (some (.sh (.int (1 + i)))) (some (.sh (.int j))) s4 s5 s6)) fun fl e => fl = .nx ∧ ∃ acc, e = tE4 ls kvs i j acc s5 s6 ∧ acc.length = (if i = 0 then 1 else 0) ∧ ∀ t ∈ acc, Tr (ls.drop j) t (i + 1) := by
  have ej : L2.atI (ls.map laneD) (j : Int) = some (laneD ls[j]) := by
    rw [L2.atI_nat (j := j) (v := laneD ls[j])]
    simp [hjl]
  by_cases hi0 : i = 0
  · subst hi0
    simp [tb1, tE4, tEnv, ej, f4]
    rw [List.drop_eq_getElem_cons hjl]
    exact .leaf _ _
  · have : ¬ ((1 : Int) + i = 1) := by omega
    simp [tb1, tE4, tEnv, ej, f4, this, hi0]
theorem tb2c_ok {ls : List LaneT} {kvs : KV} {i j k : Nat} {acc rds : List D} {left : D} (hk : k < i) (er2 : gIx (Ow.d (.dt kvs)) (.tuple [.int (j + (1 + k)), .int (j + (1 + i))]) = some (.va (.list rds))) (hx : acc.length + rds.length ≤ 16777216)
    (hT : ∀ t ∈ acc, Tr (ls.drop j) t (i + 1)) (hl : Tr (ls.drop j) left (k + 1)) (hr : ∀ t ∈ rds, Tr (ls.drop (j + (k + 1))) t (i + 1 - (k + 1))) :
    Wp (tb2c (tE4 ls kvs i j acc (some (.sh (.int (1 + k)))) (some (.sh left)))) fun fl e => fl = .nx ∧ ∃ acc', e = tE4 ls kvs i j acc' (some (.sh (.int (1 + k)))) (some (.sh left)) ∧ acc'.length = acc.length + rds.length ∧ ∀ t ∈ acc', Tr (ls.drop j) t (i + 1) := by
  simp [tb2c, -gIx, -Ow.d, tE4, tEnv, er2, freeD]
  refine wp_comp (fun r => .tuple [.str "zip", left, r]) (by simp) ?_ (by simp; omega) ?_
  · intro d hd
    refine ⟨[some (.sh (.list (ls.map laneD))), some (.ow (.dt kvs)), some (.sh (.int (1 + i))), some (.sh (.int j)), some (.ow (.ls acc)), some (.sh (.int (1 + k))), some (.sh left), some (.sh d)],
      [some (.sh (.list (ls.map laneD))), some (.ow (.dt kvs)), some (.sh (.int (1 + i))), some (.sh (.int j)), some (.ow (.ls acc)), some (.sh (.int (1 + k))), some (.sh left), some (.sh d)], by simp [gName], by simp, by simp⟩
  · simp [hx]
    intro t ht
    rcases ht with ht | ⟨r, hr2, rfl⟩
    · exact hT t ht
    · have t2 := hr r hr2
      rw [← List.drop_drop] at t2
      have := Tr.node hl t2
      have e : k + 1 + (i + 1 - (k + 1)) = i + 1 := by omega
      rw [e] at this
      exact this
theorem tb2b_ok {ls : List LaneT} {kvs : KV} {i j k : Nat} {acc : List D} {s6 : Option Slot} (h6 : ls.length ≤ 6) (hij : i + j < ls.length) (hk : k < i) (hD : Done ls kvs (i + 1) j) (f6 : free s6 = true) (ha : acc.length ≤ 100001) (hT : ∀ t ∈ acc, Tr (ls.drop j) t (i + 1)) :
    Wp (tb2b (tE4 ls kvs i j acc (some (.sh (.int (1 + k)))) s6)) fun fl e => fl = .nx ∧ ∃ acc' s6, e = tE4 ls kvs i j acc' (some (.sh (.int (1 + k)))) s6 ∧ acc'.length = acc.length + catN (k + 1) * catN (i + 1 - (k + 1)) ∧ (∀ t ∈ acc', Tr (ls.drop j) t (i + 1)) ∧ free s6 = true := by
  obtain ⟨lds, el, ll, lt⟩ := hD j (k + 1) (by omega) (by omega) (.inl (by omega))
  obtain ⟨rds, er, rl, rt⟩ := hD (j + (k + 1)) (i + 1 - (k + 1)) (by omega) (by omega) (.inl (by omega))
  have el2 : gIx (Ow.d (.dt kvs)) (.tuple [.int j, .int (j + (1 + k))]) = some (.va (.list lds)) := by
    have := gix_dt el
    have e : ((j + (k + 1) : Nat) : Int) = (j : Int) + (1 + k) := by omega
    rw [e] at this
    exact this
  have er2 : gIx (Ow.d (.dt kvs)) (.tuple [.int (j + (1 + k)), .int (j + (1 + i))]) = some (.va (.list rds)) := by
    have := gix_dt er
    have e1 : ((j + (k + 1) : Nat) : Int) = (j : Int) + (1 + k) := by omega
    have e2 : ((j + (k + 1) + (i + 1 - (k + 1)) : Nat) : Int) = (j : Int) + (1 + i) := by omega
    rw [e1, e2] at this
    exact this
  have hb1 : lds.length ≤ 42 := by rw [ll]; exact cat_le _
  have hb2 : rds.length ≤ 42 := by rw [rl]; exact cat_le _
  simp [tb2b, -gIx, -Ow.d, tE4, tEnv, el2, -sExpr]
  refine wp_for (fun m e => ∃ acc' s6, e = tE4 ls kvs i j acc' (some (.sh (.int (1 + k)))) s6 ∧ acc'.length = acc.length + m * rds.length ∧ (∀ t ∈ acc', Tr (ls.drop j) t (i + 1)) ∧ free s6 = true) ⟨acc, s6, rfl, by simp, hT, f6⟩ ?_ ?_
  · rintro m left env hl ⟨acc', s6, rfl, ha', hT', f6⟩
    have hm : m < lds.length := (List.getElem?_eq_some_iff.mp hl).1
    have hleft : left ∈ lds := by
      obtain ⟨_, e⟩ := List.getElem?_eq_some_iff.mp hl
      exact e ▸ List.getElem_mem _
    have hb3 : m * rds.length ≤ 42 * 42 := Nat.mul_le_mul (by omega) hb2
    refine ⟨tE4 ls kvs i j acc' (some (.sh (.int (1 + k)))) (some (.sh left)), by simp [tE4, tEnv, f6], ?_⟩
    refine (tb2c_ok hk er2 (by omega) hT' (lt left hleft) rt).imp ?_
    rintro fl e ⟨rfl, acc2, rfl, h2, h3⟩
    refine ⟨.inl rfl, acc2, _, rfl, ?_, h3, rfl⟩
    rw [h2, ha', Nat.add_mul]
    omega
  · rintro env ⟨acc', s6, rfl, ha', hT', f6⟩
    exact ⟨rfl, acc', s6, rfl, by rw [ha', ll, rl, show i + 1 - (k + 1) = i - k by omega], hT', f6⟩
theorem tb2_ok {ls : List LaneT} {kvs : KV} {i j : Nat} {acc : List D} {s5 s6 : Option Slot} (h6 : ls.length ≤ 6) (hij : i + j < ls.length) (hD : Done ls kvs (i + 1) j) (f5 : free s5 = true) (f6 : free s6 = true) (ha : acc.length = (if i = 0 then 1 else 0)) (hT : ∀ t ∈ acc, Tr (ls.drop j) t (i + 1)) :
    Wp (tb2 (tE4 ls kvs i j acc s5 s6)) fun fl e => fl = .nx ∧ ∃ acc' s5 s6, e = tE4 ls kvs i j acc' s5 s6 ∧ acc'.length = catN (i + 1) ∧ (∀ t ∈ acc', Tr (ls.drop j) t (i + 1)) ∧ free s5 = true ∧ free s6 = true := by
  have hr3 : (1 : Int) + i < 4611686018427387904 := by omega
  have hr4 : -4611686018427387904 ≤ (1 : Int) + i := by omega
  have ei : ((1 : Int) + i - 1).toNat = i := by omega
  have main : Wp (forL none (rangeL 1 i) (gName 5) tb2b (rangeL 1 i) (tE4 ls kvs i j acc s5 s6)) fun fl e => fl = .nx ∧ ∃ acc' s5 s6, e = tE4 ls kvs i j acc' s5 s6 ∧ acc'.length = catN (i + 1) ∧ (∀ t ∈ acc', Tr (ls.drop j) t (i + 1)) ∧ free s5 = true ∧ free s6 = true := by
    refine wp_for (fun k e => ∃ acc' s5 s6, e = tE4 ls kvs i j acc' s5 s6 ∧ acc'.length = (if i = 0 then 1 else 0) + part (i + 1) k ∧ (∀ t ∈ acc', Tr (ls.drop j) t (i + 1)) ∧ free s5 = true ∧ free s6 = true) ⟨acc, s5, s6, rfl, by rw [ha]; rfl, hT, f5, f6⟩ ?_ ?_
    · rintro k d env hd ⟨acc, s5, s6, rfl, hacc, hTr, f5, f6⟩
      obtain ⟨hk, rfl⟩ := range_get hd
      have hb4 : part (i + 1) k ≤ 100000 := part_le (i + 1) (by omega) k (by omega)
      refine ⟨tE4 ls kvs i j acc (some (.sh (.int (1 + k)))) s6, by simp [tE4, tEnv, f5], ?_⟩
      refine (tb2b_ok h6 hij hk hD f6 (by rw [hacc]; split <;> omega) hTr).imp ?_
      rintro fl e ⟨rfl, acc', s6, rfl, h1, h2, h3⟩
      refine ⟨.inl rfl, acc', _, s6, rfl, ?_, h2, rfl, h3⟩
      rw [h1, hacc, part_succ]
      omega
    · rintro env ⟨acc, s5, s6, rfl, hacc, hTr, f5, f6⟩
      refine ⟨rfl, acc, s5, s6, rfl, ?_, hTr, f5, f6⟩
      have hl : (rangeL 1 i).length = i := by simp [rangeL]
      rw [hl] at hacc
      rw [hacc]
      by_cases hi0 : i = 0
      · subst hi0; rfl
      · rw [if_neg hi0, Nat.zero_add]
        exact part_all (i + 1) (by omega) (by omega)
  have e0 : tb2 (tE4 ls kvs i j acc s5 s6) = forL none (rangeL 1 i) (gName 5) tb2b (rangeL 1 i) (tE4 ls kvs i j acc s5 s6) := by
    show ((iRange2 (eC (.int 1)) (eVar 2)) (tE4 ls kvs i j acc s5 s6)).bind _ = _
    rw [iRange2_ok (a := eC (.int 1)) (b := eVar 2) (env := tE4 ls kvs i j acc s5 s6) (i := 1) (j := 1 + i) rfl rfl (by omega), ei]
    rfl
  rw [e0]
  exact main
theorem tb3_ok {ls : List LaneT} {kvs : KV} {i j : Nat} {acc : List D} {s5 s6 : Option Slot} (h6 : i < 60) (hk : kvs.length < 16777216) (hl : acc.length = catN (i + 1)) (hD : Done ls kvs (i + 1) j) (hT : ∀ t ∈ acc, Tr (ls.drop j) t (i + 1)) :
    Wp (tb3 (tE4 ls kvs i j acc s5 s6)) fun fl e => fl = .nx ∧ ∃ kvs' acc', e = tE4 ls kvs' i j acc' s5 s6 ∧ Done ls kvs' (i + 1) (j + 1) ∧ kvs'.length ≤ kvs.length + 1 := by
  have hok := okSort_tr hT (by omega)
  have e1 : keysD (.tuple [.int j, .int (j + (1 + i))]) = some (ky j (j + (i + 1))) := by
    have e : ((j + (i + 1) : Nat) : Int) = (j : Int) + (1 + i) := by omega
    simp [keysD, ky, ← e]
  have hP := Done.put (ds := srtD acc) hD (by rw [(srtD_perm acc).length_eq, hl]) (fun t ht => hT t ((srtD_perm acc).mem_iff.mp ht))
  have hL := put_len kvs (ky j (j + (i + 1))) (.list (srtD acc))
  simp [tb3, tE4, tEnv, hok, e1, hk]
  exact ⟨hP, hL⟩
abbrev tb : S := sSeq tb1 (sSeq tb2 tb3)
theorem tb_ok {ls : List LaneT} {kvs : KV} {i j : Nat} {s4 s5 s6 : Option Slot} (h6 : ls.length ≤ 6) (hij : i + j < ls.length) (hk : kvs.length < 1000) (hD : Done ls kvs (i + 1) j) (f4 : free s4 = true) (f5 : free s5 = true) (f6 : free s6 = true) :
    Wp (tb (tEnv ls kvs (some (.sh (.int (1 + i)))) (some (.sh (.int j))) s4 s5 s6)) fun fl e => fl = .nx ∧ ∃ kvs' s4 s5 s6, e = tEnv ls kvs' (some (.sh (.int (1 + i)))) (some (.sh (.int j))) s4 s5 s6 ∧ Done ls kvs' (i + 1) (j + 1) ∧ kvs'.length ≤ kvs.length + 1 ∧ free s4 = true ∧ free s5 = true ∧ free s6 = true := by
  refine wp_cut _ (tb1_ok (by omega) f4) ?_
  rintro _ ⟨acc, rfl, h1, h2⟩
  refine wp_cut _ (tb2_ok h6 hij hD f5 f6 h1 h2) ?_
  rintro _ ⟨acc, s5, s6, rfl, h1, h2, f5, f6⟩
  refine (tb3_ok (by omega) (by omega) h1 hD h2).imp ?_
  rintro fl e ⟨rfl, kvs', acc', rfl, h3, h4⟩
  exact ⟨rfl, kvs', _, _, _, rfl, h3, h4, rfl, f5, f6⟩
theorem trees_ok {ls : List LaneT} (h1 : 1 ≤ ls.length) (h6 : ls.length ≤ 6) : Gives f_law_trees [.sh (.list (ls.map laneD))] fun o outs => ∃ ds, o = .va (.list ds) ∧ outs = [] ∧ ds.length = catN ls.length := by
  unfold f_law_trees
  refine gives_run ⟨rfl, by decide⟩ ?_
  show Wp (sSeq (sSet 1 eDt) (sSeq (sFor (iRange2 (eC (.int 1)) (eBin gAdd (eUn gLen (eVar 0)) (eC (.int 1)))) (gName 2) (sFor (iRange1 (eBin gAdd (eBin gSub (eUn gLen (eVar 0)) (eVar 2)) (eC (.int 1)))) (gName 3) tb)) (sRet (eBin gIx (eVar 1) (eTup (dCons (eC (.int 0)) (dCons (eUn gLen (eVar 0)) (dNil))))))) _) _
  refine wp_cut (fun e => e = tEnv ls [] none none none none none) (by simp [tEnv]) ?_
  rintro _ rfl
  refine wp_cut (fun e => ∃ kvs s2 s3 s4 s5 s6, e = tEnv ls kvs s2 s3 s4 s5 s6 ∧ Done ls kvs (ls.length + 1) 0) ?_ ?_
  · have outer : Wp (forL none (rangeL 1 ls.length) (gName 2) (sFor (iRange1 (eBin gAdd (eBin gSub (eUn gLen (eVar 0)) (eVar 2)) (eC (.int 1)))) (gName 3) tb) (rangeL 1 ls.length) (tEnv ls [] none none none none none)) fun fl e => fl = .nx ∧ ∃ kvs s2 s3 s4 s5 s6, e = tEnv ls kvs s2 s3 s4 s5 s6 ∧ Done ls kvs (ls.length + 1) 0 := by
      refine wp_for (fun i e => ∃ kvs s2 s3 s4 s5 s6, e = tEnv ls kvs s2 s3 s4 s5 s6 ∧ Done ls kvs (i + 1) 0 ∧ kvs.length ≤ i * 10 ∧ free s2 = true ∧ free s3 = true ∧ free s4 = true ∧ free s5 = true ∧ free s6 = true) ⟨[], none, none, none, none, none, rfl, fun a z q1 q2 q3 => by omega, by simp, rfl, rfl, rfl, rfl, rfl⟩ ?_ ?_
      · rintro i d env hd ⟨kvs, s2, s3, s4, s5, s6, rfl, hD, hk, f2, f3, f4, f5, f6⟩
        obtain ⟨hi, rfl⟩ := range_get hd
        refine ⟨tEnv ls kvs (some (.sh (.int (1 + i)))) s3 s4 s5 s6, by simp [tEnv, f2], ?_⟩
        show Wp (((iRange1 (eBin gAdd (eBin gSub (eUn gLen (eVar 0)) (eVar 2)) (eC (.int 1)))) (tEnv ls kvs (some (.sh (.int (1 + i)))) s3 s4 s5 s6)).bind _) _
        rw [iRange1_ok (j := (ls.length : Int) - (1 + i) + 1) (by simp [tEnv]) (by omega), show ((ls.length : Int) - (1 + i) + 1).toNat = ls.length - i by omega]
        refine (wp_for (Q := fun fl e => fl = .nx ∧ ∃ kvs s3 s4 s5 s6, e = tEnv ls kvs (some (.sh (.int (1 + i)))) s3 s4 s5 s6 ∧ Done ls kvs (i + 1) (ls.length - i) ∧ kvs.length ≤ i * 10 + (ls.length - i) ∧ free s3 = true ∧ free s4 = true ∧ free s5 = true ∧ free s6 = true) (fun j e => ∃ kvs s3 s4 s5 s6, e = tEnv ls kvs (some (.sh (.int (1 + i)))) s3 s4 s5 s6 ∧ Done ls kvs (i + 1) j ∧ kvs.length ≤ i * 10 + j ∧ free s3 = true ∧ free s4 = true ∧ free s5 = true ∧ free s6 = true) ⟨kvs, s3, s4, s5, s6, rfl, hD, by omega, f3, f4, f5, f6⟩ ?_ ?_).imp ?_
        · rintro j d env hd ⟨kvs, s3, s4, s5, s6, rfl, hD, hk, f3, f4, f5, f6⟩
          obtain ⟨hj, rfl⟩ := range_get hd
          refine ⟨tEnv ls kvs (some (.sh (.int (1 + i)))) (some (.sh (.int j))) s4 s5 s6, by simp [tEnv, f3], ?_⟩
          refine (tb_ok h6 (by omega) (by omega) hD f4 f5 f6).imp ?_
          rintro fl e ⟨rfl, kvs', s4, s5, s6, rfl, h3, h4, f4, f5, f6⟩
          exact ⟨.inl rfl, kvs', _, _, _, _, rfl, h3, by omega, rfl, f4, f5, f6⟩
        · rintro env ⟨kvs, s3, s4, s5, s6, rfl, hD, hk, f3, f4, f5, f6⟩
          have hl : (rangeL 0 (ls.length - i)).length = ls.length - i := by simp [rangeL]
          rw [hl] at hD hk
          exact ⟨rfl, kvs, _, _, _, _, rfl, hD, hk, f3, f4, f5, f6⟩
        · rintro fl e ⟨rfl, kvs, s3, s4, s5, s6, rfl, hD, hk, f3, f4, f5, f6⟩
          refine ⟨.inl rfl, kvs, _, _, _, _, _, rfl, ?_, by omega, rfl, f3, f4, f5, f6⟩
          intro a z q1 q2 q3
          exact hD a z q1 q2 (by omega)
      · rintro env ⟨kvs, s2, s3, s4, s5, s6, rfl, hD, _⟩
        have hl : (rangeL 1 ls.length).length = ls.length := by simp [rangeL]
        rw [hl] at hD
        exact ⟨rfl, kvs, _, _, _, _, _, rfl, hD⟩
    show Wp (((iRange2 (eC (.int 1)) (eBin gAdd (eUn gLen (eVar 0)) (eC (.int 1)))) (tEnv ls [] none none none none none)).bind _) _
    rw [iRange2_ok (a := eC (.int 1)) (b := eBin gAdd (eUn gLen (eVar 0)) (eC (.int 1))) (env := tEnv ls [] none none none none none) (i := 1) (j := (ls.length : Int) + 1) rfl (by simp [tEnv]) (by omega), show ((ls.length : Int) + 1 - 1).toNat = ls.length by omega]
    exact outer
  · rintro _ ⟨kvs, s2, s3, s4, s5, s6, rfl, hD⟩
    obtain ⟨ds, e, hl, _⟩ := hD 0 ls.length h1 (by omega) (.inl (by omega))
    have e2 : gIx (Ow.d (.dt kvs)) (.tuple [.int 0, .int ls.length]) = some (.va (.list ds)) := by
      have := gix_dt e
      simpa [-gIx, -Ow.d] using this
    simp [-gIx, -Ow.d, e2, tEnv, hl]
end Z

set_option maxRecDepth 100000
set_option maxHeartbeats 4000000
set_option linter.all false
set_option exponentiation.threshold 10000
namespace Z
open PySem PySem.Spec L2
@[simp] theorem callLe2 (f : Fn) (i : Nat) (e e2 : E) (env : DEnv) : eCall 3 f (aLe i (aSh e (aSh e2 aNil))) env = match ownAt env i with
    | some _ => (e env).bind fun o env1 => (share o env1).bind fun d env2 => (e2 env2).bind fun o2 env3 => (share o2 env3).bind fun d2 env4 => match ownAt env4 i with
      | some c => aft1 i env4 (f [.le c, .sh d, .sh d2])
      | none => .bad
    | none => .bad := by
  unfold eCall
  simp only [aLe, aSh, aNil]
  cases ownAt env i with
  | none => rfl
  | some _ =>
    simp only
    cases e env with
    | bad => rfl
    | exc c en => rfl
    | ok o env1 =>
      simp only [bind_ok]
      cases share o env1 with
      | bad => rfl
      | exc c en => rfl
      | ok d env2 =>
        simp only [bind_ok]
        cases e2 env2 with
        | bad => rfl
        | exc c en => rfl
        | ok o2 env3 =>
          simp only [bind_ok]
          cases share o2 env3 with
          | bad => rfl
          | exc c en => rfl
          | ok d2 env4 =>
            simp only [bind_ok]
            rw [if_pos ⟨rfl, by simp [okArgs, leIx, boIx]⟩]
            cases e0 : ownAt env4 i with
            | none => simp only [fargs, e0]
            | some c =>
              simp only [fargs, e0, Option.map_some]
              cases f [.le c, .sh d, .sh d2] with
              | bad => rfl
              | ok o outs =>
                match outs with
                | [] => rfl
                | [c'] => simp [setOws, boIx, aft1, leIx]
                | _ :: _ :: _ => simp [setOws, aft1]
              | exc x outs =>
                match outs with
                | [] => rfl
                | [c'] => simp [setOws, boIx, aft1, leIx]
                | _ :: _ :: _ => simp [setOws, aft1]
@[simp] theorem callK1 (f : Fn) (e : E) (env : DEnv) : eCall 1 f (aPerm [0] (aSh e aNil)) env = eCall 1 f (aSh e aNil) env := by
  unfold eCall
  congr 1
  simp only [aPerm, aSh, aNil]
  cases e env with
  | bad => rfl
  | exc c en => rfl
  | ok o env1 =>
    simp only [bind_ok]
    cases share o env1 with
    | bad => rfl
    | exc c en => rfl
    | ok d env2 => rfl
def catL : List Int := [0, 1, 1, 2, 5, 14, 42, 132, 429, 1430, 4862, 16796, 58786]
theorem ct1 : f_count_trees [.sh (.int 1)] = .ok (.va (.int 1)) [] := by kernel_rfl
theorem ct2 : f_count_trees [.sh (.int 2)] = .ok (.va (.int 1)) [] := by kernel_rfl
theorem ct3 : f_count_trees [.sh (.int 3)] = .ok (.va (.int 2)) [] := by kernel_rfl
theorem ct4 : f_count_trees [.sh (.int 4)] = .ok (.va (.int 5)) [] := by kernel_rfl
theorem ct5 : f_count_trees [.sh (.int 5)] = .ok (.va (.int 14)) [] := by kernel_rfl
theorem ct6 : f_count_trees [.sh (.int 6)] = .ok (.va (.int 42)) [] := by kernel_rfl
theorem ct7 : f_count_trees [.sh (.int 7)] = .ok (.va (.int 132)) [] := by kernel_rfl
theorem ct8 : f_count_trees [.sh (.int 8)] = .ok (.va (.int 429)) [] := by kernel_rfl
theorem ct9 : f_count_trees [.sh (.int 9)] = .ok (.va (.int 1430)) [] := by kernel_rfl
theorem ct10 : f_count_trees [.sh (.int 10)] = .ok (.va (.int 4862)) [] := by kernel_rfl
theorem ct11 : f_count_trees [.sh (.int 11)] = .ok (.va (.int 16796)) [] := by kernel_rfl
theorem ct12 : f_count_trees [.sh (.int 12)] = .ok (.va (.int 58786)) [] := by kernel_rfl
theorem cat12 : f_law_catalan [.sh (.int 12)] = .ok (.fr (.ls (catL.map PyData.int))) [] := by kernel_rfl
/-- what is counted, and its repr -/
theorem ct_all (n : Int) (h1 : 1 ≤ n) (h2 : n ≤ 12) : ∃ c S, f_count_trees [.sh (.int n)] = .ok (.va (.int c)) [] ∧ L2.atI (catL.map PyData.int) n = some (.int c) ∧ gRepr (.list [.int c, .int c]) = some (.va (.str S)) ∧ (n ≤ 6 → c = (catN n.toNat : Int)) := by
  obtain rfl | rfl | rfl | rfl | rfl | rfl | rfl | rfl | rfl | rfl | rfl | rfl : n = 1 ∨ n = 2 ∨ n = 3 ∨ n = 4 ∨ n = 5 ∨ n = 6 ∨ n = 7 ∨ n = 8 ∨ n = 9 ∨ n = 10 ∨ n = 11 ∨ n = 12 := by omega
  · exact ⟨_, PyData.shown (.list [.int 1, .int 1]), ct1, rfl, by kernel_rfl, fun _ => rfl⟩
  · exact ⟨_, PyData.shown (.list [.int 1, .int 1]), ct2, rfl, by kernel_rfl, fun _ => rfl⟩
  · exact ⟨_, PyData.shown (.list [.int 2, .int 2]), ct3, rfl, by kernel_rfl, fun _ => rfl⟩
  · exact ⟨_, PyData.shown (.list [.int 5, .int 5]), ct4, rfl, by kernel_rfl, fun _ => rfl⟩
  · exact ⟨_, PyData.shown (.list [.int 14, .int 14]), ct5, rfl, by kernel_rfl, fun _ => rfl⟩
  · exact ⟨_, PyData.shown (.list [.int 42, .int 42]), ct6, rfl, by kernel_rfl, fun _ => rfl⟩
  · exact ⟨_, PyData.shown (.list [.int 132, .int 132]), ct7, rfl, by kernel_rfl, fun z => absurd z (by decide)⟩
  · exact ⟨_, PyData.shown (.list [.int 429, .int 429]), ct8, rfl, by kernel_rfl, fun z => absurd z (by decide)⟩
  · exact ⟨_, PyData.shown (.list [.int 1430, .int 1430]), ct9, rfl, by kernel_rfl, fun z => absurd z (by decide)⟩
  · exact ⟨_, PyData.shown (.list [.int 4862, .int 4862]), ct10, rfl, by kernel_rfl, fun z => absurd z (by decide)⟩
  · exact ⟨_, PyData.shown (.list [.int 16796, .int 16796]), ct11, rfl, by kernel_rfl, fun z => absurd z (by decide)⟩
  · exact ⟨_, PyData.shown (.list [.int 58786, .int 58786]), ct12, rfl, by kernel_rfl, fun z => absurd z (by decide)⟩
theorem isSome_false {α : Type} {P : Prop} : P → P := id
def lEnv (ns : List Int) (s1 s2 s3 s4 s5 s6 : Option Slot) : DEnv := [some (.sh (.list (ns.map PyData.int))), s1, s2, s3, s4, s5, s6]
theorem law_gives (ns : List Int) (hn : ns.length ≤ 63) : Gives f_law [.sh (.list (ns.map PyData.int))] fun o outs => o = .va (.bool true) ∧ outs = [] := by
  unfold f_law
  refine gives_run ⟨rfl, by decide⟩ ?_
  unfold b_law
  refine wp_cut (fun e => ∃ s1 s2 s3 s4 s5 s6, e = lEnv ns s1 s2 s3 s4 s5 s6) ?_ ?_
  · have hr : -4611686018427387904 ≤ max 1 (min 6 (ns.length : Int)) ∧ max 1 (min 6 (ns.length : Int)) < 4611686018427387904 := by omega
    simp [hr]
    refine wp_for (fun i e => ∃ s1 s2 s3 s4 s5 s6, e = lEnv ns s1 s2 s3 s4 s5 s6 ∧ free s1 = true ∧ free s2 = true ∧ free s3 = true ∧ free s4 = true ∧ free s5 = true ∧ free s6 = true) ⟨none, none, none, none, none, none, rfl, rfl, rfl, rfl, rfl, rfl, rfl⟩ ?_ ?_
    · rintro k d env hd ⟨s1, s2, s3, s4, s5, s6, rfl, f1, f2, f3, f4, f5, f6⟩
      obtain ⟨hk, rfl⟩ := range_get hd
      refine ⟨lEnv ns (some (.sh (.int (0 + k)))) s2 s3 s4 s5 s6, by simp [lEnv, f1], ?_⟩
      obtain ⟨c, e1, kc⟩ := pool_ok ns (0 + k) (by omega) (by omega) hn
      refine wp_seq ?_
      have e1' : f_law_pool [FArg.sh (PyData.list (List.map PyData.int ns)), FArg.sh (PyData.int k)] = RO.ok (Opd.fr c) [] := by simpa using e1
      simp [lEnv, e1', f2]
      refine wp_seq ?_
      simp [cat12, f3]
      refine wp_seq ?_
      simp
      refine wp_draw kc (by omega) (by omega) (by omega) fun r c1 l1 u1 k1 => ?_
      simp [f4]
      refine wp_cut (fun e => ∃ s5, e = lEnv ns (some (.sh (.int k))) (some (.ow c1)) (some (.ow (.ls (catL.map PyData.int)))) (some (.sh (.int (1 + r)))) s5 s6 ∧ free s5 = true) ?_ ?_
      · simp
        refine wp_for (fun i e => ∃ s5, e = lEnv ns (some (.sh (.int k))) (some (.ow c1)) (some (.ow (.ls (catL.map PyData.int)))) (some (.sh (.int (1 + r)))) s5 s6 ∧ free s5 = true) ⟨s5, rfl, f5⟩ ?_ ?_
        · rintro i d env hd ⟨s5, rfl, f5⟩
          obtain ⟨n, rfl, hn1, hn2⟩ : ∃ n : Int, d = .int n ∧ 1 ≤ n ∧ n ≤ 12 := by
            have hm := List.mem_of_getElem? hd
            simp at hm
            rcases hm with rfl | rfl | rfl | rfl | rfl | rfl
            · exact ⟨_, rfl, by omega, by omega⟩
            · exact ⟨_, rfl, by omega, by omega⟩
            · exact ⟨_, rfl, by omega, by omega⟩
            · exact ⟨_, rfl, by omega, by omega⟩
            · exact ⟨_, rfl, by omega, by omega⟩
            · exact ⟨_, rfl, by omega, by omega⟩
          obtain ⟨cc, S, g1, g2, g3, _⟩ := ct_all n hn1 hn2
          refine ⟨lEnv ns (some (.sh (.int k))) (some (.ow c1)) (some (.ow (.ls (catL.map PyData.int)))) (some (.sh (.int (1 + r)))) (some (.sh (.int n))) s6, by simp [lEnv, f5], ?_⟩
          simp [lEnv, g1, g2, g3, -gRepr]
        · rintro env ⟨s5, rfl, f5⟩
          exact ⟨rfl, s5, rfl, f5⟩
      rintro _ ⟨s5, rfl, f5⟩
      refine wp_seq ?_
      simp [lEnv]
      obtain ⟨o, outs, g1, ls, c2, rfl, rfl, k2, hL⟩ := line_ok (ns := ns) (most := 6) (by omega) (by omega) (by omega) k1
      simp [g1, f6]
      have hl1 := hL.one
      have hl6 : ls.length ≤ 6 := by have := hL.few; omega
      obtain ⟨cc, S, t1, _, _, t4⟩ := ct_all ls.length (by omega) (by omega)
      obtain ⟨o2, outs2, t5, ds, rfl, rfl, t6⟩ := trees_ok hl1 hl6
      have t7 : cc = (ds.length : Int) := by rw [t6]; have := t4 (by omega); simpa using this
      simp [t1, t5, t7]
      exact ⟨_, _, _, _, _, _, ⟨rfl, rfl, rfl, rfl, rfl, rfl⟩, rfl, rfl, rfl, rfl, f5, rfl⟩
    · rintro env ⟨s1, s2, s3, s4, s5, s6, rfl, _⟩
      simp
      exact ⟨_, _, _, _, _, _, rfl⟩
  · rintro _ ⟨s1, s2, s3, s4, s5, s6, rfl⟩
    simp [lEnv]
theorem law_true : LawTrue f_law 63 := fun ns h1 _ => by
  obtain ⟨o, outs, e, rfl, rfl⟩ := law_gives ns h1
  exact e
end Z

set_option exponentiation.threshold 256
namespace Z
open PySem PySem.Spec L2
structure Txt (K : PySem.W.Frag) (mg : Str → Option Value) : Prop where
  h_is_integer : Has K mg "is_integer" s_is_integer ["value", "least", "most"]
  h_check_number : Has K mg "check_number" s_check_number ["value", "least", "most"]
  h_words_to_come : Has K mg "words_to_come" s_words_to_come ["lanes"]
  h_tree_count : Has K mg "tree_count" s_tree_count ["lanes"]
  h_count_trees : Has K mg "count_trees" s_count_trees ["lanes"]
  h_law_pool : Has K mg "_law_pool" s_law_pool ["script", "k"]
  h_law_draw : Has K mg "_law_draw" s_law_draw ["pool", "many"]
  h_law_line : Has K mg "_law_line" s_law_line ["pool", "most", "script"]
  h_law_trees : Has K mg "_law_trees" s_law_trees ["line"]
  h_law_catalan : Has K mg "_law_catalan" s_law_catalan ["many"]
  h_law : Has K mg "law" s_law ["script"]
  k_count_trees_0 : ∀ fd f, Fun K "count_trees" "count_trees" s_count_trees f fd → KB K fd ["lanes"] ["lanes"] [0]
  z_bool : mg "bool" = none
  z_int : mg "int" = none
  z_isinstance : mg "isinstance" = none
  z_len : mg "len" = none
  z_max : mg "max" = none
  z_min : mg "min" = none
  z_range : mg "range" = none
  z_repr : mg "repr" = none
  z_sorted : mg "sorted" = none
  z_sum : mg "sum" = none
  c_MOST_IN_ROW : ∃ t, mg "MOST_IN_ROW" = some (.int 12 t)
  x_InvalidNumberError : ∃ C, mg "InvalidNumberError" = some (.ref C) ∧ PySem.W.keepIn K (.ref C) = true ∧ PySem.W.excIn K C [.type "ValueError", .type "Exception", .type "BaseException", .type "object"] "ValueError.__new__" = true ∧ PySem.W.subIn K (.ref C) (.type "BaseException") = some true ∧ PySem.W.typeIn K (.ref C) = some (.type "type")
section
variable {P : Program} {w : World} {K : PySem.W.Frag} {mg : Str → Option Value} {base : Heap}
theorem sc_is_integer : FnScope ["value", "least", "most"] ["value", "least", "most"] (defScope s_is_integer) := ⟨rfl, rfl, rfl, by decide +kernel, rfl, by decide +kernel, by decide +kernel⟩
theorem ok_is_integer (T : Txt K mg) : Knows P w K mg base 1 "is_integer" ["value", "least", "most"] f_is_integer :=
  (T.h_is_integer).know sc_is_integer fun fa cdv A outer s H E hr hgd => show DSs _ _ (defBody s_is_integer) b_is_integer from dss_cons (ds_if (dt_of (dw_or (dt_not (dt_val (de_isi .int (de_var 0) (by rfl) T.z_isinstance (by rfl) T.z_int))) (dw_or1 (dt_val (de_isi .bool (de_var 0) (by rfl) T.z_isinstance (by rfl) T.z_bool))))) (dss_one (ds_ret (de_bl))) (dss_nil)) (dss_one (ds_ret (de_and (de_cmp op_leD (de_var 1) (de_var 0)) (de_one (de_or (de_cmp op_isND (de_var 2) (de_non)) (de_one (de_cmp op_leD (de_var 0) (de_var 2))))))))
theorem sc_check_number : FnScope ["value", "least", "most"] ["value", "least", "most"] (defScope s_check_number) := ⟨rfl, rfl, rfl, by decide +kernel, rfl, by decide +kernel, by decide +kernel⟩
theorem ok_check_number (T : Txt K mg) : Knows P w K mg base 2 "check_number" ["value", "least", "most"] f_check_number :=
  (T.h_check_number).know sc_check_number fun fa cdv A outer s H E hr hgd => show DSs _ _ (defBody s_check_number) b_check_number from dss_one (ds_if (dt_not (dt_val (de_callN (ok_is_integer T) hr (by omega) hgd (takes_of rfl rfl rfl rfl) (da_sh (de_var 0) (da_sh (de_var 1) (da_sh (de_var 2) (da_nil))))))) (dss_one (ds_raise rfl (takes_of rfl rfl rfl rfl) PySem.F.excBase_ValueError T.x_InvalidNumberError.choose_spec.2.2.1 T.x_InvalidNumberError.choose_spec.1 T.x_InvalidNumberError.choose_spec.2.1 T.x_InvalidNumberError.choose_spec.2.2.2.1 T.x_InvalidNumberError.choose_spec.2.2.2.2)) (dss_nil))
theorem sc_words_to_come : FnScope ["lanes", "table", "left", "row", "sides"] ["lanes"] (defScope s_words_to_come) := ⟨rfl, rfl, rfl, by decide +kernel, rfl, by decide +kernel, by decide +kernel⟩
theorem ok_words_to_come (T : Txt K mg) : Knows P w K mg base 1 "words_to_come" ["lanes"] f_words_to_come :=
  (T.h_words_to_come).know sc_words_to_come fun fa cdv A outer s H E hr hgd => show DSs _ _ (defBody s_words_to_come) b_words_to_come from dss_cons (ds_set 1 sc_words_to_come.nd (de_lst (dd_cons (de_lst (dd_cons (de_int) (dd_nil))) (dd_nil)))) (dss_cons (ds_for (passes_of rfl) (di_range2 (de_int) (de_op op_addD (de_var 0) (de_int)) T.z_range) (dg_name 2 sc_words_to_come.nd) (dss_cons (ds_set 3 sc_words_to_come.nd (de_op op_mulD (de_lst (dd_cons (de_int) (dd_nil))) (de_op op_addD (de_var 2) (de_int)))) (dss_cons (ds_for (passes_of rfl) (di_rangeD (de_var 2) (de_int) T.z_range) (dg_name 4 sc_words_to_come.nd) (dss_one (ds_setIx hr.units 3 (de_op op_addD (de_ix hr.units (de_ix hr.units (de_var 1) (de_op op_subD (de_var 2) (de_int))) (de_op op_subD (de_var 4) (de_int))) (de_if (dt_cmp op_ltD (de_var 4) (de_var 2)) (de_ix hr.units (de_var 3) (de_op op_addD (de_var 4) (de_int))) (de_int))) (de_var 4)))) (dss_one (ds_expr (de_mut 1 mu_append okL_ty PySem.F.plainAttrs_list PySem.F.slot_list_append PySem.F.type_list_append (dd_cons (de_var 3) (dd_nil)))))))) (dss_one (ds_ret (de_var 1))))
theorem sc_tree_count : FnScope ["lanes"] ["lanes"] (defScope s_tree_count) := ⟨rfl, rfl, rfl, by decide +kernel, rfl, by decide +kernel, by decide +kernel⟩
theorem ok_tree_count (T : Txt K mg) : Knows P w K mg base 2 "tree_count" ["lanes"] f_tree_count :=
  (T.h_tree_count).know sc_tree_count fun fa cdv A outer s H E hr hgd => show DSs _ _ (defBody s_tree_count) b_tree_count from dss_one (ds_ret (de_ix hr.units (de_ix hr.units (de_callN (ok_words_to_come T) hr (by omega) hgd (takes_of rfl rfl rfl rfl) (da_sh (de_var 0) (da_nil))) (de_var 0)) (de_int)))
theorem sc_count_trees : FnScope ["lanes"] ["lanes"] (defScope s_count_trees) := ⟨rfl, rfl, rfl, by decide +kernel, rfl, by decide +kernel, by decide +kernel⟩
theorem ok_count_trees (T : Txt K mg) : Knows P w K mg base 3 "count_trees" ["lanes"] f_count_trees :=
  (T.h_count_trees).know sc_count_trees fun fa cdv A outer s H E hr hgd => show DSs _ _ (defBody s_count_trees) b_count_trees from dss_cons (ds_expr (de_callN (ok_check_number T) hr (by omega) hgd (takes_of rfl rfl rfl rfl) (da_sh (de_var 0) (da_sh (de_int) (da_sh (de_gint (by rfl) T.c_MOST_IN_ROW.choose_spec) (da_nil)))))) (dss_one (ds_ret (de_callN (ok_tree_count T) hr (by omega) hgd (takes_of rfl rfl rfl rfl) (da_sh (de_var 0) (da_nil)))))
theorem sc_law_pool : FnScope ["script", "k", "cell"] ["script", "k"] (defScope s_law_pool) := ⟨rfl, rfl, rfl, by decide +kernel, rfl, by decide +kernel, by decide +kernel⟩
theorem ok_law_pool (T : Txt K mg) : Knows P w K mg base 1 "_law_pool" ["script", "k"] f_law_pool :=
  (T.h_law_pool).know sc_law_pool fun fa cdv A outer s H E hr hgd => show DSs _ _ (defBody s_law_pool) b_law_pool from dss_cons (ds_set 2 sc_law_pool.nd (de_int)) (dss_cons (ds_if (dt_cmp op_ltD (de_var 1) (de_b1 cb_len (de_var 0) (by rfl) T.z_len)) (dss_one (ds_set 2 sc_law_pool.nd (de_ix hr.units (de_var 0) (de_var 1)))) (dss_nil)) (dss_one (ds_ret (de_lst (dd_cons (de_b2 (cb_max2 rfl) (de_int) (de_op op_subD (de_var 2) (de_op op_powD (de_int) (de_int))) (by rfl) T.z_max) (dd_cons (de_op op_addD (de_op op_mulD (de_op op_modD (de_var 2) (de_op op_addD (de_op op_powD (de_int) (de_int)) (de_int))) (de_int)) (de_var 1)) (dd_cons (de_int) (dd_nil))))))))
theorem sc_law_draw : FnScope ["pool", "many", "mixed", "digit"] ["pool", "many"] (defScope s_law_draw) := ⟨rfl, rfl, rfl, by decide +kernel, rfl, by decide +kernel, by decide +kernel⟩
theorem ok_law_draw (T : Txt K mg) : Knows P w K mg base 1 "_law_draw" ["pool", "many"] f_law_draw :=
  (T.h_law_draw).know sc_law_draw fun fa cdv A outer s H E hr hgd => show DSs _ _ (defBody s_law_draw) b_law_draw from dss_cons (ds_if (dt_cmp op_gtD (de_ix hr.units (de_var 0) (de_int)) (de_int)) (dss_cons (ds_set 3 sc_law_draw.nd (de_op op_modD (de_ix hr.units (de_var 0) (de_int)) (de_var 1))) (dss_cons (ds_setIx hr.units 0 (de_op op_fdivD (de_ix hr.units (de_var 0) (de_int)) (de_var 1)) (de_int)) (dss_one (ds_ret (de_var 3))))) (dss_nil)) (dss_cons (ds_setIx hr.units 0 (de_op op_addD (de_ix hr.units (de_var 0) (de_int)) (de_int)) (de_int)) (dss_cons (ds_set 2 sc_law_draw.nd (de_op op_modD (de_op op_powD (de_op op_addD (de_ix hr.units (de_var 0) (de_int)) (de_op op_mulD (de_int) (de_ix hr.units (de_var 0) (de_int)))) (de_int)) (de_op op_addD (de_op op_powD (de_int) (de_int)) (de_int)))) (dss_cons (ds_set 2 sc_law_draw.nd (de_op op_modD (de_op op_powD (de_op op_addD (de_var 2) (de_op op_mulD (de_int) (de_ix hr.units (de_var 0) (de_int)))) (de_int)) (de_op op_addD (de_op op_powD (de_int) (de_int)) (de_int)))) (dss_one (ds_ret (de_op op_modD (de_op op_fdivD (de_var 2) (de_int)) (de_var 1)))))))
theorem sc_law_line : FnScope ["pool", "most", "script", "many", "style", "left", "found", "same", "turn", "sizes", "first", "size", "lane"] ["pool", "most", "script"] (defScope s_law_line) := ⟨rfl, rfl, rfl, by decide +kernel, rfl, by decide +kernel, by decide +kernel⟩
theorem ok_law_line (T : Txt K mg) : Knows P w K mg base 2 "_law_line" ["pool", "most", "script"] f_law_line :=
  (T.h_law_line).know sc_law_line fun fa cdv A outer s H E hr hgd => show DSs _ _ (defBody s_law_line) b_law_line from dss_cons (ds_par2 3 4 sc_law_line.nd (do_cons (de_ix hr.units (de_lst (dd_cons (de_op op_addD (de_int) (de_callN (ok_law_draw T) hr (by omega) hgd (takes_of rfl rfl rfl rfl) (da_le 0 (da_sh (de_var 1) (da_nil))))) (dd_cons (de_var 1) (dd_cons (de_op op_addD (de_int) (de_callN (ok_law_draw T) hr (by omega) hgd (takes_of rfl rfl rfl rfl) (da_le 0 (da_sh (de_int) (da_nil))))) (dd_nil))))) (de_callN (ok_law_draw T) hr (by omega) hgd (takes_of rfl rfl rfl rfl) (da_le 0 (da_sh (de_int) (da_nil))))) (do_cons (de_callN (ok_law_draw T) hr (by omega) hgd (takes_of rfl rfl rfl rfl) (da_le 0 (da_sh (de_int) (da_nil)))) (do_nil)))) (dss_cons (ds_asg (de_if (dt_cmp (op_eqD hr.units) (de_var 2) (de_lst (dd_nil))) (de_tup (dd_cons (de_int) (dd_cons (de_int) (dd_nil)))) (de_tup (dd_cons (de_var 3) (dd_cons (de_var 4) (dd_nil))))) (dg_tup rfl (dgs_cons (dg_name 3 sc_law_line.nd) (dgs_cons (dg_name 4 sc_law_line.nd) (dgs_nil))) (n := 2) (gs_len_cons (gs_len_cons (gs_len_nil))))) (dss_cons (ds_set 5 sc_law_line.nd (de_lst (dd_cons (de_str) (dd_cons (de_str) (dd_cons (de_str) (dd_cons (de_str) (dd_cons (de_str) (dd_cons (de_str) (dd_cons (de_str) (dd_cons (de_str) (dd_cons (de_str) (dd_cons (de_str) (dd_cons (de_str) (dd_cons (de_str) (dd_nil))))))))))))))) (dss_cons (ds_par2 6 7 sc_law_line.nd (do_cons (de_lst (dd_nil)) (do_cons (de_op op_addD (de_int) (de_callN (ok_law_draw T) hr (by omega) hgd (takes_of rfl rfl rfl rfl) (da_le 0 (da_sh (de_int) (da_nil))))) (do_nil)))) (dss_cons (ds_for (passes_of rfl) (di_range1 (de_var 3) T.z_range) (dg_name 8 sc_law_line.nd) (dss_cons (ds_set 9 sc_law_line.nd (de_lst (dd_cons (de_callN (ok_law_draw T) hr (by omega) hgd (takes_of rfl rfl rfl rfl) (da_le 0 (da_sh (de_int) (da_nil)))) (dd_cons (de_op op_subD (de_op op_powD (de_int) (de_int)) (de_callN (ok_law_draw T) hr (by omega) hgd (takes_of rfl rfl rfl rfl) (da_le 0 (da_sh (de_int) (da_nil))))) (dd_cons (de_callN (ok_law_draw T) hr (by omega) hgd (takes_of rfl rfl rfl rfl) (da_le 0 (da_sh (de_int) (da_nil)))) (dd_cons (de_var 7) (dd_nil))))))) (dss_cons (ds_set 10 sc_law_line.nd (de_ix hr.units (de_lst (dd_cons (de_int) (dd_cons (de_int) (dd_cons (de_callN (ok_law_draw T) hr (by omega) hgd (takes_of rfl rfl rfl rfl) (da_le 0 (da_sh (de_int) (da_nil)))) (dd_cons (de_op op_subD (de_op op_powD (de_int) (de_int)) (de_callN (ok_law_draw T) hr (by omega) hgd (takes_of rfl rfl rfl rfl) (da_le 0 (da_sh (de_int) (da_nil))))) (dd_nil)))))) (de_callN (ok_law_draw T) hr (by omega) hgd (takes_of rfl rfl rfl rfl) (da_le 0 (da_sh (de_int) (da_nil)))))) (dss_cons (ds_set 11 sc_law_line.nd (de_ix hr.units (de_lst (dd_cons (de_ix hr.units (de_var 9) (de_int)) (dd_cons (de_ix hr.units (de_var 9) (de_callN (ok_law_draw T) hr (by omega) hgd (takes_of rfl rfl rfl rfl) (da_le 0 (da_sh (de_int) (da_nil))))) (dd_cons (de_ix hr.units (de_var 9) (de_int)) (dd_cons (de_var 7) (dd_nil)))))) (de_var 4))) (dss_cons (ds_if (dt_of (dw_and (dt_cmp (op_eqD hr.units) (de_var 4) (de_int)) (dw_and1 (dt_cmp (op_eqD hr.units) (de_callN (ok_law_draw T) hr (by omega) hgd (takes_of rfl rfl rfl rfl) (da_le 0 (da_sh (de_int) (da_nil)))) (de_int))))) (dss_one (ds_set 11 sc_law_line.nd (de_op op_addD (de_int) (de_callN (ok_law_draw T) hr (by omega) hgd (takes_of rfl rfl rfl rfl) (da_le 0 (da_sh (de_ix hr.units (de_lst (dd_cons (de_int) (dd_cons (de_int) (dd_cons (de_op op_powD (de_int) (de_int)) (dd_cons (de_op op_powD (de_int) (de_int)) (dd_cons (de_op op_powD (de_int) (de_int)) (dd_cons (de_op op_powD (de_int) (de_int)) (dd_nil)))))))) (de_callN (ok_law_draw T) hr (by omega) hgd (takes_of rfl rfl rfl rfl) (da_le 0 (da_sh (de_int) (da_nil))))) (da_nil))))))) (dss_nil)) (dss_one (ds_expr (de_mut 6 mu_append okL_ty PySem.F.plainAttrs_list PySem.F.slot_list_append PySem.F.type_list_append (dd_cons (de_tup (dd_cons (de_str) (dd_cons (de_mut 5 mu_pop0 okL_ty PySem.F.plainAttrs_list PySem.F.slot_list_pop PySem.F.type_list_pop (dd_cons (de_callN (ok_law_draw T) hr (by omega) hgd (takes_of rfl rfl rfl rfl) (da_le 0 (da_sh (de_b1 cb_len (de_var 5) (by rfl) T.z_len) (da_nil)))) (dd_nil))) (dd_cons (de_var 10) (dd_cons (de_var 11) (dd_nil)))))) (dd_nil)))))))))) (dss_cons (ds_if (dt_cmp (op_eqD hr.units) (de_comp [("lane", 12)] sc_law_line.nd (di_hold 6) (fun _ _ _ _ _ => dg_name 12 sc_law_line.nd) (fun _ _ _ _ _ => dts_one (dt_cmp op_gtD (de_ix hr.units (de_var 12) (de_int)) (de_int))) (fun _ _ _ _ _ => de_int) (ok := by show blkC ["pool", "most", "script", "many", "style", "left", "found", "same", "turn", "sizes", "first", "size", "lane"] (defScope s_law_line) _ [("lane", 12)] = true; decide +kernel)) (de_lst (dd_nil))) (dss_one (ds_setIx hr.units 6 (de_tup (dd_cons (de_str) (dd_cons (de_ix hr.units (de_ix hr.units (de_var 6) (de_int)) (de_int)) (dd_cons (de_int) (dd_cons (de_int) (dd_nil)))))) (de_int))) (dss_nil)) (dss_one (ds_ret (de_var 6))))))))
theorem sc_law_trees : FnScope ["line", "found", "size", "first", "some", "cut", "left", "right"] ["line"] (defScope s_law_trees) := ⟨rfl, rfl, rfl, by decide +kernel, rfl, by decide +kernel, by decide +kernel⟩
theorem ok_law_trees (T : Txt K mg) : Knows P w K mg base 1 "_law_trees" ["line"] f_law_trees :=
  (T.h_law_trees).know sc_law_trees fun fa cdv A outer s H E hr hgd => show DSs _ _ (defBody s_law_trees) b_law_trees from dss_cons (ds_set 1 sc_law_trees.nd de_dnewT) (dss_cons (ds_for (passes_of rfl) (di_range2 (de_int) (de_op op_addD (de_b1 cb_len (de_var 0) (by rfl) T.z_len) (de_int)) T.z_range) (dg_name 2 sc_law_trees.nd) (dss_one (ds_for (passes_of rfl) (di_range1 (de_op op_addD (de_op op_subD (de_b1 cb_len (de_var 0) (by rfl) T.z_len) (de_var 2)) (de_int)) T.z_range) (dg_name 3 sc_law_trees.nd) (dss_cons (ds_set 4 sc_law_trees.nd (de_op op_mulD (de_lst (dd_cons (de_ix hr.units (de_var 0) (de_var 3)) (dd_nil))) (de_t1 cb_int (de_cmp (op_eqD hr.units) (de_var 2) (de_int)) (by rfl) T.z_int))) (dss_cons (ds_for (passes_of rfl) (di_range2 (de_int) (de_var 2) T.z_range) (dg_name 5 sc_law_trees.nd) (dss_one (ds_for (passes_of rfl) (di_list (de_ix hr.units (de_var 1) (de_tup (dd_cons (de_var 3) (dd_cons (de_op op_addD (de_var 3) (de_var 5)) (dd_nil)))))) (dg_name 6 sc_law_trees.nd) (dss_one (ds_expr (de_mut 4 mu_extend okL_ty PySem.F.plainAttrs_list PySem.F.slot_list_extend PySem.F.type_list_extend (dd_cons (de_comp [("right", 7)] sc_law_trees.nd (di_list (de_ix hr.units (de_var 1) (de_tup (dd_cons (de_op op_addD (de_var 3) (de_var 5)) (dd_cons (de_op op_addD (de_var 3) (de_var 2)) (dd_nil)))))) (fun _ _ _ _ _ => dg_name 7 sc_law_trees.nd) (fun _ _ _ _ _ => dts_nil) (fun _ _ _ _ _ => de_tup (dd_cons (de_str) (dd_cons (de_var 6) (dd_cons (de_var 7) (dd_nil))))) (ok := by show blkC ["line", "found", "size", "first", "some", "cut", "left", "right"] (defScope s_law_trees) _ [("right", 7)] = true; decide +kernel)) (dd_nil)))))))) (dss_one (ds_setIx hr.units 1 (de_b1 (cb_sorted hr.units) (de_var 4) (by rfl) T.z_sorted) (de_tup (dd_cons (de_var 3) (dd_cons (de_op op_addD (de_var 3) (de_var 2)) (dd_nil))))))))))) (dss_one (ds_ret (de_ix hr.units (de_var 1) (de_tup (dd_cons (de_int) (dd_cons (de_b1 cb_len (de_var 0) (by rfl) T.z_len) (dd_nil))))))))
theorem sc_law_catalan : FnScope ["many", "found", "size", "cut"] ["many"] (defScope s_law_catalan) := ⟨rfl, rfl, rfl, by decide +kernel, rfl, by decide +kernel, by decide +kernel⟩
theorem ok_law_catalan (T : Txt K mg) : Knows P w K mg base 1 "_law_catalan" ["many"] f_law_catalan :=
  (T.h_law_catalan).know sc_law_catalan fun fa cdv A outer s H E hr hgd => show DSs _ _ (defBody s_law_catalan) b_law_catalan from dss_cons (ds_set 1 sc_law_catalan.nd (de_lst (dd_cons (de_int) (dd_cons (de_int) (dd_nil))))) (dss_cons (ds_for (passes_of rfl) (di_range2 (de_int) (de_op op_addD (de_var 0) (de_int)) T.z_range) (dg_name 2 sc_law_catalan.nd) (dss_one (ds_expr (de_mut 1 mu_append okL_ty PySem.F.plainAttrs_list PySem.F.slot_list_append PySem.F.type_list_append (dd_cons (de_b1 (cb_sum rfl) (de_comp [("cut", 3)] sc_law_catalan.nd (di_range2 (de_int) (de_var 2) T.z_range) (fun _ _ _ _ _ => dg_name 3 sc_law_catalan.nd) (fun _ _ _ _ _ => dts_nil) (fun _ _ _ _ _ => de_op op_mulD (de_ix hr.units (de_var 1) (de_var 3)) (de_ix hr.units (de_var 1) (de_op op_subD (de_var 2) (de_var 3)))) (ok := by show blkC ["many", "found", "size", "cut"] (defScope s_law_catalan) _ [("cut", 3)] = true; decide +kernel)) (by rfl) T.z_sum) (dd_nil)))))) (dss_one (ds_ret (de_var 1))))
theorem sc_law : FnScope ["script", "k", "pool", "due", "many", "size", "line"] ["script"] (defScope s_law) := ⟨rfl, rfl, rfl, by decide +kernel, rfl, by decide +kernel, by decide +kernel⟩
theorem ok_law (T : Txt K mg) : Knows P w K mg base 4 "law" ["script"] f_law :=
  (T.h_law).know sc_law fun fa cdv A outer s H E hr hgd => show DSs _ _ (defBody s_law) b_law from dss_cons (ds_for (passes_of rfl) (di_range1 (de_b2 (cb_max2 rfl) (de_int) (de_b2 (cb_min2 rfl) (de_int) (de_b1 cb_len (de_var 0) (by rfl) T.z_len) (by rfl) T.z_min) (by rfl) T.z_max) T.z_range) (dg_name 1 sc_law.nd) (dss_cons (ds_set 2 sc_law.nd (de_callN (ok_law_pool T) hr (by omega) hgd (takes_of rfl rfl rfl rfl) (da_sh (de_var 0) (da_sh (de_var 1) (da_nil))))) (dss_cons (ds_set 3 sc_law.nd (de_callN (ok_law_catalan T) hr (by omega) hgd (takes_of rfl rfl rfl rfl) (da_sh (de_int) (da_nil)))) (dss_cons (ds_set 4 sc_law.nd (de_op op_addD (de_int) (de_callN (ok_law_draw T) hr (by omega) hgd (takes_of rfl rfl rfl rfl) (da_le 2 (da_sh (de_int) (da_nil)))))) (dss_cons (ds_for (passes_of rfl) (di_list (de_lst (dd_cons (de_var 4) (dd_cons (de_op op_subD (de_int) (de_var 4)) (dd_cons (de_int) (dd_cons (de_int) (dd_cons (de_int) (dd_cons (de_int) (dd_nil))))))))) (dg_name 5 sc_law.nd) (dss_one (ds_if (dt_cmp (op_neD hr.units) (de_b1 (cb_repr hr.units hgd) (de_lst (dd_cons (de_callN (ok_count_trees T) hr (by omega) hgd (takes_of rfl rfl rfl rfl) (da_sh (de_var 5) (da_nil))) (dd_cons (de_callK (ks := ["lanes"]) (perm := [0]) (ok_count_trees T) T.h_count_trees T.k_count_trees_0 hr (by omega) hgd (takes_of rfl rfl rfl rfl) (dk_sh (de_var 5) (dk_nil)) (len_sh len_nil)) (dd_nil)))) (by rfl) T.z_repr) (de_b1 (cb_repr hr.units hgd) (de_lst (dd_cons (de_ix hr.units (de_var 3) (de_var 5)) (dd_cons (de_ix hr.units (de_var 3) (de_var 5)) (dd_nil)))) (by rfl) T.z_repr)) (dss_one (ds_ret (de_bl))) (dss_nil)))) (dss_cons (ds_set 6 sc_law.nd (de_callN (ok_law_line T) hr (by omega) hgd (takes_of rfl rfl rfl rfl) (da_le 2 (da_sh (de_int) (da_sh (de_var 0) (da_nil)))))) (dss_one (ds_if (dt_cmp (op_neD hr.units) (de_callN (ok_count_trees T) hr (by omega) hgd (takes_of rfl rfl rfl rfl) (da_sh (de_b1 cb_len (de_var 6) (by rfl) T.z_len) (da_nil))) (de_b1 cb_len (de_callN (ok_law_trees T) hr (by omega) hgd (takes_of rfl rfl rfl rfl) (da_sh (de_var 6) (da_nil))) (by rfl) T.z_len)) (dss_one (ds_ret (de_bl))) (dss_nil))))))))) (dss_one (ds_ret (de_bl)))
end
theorem all_mk {l : PySem.W.OpenLaw} {w : World} {K : PySem.W.Frag} {h : Heap} {mg : Str → Option Value} {fa : Addr} (X : K.In h) (G : h.Ns mainGlobals mg) (hfa : mg "law" = some (.ref fa))
    {fA_is_integer : Addr} {oc_is_integer kV_is_integer dc_is_integer pm_is_integer cd_is_integer ct_is_integer : Value} {od_is_integer an_is_integer : Option Addr} {sl_is_integer : Array (Option Value)}
    (a_is_integer : PySem.W.nsIn K mainGlobals "is_integer" = some (some (.ref fA_is_integer))) (l_is_integer : K.lookup fA_is_integer = some ⟨oc_is_integer, od_is_integer, .func (PySem.W.fnOf "is_integer" "is_integer" (defArgs s_is_integer) (defBody s_is_integer) (defScope s_is_integer) .none kV_is_integer dc_is_integer pm_is_integer an_is_integer cd_is_integer ct_is_integer), sl_is_integer⟩) (c_is_integer : PySem.W.codeIn K cd_is_integer "is_integer" = true) (k_is_integer : PySem.W.keepIn K (.ref fA_is_integer) = true)
    {fA_check_number : Addr} {oc_check_number kV_check_number dc_check_number pm_check_number cd_check_number ct_check_number : Value} {od_check_number an_check_number : Option Addr} {sl_check_number : Array (Option Value)}
    (a_check_number : PySem.W.nsIn K mainGlobals "check_number" = some (some (.ref fA_check_number))) (l_check_number : K.lookup fA_check_number = some ⟨oc_check_number, od_check_number, .func (PySem.W.fnOf "check_number" "check_number" (defArgs s_check_number) (defBody s_check_number) (defScope s_check_number) .none kV_check_number dc_check_number pm_check_number an_check_number cd_check_number ct_check_number), sl_check_number⟩) (c_check_number : PySem.W.codeIn K cd_check_number "check_number" = true) (k_check_number : PySem.W.keepIn K (.ref fA_check_number) = true)
    {fA_words_to_come : Addr} {oc_words_to_come kV_words_to_come dc_words_to_come pm_words_to_come cd_words_to_come ct_words_to_come : Value} {od_words_to_come an_words_to_come : Option Addr} {sl_words_to_come : Array (Option Value)}
    (a_words_to_come : PySem.W.nsIn K mainGlobals "words_to_come" = some (some (.ref fA_words_to_come))) (l_words_to_come : K.lookup fA_words_to_come = some ⟨oc_words_to_come, od_words_to_come, .func (PySem.W.fnOf "words_to_come" "words_to_come" (defArgs s_words_to_come) (defBody s_words_to_come) (defScope s_words_to_come) .none kV_words_to_come dc_words_to_come pm_words_to_come an_words_to_come cd_words_to_come ct_words_to_come), sl_words_to_come⟩) (c_words_to_come : PySem.W.codeIn K cd_words_to_come "words_to_come" = true) (k_words_to_come : PySem.W.keepIn K (.ref fA_words_to_come) = true)
    {fA_tree_count : Addr} {oc_tree_count kV_tree_count dc_tree_count pm_tree_count cd_tree_count ct_tree_count : Value} {od_tree_count an_tree_count : Option Addr} {sl_tree_count : Array (Option Value)}
    (a_tree_count : PySem.W.nsIn K mainGlobals "tree_count" = some (some (.ref fA_tree_count))) (l_tree_count : K.lookup fA_tree_count = some ⟨oc_tree_count, od_tree_count, .func (PySem.W.fnOf "tree_count" "tree_count" (defArgs s_tree_count) (defBody s_tree_count) (defScope s_tree_count) .none kV_tree_count dc_tree_count pm_tree_count an_tree_count cd_tree_count ct_tree_count), sl_tree_count⟩) (c_tree_count : PySem.W.codeIn K cd_tree_count "tree_count" = true) (k_tree_count : PySem.W.keepIn K (.ref fA_tree_count) = true)
    {fA_count_trees : Addr} {oc_count_trees kV_count_trees dc_count_trees pm_count_trees cd_count_trees ct_count_trees : Value} {od_count_trees an_count_trees : Option Addr} {sl_count_trees : Array (Option Value)}
    (a_count_trees : PySem.W.nsIn K mainGlobals "count_trees" = some (some (.ref fA_count_trees))) (l_count_trees : K.lookup fA_count_trees = some ⟨oc_count_trees, od_count_trees, .func (PySem.W.fnOf "count_trees" "count_trees" (defArgs s_count_trees) (defBody s_count_trees) (defScope s_count_trees) .none kV_count_trees dc_count_trees pm_count_trees an_count_trees cd_count_trees ct_count_trees), sl_count_trees⟩) (c_count_trees : PySem.W.codeIn K cd_count_trees "count_trees" = true) (k_count_trees : PySem.W.keepIn K (.ref fA_count_trees) = true)
    {fA_law_pool : Addr} {oc_law_pool kV_law_pool dc_law_pool pm_law_pool cd_law_pool ct_law_pool : Value} {od_law_pool an_law_pool : Option Addr} {sl_law_pool : Array (Option Value)}
    (a_law_pool : PySem.W.nsIn K mainGlobals "_law_pool" = some (some (.ref fA_law_pool))) (l_law_pool : K.lookup fA_law_pool = some ⟨oc_law_pool, od_law_pool, .func (PySem.W.fnOf "_law_pool" "_law_pool" (defArgs s_law_pool) (defBody s_law_pool) (defScope s_law_pool) .none kV_law_pool dc_law_pool pm_law_pool an_law_pool cd_law_pool ct_law_pool), sl_law_pool⟩) (c_law_pool : PySem.W.codeIn K cd_law_pool "_law_pool" = true) (k_law_pool : PySem.W.keepIn K (.ref fA_law_pool) = true)
    {fA_law_draw : Addr} {oc_law_draw kV_law_draw dc_law_draw pm_law_draw cd_law_draw ct_law_draw : Value} {od_law_draw an_law_draw : Option Addr} {sl_law_draw : Array (Option Value)}
    (a_law_draw : PySem.W.nsIn K mainGlobals "_law_draw" = some (some (.ref fA_law_draw))) (l_law_draw : K.lookup fA_law_draw = some ⟨oc_law_draw, od_law_draw, .func (PySem.W.fnOf "_law_draw" "_law_draw" (defArgs s_law_draw) (defBody s_law_draw) (defScope s_law_draw) .none kV_law_draw dc_law_draw pm_law_draw an_law_draw cd_law_draw ct_law_draw), sl_law_draw⟩) (c_law_draw : PySem.W.codeIn K cd_law_draw "_law_draw" = true) (k_law_draw : PySem.W.keepIn K (.ref fA_law_draw) = true)
    {fA_law_line : Addr} {oc_law_line kV_law_line dc_law_line pm_law_line cd_law_line ct_law_line : Value} {od_law_line an_law_line : Option Addr} {sl_law_line : Array (Option Value)}
    (a_law_line : PySem.W.nsIn K mainGlobals "_law_line" = some (some (.ref fA_law_line))) (l_law_line : K.lookup fA_law_line = some ⟨oc_law_line, od_law_line, .func (PySem.W.fnOf "_law_line" "_law_line" (defArgs s_law_line) (defBody s_law_line) (defScope s_law_line) .none kV_law_line dc_law_line pm_law_line an_law_line cd_law_line ct_law_line), sl_law_line⟩) (c_law_line : PySem.W.codeIn K cd_law_line "_law_line" = true) (k_law_line : PySem.W.keepIn K (.ref fA_law_line) = true)
    {fA_law_trees : Addr} {oc_law_trees kV_law_trees dc_law_trees pm_law_trees cd_law_trees ct_law_trees : Value} {od_law_trees an_law_trees : Option Addr} {sl_law_trees : Array (Option Value)}
    (a_law_trees : PySem.W.nsIn K mainGlobals "_law_trees" = some (some (.ref fA_law_trees))) (l_law_trees : K.lookup fA_law_trees = some ⟨oc_law_trees, od_law_trees, .func (PySem.W.fnOf "_law_trees" "_law_trees" (defArgs s_law_trees) (defBody s_law_trees) (defScope s_law_trees) .none kV_law_trees dc_law_trees pm_law_trees an_law_trees cd_law_trees ct_law_trees), sl_law_trees⟩) (c_law_trees : PySem.W.codeIn K cd_law_trees "_law_trees" = true) (k_law_trees : PySem.W.keepIn K (.ref fA_law_trees) = true)
    {fA_law_catalan : Addr} {oc_law_catalan kV_law_catalan dc_law_catalan pm_law_catalan cd_law_catalan ct_law_catalan : Value} {od_law_catalan an_law_catalan : Option Addr} {sl_law_catalan : Array (Option Value)}
    (a_law_catalan : PySem.W.nsIn K mainGlobals "_law_catalan" = some (some (.ref fA_law_catalan))) (l_law_catalan : K.lookup fA_law_catalan = some ⟨oc_law_catalan, od_law_catalan, .func (PySem.W.fnOf "_law_catalan" "_law_catalan" (defArgs s_law_catalan) (defBody s_law_catalan) (defScope s_law_catalan) .none kV_law_catalan dc_law_catalan pm_law_catalan an_law_catalan cd_law_catalan ct_law_catalan), sl_law_catalan⟩) (c_law_catalan : PySem.W.codeIn K cd_law_catalan "_law_catalan" = true) (k_law_catalan : PySem.W.keepIn K (.ref fA_law_catalan) = true)
    {fA_law : Addr} {oc_law kV_law dc_law pm_law cd_law ct_law : Value} {od_law an_law : Option Addr} {sl_law : Array (Option Value)}
    (a_law : PySem.W.nsIn K mainGlobals "law" = some (some (.ref fA_law))) (l_law : K.lookup fA_law = some ⟨oc_law, od_law, .func (PySem.W.fnOf "law" "law" (defArgs s_law) (defBody s_law) (defScope s_law) .none kV_law dc_law pm_law an_law cd_law ct_law), sl_law⟩) (c_law : PySem.W.codeIn K cd_law "law" = true) (k_law : PySem.W.keepIn K (.ref fA_law) = true)
    (z_bool : PySem.W.nsIn K mainGlobals "bool" = some none)
    (z_int : PySem.W.nsIn K mainGlobals "int" = some none)
    (z_isinstance : PySem.W.nsIn K mainGlobals "isinstance" = some none)
    (z_len : PySem.W.nsIn K mainGlobals "len" = some none)
    (z_max : PySem.W.nsIn K mainGlobals "max" = some none)
    (z_min : PySem.W.nsIn K mainGlobals "min" = some none)
    (z_range : PySem.W.nsIn K mainGlobals "range" = some none)
    (z_repr : PySem.W.nsIn K mainGlobals "repr" = some none)
    (z_sorted : PySem.W.nsIn K mainGlobals "sorted" = some none)
    (z_sum : PySem.W.nsIn K mainGlobals "sum" = some none)
    {t_MOST_IN_ROW : Tok} (g_MOST_IN_ROW : PySem.W.nsIn K mainGlobals "MOST_IN_ROW" = some (some (.int 12 t_MOST_IN_ROW)))
    {C_InvalidNumberError : Addr} (xa_InvalidNumberError : PySem.W.nsIn K mainGlobals "InvalidNumberError" = some (some (.ref C_InvalidNumberError))) (xe_InvalidNumberError : PySem.W.excIn K C_InvalidNumberError [.type "ValueError", .type "Exception", .type "BaseException", .type "object"] "ValueError.__new__" = true) (xk_InvalidNumberError : PySem.W.keepIn K (.ref C_InvalidNumberError) = true) (xb_InvalidNumberError : PySem.W.subIn K (.ref C_InvalidNumberError) (.type "BaseException") = some true) (xt_InvalidNumberError : PySem.W.typeIn K (.ref C_InvalidNumberError) = some (.type "type")) :
    ∃ fd : FuncData, (∀ (s : Shared) (v : Value), BindsTo s fd ⟨[v], []⟩ [("script", v)]) ∧ ∀ base : Heap, K.In base → base.Ns mainGlobals mg → FnG l.prog w K mg base (L2.CX l.prog w) 4 fa fd ["script"] (spT K 63) := by
  have T : Txt K mg := { h_is_integer := Has.mk X G (fun _ _ _ _ _ _ us hl => match us, hl with | [_, _, _], _ => rfl) a_is_integer l_is_integer c_is_integer k_is_integer, h_check_number := Has.mk X G (fun _ _ _ _ _ _ us hl => match us, hl with | [_, _, _], _ => rfl) a_check_number l_check_number c_check_number k_check_number, h_words_to_come := Has.mk X G (fun _ _ _ _ _ _ us hl => match us, hl with | [_], _ => rfl) a_words_to_come l_words_to_come c_words_to_come k_words_to_come, h_tree_count := Has.mk X G (fun _ _ _ _ _ _ us hl => match us, hl with | [_], _ => rfl) a_tree_count l_tree_count c_tree_count k_tree_count, h_count_trees := Has.mk X G (fun _ _ _ _ _ _ us hl => match us, hl with | [_], _ => rfl) a_count_trees l_count_trees c_count_trees k_count_trees, h_law_pool := Has.mk X G (fun _ _ _ _ _ _ us hl => match us, hl with | [_, _], _ => rfl) a_law_pool l_law_pool c_law_pool k_law_pool, h_law_draw := Has.mk X G (fun _ _ _ _ _ _ us hl => match us, hl with | [_, _], _ => rfl) a_law_draw l_law_draw c_law_draw k_law_draw, h_law_line := Has.mk X G (fun _ _ _ _ _ _ us hl => match us, hl with | [_, _, _], _ => rfl) a_law_line l_law_line c_law_line k_law_line, h_law_trees := Has.mk X G (fun _ _ _ _ _ _ us hl => match us, hl with | [_], _ => rfl) a_law_trees l_law_trees c_law_trees k_law_trees, h_law_catalan := Has.mk X G (fun _ _ _ _ _ _ us hl => match us, hl with | [_], _ => rfl) a_law_catalan l_law_catalan c_law_catalan k_law_catalan, h_law := Has.mk X G (fun _ _ _ _ _ _ us hl => match us, hl with | [_], _ => rfl) a_law l_law c_law k_law, k_count_trees_0 := fun fd f F => KB.of F fun _ _ _ _ _ _ us vs hl hv => match us, hl, hv with | [u0], _, hv => by obtain rfl := Option.some.inj (show some [u0] = some vs from hv); rfl, z_bool := PySem.W.mg_none_of X G z_bool, z_int := PySem.W.mg_none_of X G z_int, z_isinstance := PySem.W.mg_none_of X G z_isinstance, z_len := PySem.W.mg_none_of X G z_len, z_max := PySem.W.mg_none_of X G z_max, z_min := PySem.W.mg_none_of X G z_min, z_range := PySem.W.mg_none_of X G z_range, z_repr := PySem.W.mg_none_of X G z_repr, z_sorted := PySem.W.mg_none_of X G z_sorted, z_sum := PySem.W.mg_none_of X G z_sum, c_MOST_IN_ROW := ⟨_, PySem.W.mg_of X G g_MOST_IN_ROW⟩, x_InvalidNumberError := ⟨C_InvalidNumberError, PySem.W.mg_of X G xa_InvalidNumberError, xk_InvalidNumberError, xe_InvalidNumberError, xb_InvalidNumberError, xt_InvalidNumberError⟩ }
  have e := hfa.symm.trans (PySem.W.mg_of X G a_law)
  cases e
  obtain ⟨f, fd, h1, h2, h3, h4⟩ := T.h_law
  have e1 := h1.symm.trans (PySem.W.mg_of X G a_law)
  cases e1
  refine ⟨fd, fun s v => ?_, fun base _ _ => ?_⟩
  · obtain ⟨oc, od, kV, doc, pm, an, cdv, ct, osl, rfl, _, _⟩ := h3.ex
    exact .of_eq rfl
  · obtain ⟨f', fd', ⟨g1, oc, od, sl, g2⟩, _, _, g5⟩ := ok_law (P := l.prog) (w := w) (base := base) T
    have e2 := g1.symm.trans h1
    cases e2
    obtain ⟨oc', od', sl', g3⟩ := Fun.func h3
    have e3 := g2.symm.trans g3
    cases e3
    exact g5.imp (spT_of law_true)
end Z

open PySem PySem.W PyProof.Rows in
set_option maxRecDepth 100000 in
set_option maxHeartbeats 0 in
theorem PySem.Challenge.cw_ziplanes_k53_trees_counted_holds : PySem.Challenge.rw_ziplanes_k53_trees_counted.Holds := by
  w_on; o_law; k_head; (case hw => w_witness2)
  k_fill
  refine Z.walkT (k := 4) (l := PySem.Challenge.rw_ziplanes_k53_trees_counted) rfl rfl ⟨rfl, by decide, by decide⟩ (fun w h Y => PySem.W.kIn_of Y) ?F
  case F =>
    intro w mg fa h KX G hmg
    refine' Z.all_mk KX G hmg ?a_is_integer ?l_is_integer ?c_is_integer ?k_is_integer ?a_check_number ?l_check_number ?c_check_number ?k_check_number ?a_words_to_come ?l_words_to_come ?c_words_to_come ?k_words_to_come ?a_tree_count ?l_tree_count ?c_tree_count ?k_tree_count ?a_count_trees ?l_count_trees ?c_count_trees ?k_count_trees ?a_law_pool ?l_law_pool ?c_law_pool ?k_law_pool ?a_law_draw ?l_law_draw ?c_law_draw ?k_law_draw ?a_law_line ?l_law_line ?c_law_line ?k_law_line ?a_law_trees ?l_law_trees ?c_law_trees ?k_law_trees ?a_law_catalan ?l_law_catalan ?c_law_catalan ?k_law_catalan ?a_law ?l_law ?c_law ?k_law ?z_bool ?z_int ?z_isinstance ?z_len ?z_max ?z_min ?z_range ?z_repr ?z_sorted ?z_sum ?g_MOST_IN_ROW ?xa_InvalidNumberError ?xe_InvalidNumberError ?xk_InvalidNumberError ?xb_InvalidNumberError ?xt_InvalidNumberError
    (case a_is_integer => k_is)
    (case l_is_integer => k_is)
    (case c_is_integer => k_is)
    (case k_is_integer => k_is)
    (case a_check_number => k_is)
    (case l_check_number => k_is)
    (case c_check_number => k_is)
    (case k_check_number => k_is)
    (case a_words_to_come => k_is)
    (case l_words_to_come => k_is)
    (case c_words_to_come => k_is)
    (case k_words_to_come => k_is)
    (case a_tree_count => k_is)
    (case l_tree_count => k_is)
    (case c_tree_count => k_is)
    (case k_tree_count => k_is)
    (case a_count_trees => k_is)
    (case l_count_trees => k_is)
    (case c_count_trees => k_is)
    (case k_count_trees => k_is)
    (case a_law_pool => k_is)
    (case l_law_pool => k_is)
    (case c_law_pool => k_is)
    (case k_law_pool => k_is)
    (case a_law_draw => k_is)
    (case l_law_draw => k_is)
    (case c_law_draw => k_is)
    (case k_law_draw => k_is)
    (case a_law_line => k_is)
    (case l_law_line => k_is)
    (case c_law_line => k_is)
    (case k_law_line => k_is)
    (case a_law_trees => k_is)
    (case l_law_trees => k_is)
    (case c_law_trees => k_is)
    (case k_law_trees => k_is)
    (case a_law_catalan => k_is)
    (case l_law_catalan => k_is)
    (case c_law_catalan => k_is)
    (case k_law_catalan => k_is)
    (case a_law => k_is)
    (case l_law => k_is)
    (case c_law => k_is)
    (case k_law => k_is)
    (case z_bool => k_is)
    (case z_int => k_is)
    (case z_isinstance => k_is)
    (case z_len => k_is)
    (case z_max => k_is)
    (case z_min => k_is)
    (case z_range => k_is)
    (case z_repr => k_is)
    (case z_sorted => k_is)
    (case z_sum => k_is)
    (case g_MOST_IN_ROW => k_is)
    (case xa_InvalidNumberError => k_is)
    (case xe_InvalidNumberError => k_exc)
    (case xk_InvalidNumberError => k_is)
    (case xb_InvalidNumberError => k_is)
    (case xt_InvalidNumberError => k_is)
#print axioms PySem.Challenge.cw_ziplanes_k53_trees_counted_holds
