import PyProof.Rows.All
import Wide.All
import OpenK.AllK
import Wide.FinOn
import KE.KStateDown
import Lean
import HandS.ForMost
import HandS.Exc
import HandS.TryOnly
import HandS.ExcOwn
import HandS.ExcInit
import HandS.ExcValue
import HandS.CallSlots
import HandS.Wide
import HandS.SortInts
import HandS.IsInst
import HandS.Walk
import HandS.Defaults
import HandS.WordsExc
import HandS.Head0
import HandS.Head1
import HandS.Head2
import HandS.HeadHook1
import HandS.HeadHook2
import HandS.HeadEnd
import HandS.EndBits
import KE.DataEq
import HandS.HeadHook3
import KE.KExcIs
import HandS.SetFor
import HandS.More
import HandS.Replace
import HandS.ReplaceLit
import HandS.Strs
import HandS.ExcField
import HandS.Style
import HandS.Conv
import HandS.Codes
import HandS.Text
import KE.IntTextLaws
import PySem.Challenge.RW_paidspan_k42_stretches_day_by_day
set_option Elab.async false
set_option linter.all false
set_option maxRecDepth 100000
set_option maxHeartbeats 0
/-! What a def computes, over plain data: a value is data, or a place in a store of things that change. -/
namespace PV
open PySem L2
noncomputable section

abbrev D := PyData
/-- a value: data that never changes, a place of the store, a tuple that holds places, a caught exception -/
inductive Vl where
  | p (d : D) | r (i : Nat) | t (xs : List Vl) | x (c : Nat) (n : Option Int) | f (k : Nat) | dc (kvs : List (Key × D))
/-- a thing that may change -/
inductive Ent where
  | dead | lst (xs : List Vl) | dK (kvs : List (Key × Vl)) | dT (kvs : List (List Key × Vl)) | obj (c : Nat) (fs : List (Str × Vl))
abbrev Sto := List Ent
abbrev Env := List (Option Vl)
inductive R (α : Type) where
  | ok (a : α) (S : Sto) | exc (c : Nat) (n : Option Int) (S : Sto) | bad
def R.bind {α β : Type} : R α → (α → Sto → R β) → R β
  | .ok a S, f => f a S
  | .exc c n S, _ => .exc c n S
  | .bad, _ => .bad
@[simp] theorem R.bind_ok {α β : Type} (a : α) (S : Sto) (f : α → Sto → R β) : (R.ok a S).bind f = f a S := rfl
@[simp] theorem R.bind_exc {α β : Type} (c : Nat) (n : Option Int) (S : Sto) (f : α → Sto → R β) : (R.exc c n S : R α).bind f = .exc c n S := rfl
@[simp] theorem R.bind_bad {α β : Type} (f : α → Sto → R β) : (R.bad : R α).bind f = .bad := rfl
/-- what a block of statements comes to -/
inductive O where
  | nx (e : Env) (S : Sto) | rt (v : Vl) (S : Sto) | bk (e : Env) (S : Sto) | ct (e : Env) (S : Sto) | ex (c : Nat) (n : Option Int) (e : Env) (S : Sto) | bad
abbrev M := Env → Sto → R Vl
abbrev MS := Env → Sto → O
abbrev Fn := List Vl → Sto → R Vl
abbrev G := Vl → Env → Sto → R Env
abbrev It := Env → Sto → R (List Vl)

/-! ### helpers -/
def pures : List Vl → Option (List D)
  | [] => some []
  | .p d :: r => (pures r).map (d :: ·)
  | _ :: _ => none
@[simp] theorem pures_nil : pures [] = some [] := rfl
@[simp] theorem pures_cons (d : D) (r : List Vl) : pures (.p d :: r) = (pures r).map (d :: ·) := rfl
@[simp] theorem pures_map (ds : List D) : pures (ds.map Vl.p) = some ds := by
  induction ds with
  | nil => rfl
  | cons d r ih => rw [List.map_cons, pures_cons, ih] <;> rfl
@[simp] theorem pures_map' {α : Type} (f : α → D) (xs : List α) : pures (xs.map fun a => Vl.p (f a)) = some (xs.map f) := by
  induction xs with
  | nil => rfl
  | cons d r ih => rw [List.map_cons, pures_cons, ih] <;> rfl
theorem pures_some : ∀ {vs : List Vl} {ds : List D}, pures vs = some ds → vs = ds.map Vl.p
  | [], ds, h => by cases h; rfl
  | .p d :: r, ds, h => by
    rw [pures_cons] at h
    cases q : pures r with
    | none => rw [q] at h; cases h
    | some es =>
      rw [q] at h
      cases h
      rw [List.map_cons, ← pures_some q]
  | .r _ :: _, _, h => by cases h
  | .t _ :: _, _, h => by cases h
  | .x _ _ :: _, _, h => by cases h
  | .f _ :: _, _, h => by cases h
  | .dc _ :: _, _, h => by cases h
def mkTup (xs : List Vl) : Vl := match pures xs with
  | some ds => .p (.tuple ds)
  | none => .t xs
def entL (S : Sto) (i : Nat) : Option (List Vl) := match S[i]? with
  | some (.lst xs) => some xs
  | _ => none
def asL (S : Sto) : Vl → Option (List Vl)
  | .p (.list ds) => some (ds.map .p)
  | .r i => entL S i
  | _ => none
def asT : Vl → Option (List Vl)
  | .p (.tuple ds) => some (ds.map .p)
  | .t xs => some xs
  | _ => none
def asQ (S : Sto) (v : Vl) : Option (List Vl) := match asL S v with
  | some xs => some xs
  | none => asT v
@[simp] theorem asL_list (S : Sto) (ds : List D) : asL S (.p (.list ds)) = some (ds.map .p) := rfl
@[simp] theorem asL_tuple (S : Sto) (ds : List D) : asL S (.p (.tuple ds)) = none := rfl
@[simp] theorem asL_str (S : Sto) (s : Str) : asL S (.p (.str s)) = none := rfl
@[simp] theorem asL_int (S : Sto) (s : Int) : asL S (.p (.int s)) = none := rfl
@[simp] theorem asL_r (S : Sto) (i : Nat) : asL S (.r i) = entL S i := rfl
@[simp] theorem asT_tuple (ds : List D) : asT (.p (.tuple ds)) = some (ds.map .p) := rfl
@[simp] theorem asT_t (xs : List Vl) : asT (.t xs) = some xs := rfl
@[simp] theorem asT_str (s : Str) : asT (.p (.str s)) = none := rfl
@[simp] theorem asQ_list (S : Sto) (ds : List D) : asQ S (.p (.list ds)) = some (ds.map .p) := rfl
@[simp] theorem asQ_tuple (S : Sto) (ds : List D) : asQ S (.p (.tuple ds)) = some (ds.map .p) := rfl
@[simp] theorem asQ_t (S : Sto) (xs : List Vl) : asQ S (.t xs) = some xs := rfl
@[simp] theorem asQ_str (S : Sto) (s : Str) : asQ S (.p (.str s)) = none := rfl
mutual
/-- no place from n on -/
def below (n : Nat) : Vl → Bool
  | .p _ => true
  | .r i => decide (i < n)
  | .t xs => belowAll n xs
  | .x _ _ => true
  | .f _ => true
  | .dc _ => true
def belowAll (n : Nat) : List Vl → Bool
  | [] => true
  | v :: r => below n v && belowAll n r
end
@[simp] theorem below_p (n : Nat) (d : D) : below n (.p d) = true := by simp [below]
@[simp] theorem below_r (n i : Nat) : below n (.r i) = decide (i < n) := by simp [below]
@[simp] theorem below_x (n c : Nat) (k : Option Int) : below n (.x c k) = true := by simp [below]
@[simp] theorem below_f (n c : Nat) : below n (.f c) = true := by simp [below]
@[simp] theorem below_dc (n : Nat) (kvs : List (Key × D)) : below n (.dc kvs) = true := by simp [below]
@[simp] theorem below_t (n : Nat) (xs : List Vl) : below n (.t xs) = belowAll n xs := by simp [below]
@[simp] theorem belowAll_nil (n : Nat) : belowAll n [] = true := by simp [belowAll]
@[simp] theorem belowAll_cons (n : Nat) (v : Vl) (r : List Vl) : belowAll n (v :: r) = (below n v && belowAll n r) := by simp [belowAll]

/-! ### expressions -/
def mVar (i : Nat) : M := fun e S => match e[i]? with
  | some (some v) => .ok v S
  | _ => .bad
def mC (d : D) : M := fun _ S => .ok (.p d) S
def m1 (f : Vl → Sto → R Vl) (a : M) : M := fun e S => (a e S).bind f
def m2 (f : Vl → Vl → Sto → R Vl) (a b : M) : M := fun e S => (a e S).bind fun u S1 => (b e S1).bind fun v S2 => f u v S2
def mArgs : List M → Env → Sto → R (List Vl)
  | [], _, S => .ok [] S
  | a :: as, e, S => (a e S).bind fun v S1 => (mArgs as e S1).bind fun vs S2 => .ok (v :: vs) S2
/-- a call: the arguments, then what the called one makes of them -/
def mCall (F : Fn) (as : List M) : M := fun e S => (mArgs as e S).bind F
def truth (b : Bool) : R Vl → R Vl → R Vl := fun x y => if b then x else y
/-- by a value's truth -/
def onB (v : Vl) (x y : R Vl) : R Vl := match v with
  | .p (.bool true) => x
  | .p (.bool false) => y
  | _ => .bad
@[simp] theorem onB_true (x y : R Vl) : onB (.p (.bool true)) x y = x := rfl
@[simp] theorem onB_false (x y : R Vl) : onB (.p (.bool false)) x y = y := rfl
theorem onB_bool (b : Bool) (x y : R Vl) : onB (.p (.bool b)) x y = if b = true then x else y := by cases b <;> rfl
@[simp] theorem onB_decide (c : Prop) [Decidable c] (x y : R Vl) : onB (.p (.bool (decide c))) x y = if c then x else y := by
  by_cases h : c <;> simp [h]
@[simp] theorem onB_not (b : Bool) (x y : R Vl) : onB (.p (.bool (!b))) x y = onB (.p (.bool b)) y x := by cases b <;> rfl
@[simp] theorem onB_and (b c : Bool) (x y : R Vl) : onB (.p (.bool (b && c))) x y = onB (.p (.bool b)) (onB (.p (.bool c)) x y) y := by cases b <;> rfl
@[simp] theorem onB_or (b c : Bool) (x y : R Vl) : onB (.p (.bool (b || c))) x y = onB (.p (.bool b)) x (onB (.p (.bool c)) x y) := by cases b <;> rfl
def mAnd (a b : M) : M := fun e S => (a e S).bind fun v S1 => onB v (b e S1) (.ok (.p (.bool false)) S1)
def mOr (a b : M) : M := fun e S => (a e S).bind fun v S1 => onB v (.ok (.p (.bool true)) S1) (b e S1)
def notV (v : Vl) (S : Sto) : R Vl := match v with
  | .p (.bool b) => .ok (.p (.bool !b)) S
  | _ => .bad
@[simp] theorem notV_bool (b : Bool) (S : Sto) : notV (.p (.bool b)) S = .ok (.p (.bool !b)) S := rfl
def mNot (a : M) : M := m1 notV a
def mIf (c a b : M) : M := fun e S => (c e S).bind fun v S1 => onB v (a e S1) (b e S1)
/-- a op b op' c -/
def mChain (f g : Vl → Vl → Sto → R Vl) (a b c : M) : M := fun e S => (a e S).bind fun u S1 => (b e S1).bind fun v S2 => (f u v S2).bind fun k S3 => onB k ((c e S3).bind fun w S4 => g v w S4) (.ok (.p (.bool false)) S3)
def mTup (as : List M) : M := fun e S => (mArgs as e S).bind fun vs S1 => if vs.length ≤ sizeLine then .ok (mkTup vs) S1 else .bad
/-- a list that is laid and never changes -/
def lstF (vs : List Vl) (S : Sto) : R Vl := if vs.length ≤ sizeLine then (match pures vs with
  | some ds => .ok (.p (.list ds)) S
  | none => .bad) else .bad
/-- a list that may change: a new place of the store -/
def lstM (vs : List Vl) (S : Sto) : R Vl := if vs.length ≤ sizeLine then .ok (.r S.length) (S ++ [.lst vs]) else .bad
def mLstF (as : List M) : M := fun e S => (mArgs as e S).bind lstF
def mLstM (as : List M) : M := fun e S => (mArgs as e S).bind lstM
/-- the dict of a place -/
def entK (S : Sto) (i : Nat) : Option (List (Key × Vl)) := match S[i]? with
  | some (.dK kvs) => some kvs
  | _ => none
/-- a place's dict is told to change no more -/
def frzD (i : Nat) (S : Sto) : R Vl := match entK S i with
  | some kvs => (match pures (kvs.map (·.2)) with
    | some ds => .ok (.dc ((kvs.map (·.1)).zip ds)) (S.set i .dead)
    | none => .bad)
  | none => .bad
/-- a place's list is told to change no more -/
def frzV (v : Vl) (S : Sto) : R Vl := match v with
  | .p d => .ok (.p d) S
  | .r i => (match entL S i with
    | some vs => (match pures vs with
      | some ds => .ok (.p (.list ds)) (S.set i .dead)
      | none => .bad)
    | none => frzD i S)
  | _ => .bad
@[simp] theorem frzV_p (d : D) (S : Sto) : frzV (.p d) S = .ok (.p d) S := rfl

/-! ### operators -/
def isI : Vl → Option Int
  | .p (.int i) => some i
  | _ => none
def addV (u v : Vl) (S : Sto) : R Vl := match u, v with
  | .p (.int i), .p (.int j) => .ok (.p (.int (i + j))) S
  | .p (.str a), .p (.str b) => if a.length + b.length ≤ sizeLine then .ok (.p (.str (a ++ b))) S else .bad
  | .p (.tuple a), .p (.tuple b) => if a ≠ [] ∧ a.length + b.length ≤ sizeLine then .ok (.p (.tuple (a ++ b))) S else .bad
  | u, v => (match asL S u, asL S v with
    | some a, some b => lstF (a ++ b) S
    | _, _ => .bad)
/-- + of lists, the sum a place of the store -/
def catM (u v : Vl) (S : Sto) : R Vl := match asL S u, asL S v with
  | some a, some b => lstM (a ++ b) S
  | _, _ => .bad
def subV (u v : Vl) (S : Sto) : R Vl := match u, v with
  | .p (.int i), .p (.int j) => .ok (.p (.int (i - j))) S
  | _, _ => .bad
/-- two factors of together below a hundred million bits -/
def MulFits (i j : Int) : Prop := i.natAbs.log2 + j.natAbs.log2 < 100000000
noncomputable instance (i j : Int) : Decidable (MulFits i j) := Classical.propDecidable _
def SmulFits (a : Str) (k : Int) : Prop := -(2 ^ 62) ≤ k ∧ k < 2 ^ 62 ∧ a.length * k.toNat ≤ 16777216
noncomputable instance (a : Str) (k : Int) : Decidable (SmulFits a k) := Classical.propDecidable _
def mulV (u v : Vl) (S : Sto) : R Vl := match u, v with
  | .p (.int i), .p (.int j) => if MulFits i j then .ok (.p (.int (i * j))) S else .bad
  | .p (.str a), .p (.int k) => if SmulFits a k then .ok (.p (.str (PySem.Txt.mul a k))) S else .bad
  | _, _ => .bad
/-- a divisor not 0, below 2 ^ 9000 -/
def DivFits (j : Int) : Prop := j ≠ 0 ∧ j.natAbs.log2 < 9000
noncomputable instance (j : Int) : Decidable (DivFits j) := Classical.propDecidable _
def fdivV (u v : Vl) (S : Sto) : R Vl := match u, v with
  | .p (.int i), .p (.int j) => if DivFits j then .ok (.p (.int (i.fdiv j))) S else .bad
  | _, _ => .bad
def modV (u v : Vl) (S : Sto) : R Vl := match u, v with
  | .p (.int i), .p (.int j) => if j ≠ 0 then .ok (.p (.int (i.fmod j))) S else .bad
  | _, _ => .bad
/-- the power's bounds -/
def PowFits (i j : Int) : Prop := 0 ≤ j ∧ j ≤ 1000000 ∧ i.natAbs < 2 ^ 64
noncomputable instance (i j : Int) : Decidable (PowFits i j) := Classical.propDecidable _
def powV (u v : Vl) (S : Sto) : R Vl := match u, v with
  | .p (.int i), .p (.int j) => if PowFits i j then .ok (.p (.int (i ^ j.toNat))) S else .bad
  | _, _ => .bad
def negV (u : Vl) (S : Sto) : R Vl := match u with
  | .p (.int i) => .ok (.p (.int (-i))) S
  | _ => .bad
/-- data for == -/
def datL : Sto → Vl → Option D
  | _, .p d => some d
  | S, .r i => (match entL S i with
    | some vs => (pures vs).map .list
    | none => none)
  | _, _ => none
def flat : D → Bool
  | .none => true
  | .bool _ => true
  | .int _ => true
  | .str _ => true
  | _ => false
/-- data that == compares: no dict within, not too deep -/
def shq (d : D) : Bool := d.plain && decide (d.depth ≤ 32)
def eqV (u v : Vl) (S : Sto) : R Vl := match datL S u, datL S v with
  | some d, some e => if (shq d && shq e) = true then .ok (.p (.bool (PyData.eqv d e))) S else .bad
  | _, _ => .bad
def neV (u v : Vl) (S : Sto) : R Vl := match datL S u, datL S v with
  | some d, some e => if (shq d && shq e) = true then .ok (.p (.bool (!PyData.eqv d e))) S else .bad
  | _, _ => .bad
def intsOf : List D → Option (List Int)
  | [] => some []
  | .int i :: r => (intsOf r).map (i :: ·)
  | _ :: _ => none
@[simp] theorem intsOf_nil : intsOf [] = some [] := rfl
@[simp] theorem intsOf_cons (i : Int) (r : List D) : intsOf (.int i :: r) = (intsOf r).map (i :: ·) := rfl
@[simp] theorem intsOf_map (is : List Int) : intsOf (is.map PyData.int) = some is := by
  induction is with
  | nil => rfl
  | cons d r ih => rw [List.map_cons, intsOf_cons, ih] <;> rfl
@[simp] theorem intsOf_map' {α : Type} (f : α → Int) (xs : List α) : intsOf (xs.map fun a => PyData.int (f a)) = some (xs.map f) := by
  induction xs with
  | nil => rfl
  | cons d r ih => rw [List.map_cons, intsOf_cons, ih] <;> rfl
theorem intsOf_some : ∀ {ds : List D} {is : List Int}, intsOf ds = some is → ds = is.map PyData.int
  | [], _, h => by cases h; rfl
  | .int i :: r, is, h => by
    rw [intsOf_cons] at h
    cases q : intsOf r with
    | none => rw [q] at h; cases h
    | some es =>
      rw [q] at h
      cases h
      rw [List.map_cons, ← intsOf_some q]
  | .none :: _, _, h => by cases h
  | .bool _ :: _, _, h => by cases h
  | .str _ :: _, _, h => by cases h
  | .list _ :: _, _, h => by cases h
  | .tuple _ :: _, _, h => by cases h
  | .dict _ :: _, _, h => by cases h
def ltV (u v : Vl) (S : Sto) : R Vl := match u, v with
  | .p (.int i), .p (.int j) => .ok (.p (.bool (decide (i < j)))) S
  | .p (.str a), .p (.str b) => .ok (.p (.bool (decide (a.cps.toList < b.cps.toList)))) S
  | .p (.tuple a), .p (.tuple b) => (match intsOf a, intsOf b with
    | some x, some y => .ok (.p (.bool (HT.lexLt x y))) S
    | _, _ => .bad)
  | _, _ => .bad
def leV (u v : Vl) (S : Sto) : R Vl := match u, v with
  | .p (.int i), .p (.int j) => .ok (.p (.bool (decide (i ≤ j)))) S
  | _, _ => .bad
def gtV (u v : Vl) (S : Sto) : R Vl := match u, v with
  | .p (.int i), .p (.int j) => .ok (.p (.bool (decide (j < i)))) S
  | _, _ => .bad
def geV (u v : Vl) (S : Sto) : R Vl := match u, v with
  | .p (.int i), .p (.int j) => .ok (.p (.bool (decide (j ≤ i)))) S
  | _, _ => .bad
def isNone (v : Vl) : Bool := match v with
  | .p .none => true
  | _ => false
@[simp] theorem isNone_none : isNone (.p .none) = true := rfl
@[simp] theorem isNone_int (i : Int) : isNone (.p (.int i)) = false := rfl
@[simp] theorem isNone_bool (i : Bool) : isNone (.p (.bool i)) = false := rfl
@[simp] theorem isNone_str (i : Str) : isNone (.p (.str i)) = false := rfl
@[simp] theorem isNone_tup (i : List D) : isNone (.p (.tuple i)) = false := rfl
@[simp] theorem isNone_lst (i : List D) : isNone (.p (.list i)) = false := rfl
@[simp] theorem isNone_f (c : Nat) : isNone (.f c) = false := rfl
@[simp] theorem isNone_x (c : Nat) (n : Option Int) : isNone (.x c n) = false := rfl
@[simp] theorem isNone_dc (c : List (Key × D)) : isNone (.dc c) = false := rfl
@[simp] theorem isNone_r (i : Nat) : isNone (.r i) = false := rfl
@[simp] theorem isNone_t (i : List Vl) : isNone (.t i) = false := rfl
def isNV (v : Vl) (S : Sto) : R Vl := .ok (.p (.bool (isNone v))) S
def notNV (v : Vl) (S : Sto) : R Vl := .ok (.p (.bool (!isNone v))) S
/-- in a list, a tuple of flat things; a sign in a text -/
def inV0 (d : D) (xs : List D) : Bool := xs.any fun e => PyData.eqv e d
def subSeq (x t : Str) : Bool := !(Builtin.Str.occurrences t x 0 t.length 1).isEmpty
/-- the items of a list's or a tuple's data -/
def itsD : D → Option (List D)
  | .list ds => some ds
  | .tuple ds => some ds
  | _ => none
def inV (neg : Bool) (u v : Vl) (S : Sto) : R Vl := match u, v with
  | .p (.str a), .p (.str b) => .ok (.p (.bool (if neg then !subSeq a b else subSeq a b))) S
  | .p d, v => (match datL S v with
    | some e => (match itsD e with
      | some ds => if (shq d && shq e) = true then .ok (.p (.bool (if neg then !inV0 d ds else inV0 d ds))) S else .bad
      | none => .bad)
    | none => .bad)
  | _, _ => .bad

/-! ### items, slices -/
def ixV (u v : Vl) (S : Sto) : R Vl := match u, v with
  | .p (.str z), .p (.int i) => if z.length ≤ sizeLine then (match atI z.cps.toList i with
    | some c => .ok (.p (.str ⟨#[c]⟩)) S
    | none => .bad) else .bad
  | u, .p (.int i) => (match asQ S u with
    | some vs => (match atI vs i with
      | some v => .ok v S
      | none => .bad)
    | none => .bad)
  | _, _ => .bad
abbrev Mo := Env → Sto → R (Option Int)
def oNo : Mo := fun _ S => .ok none S
def oAt (a : M) : Mo := fun e S => (a e S).bind fun v S1 => match v with
  | .p (.int i) => .ok (some i) S1
  | _ => .bad
def cutL {α : Type} (xs : List α) (lo hi : Option Int) : List α := (xs.drop (HT.sIx xs.length 0 lo)).take (HT.sIx xs.length xs.length hi - HT.sIx xs.length 0 lo)
def slV (u : Vl) (lo hi : Option Int) (S : Sto) : R Vl := match u with
  | .p (.str z) => if z.length ≤ sizeLine then .ok (.p (.str (cutS z lo hi))) S else .bad
  | .p (.tuple ds) => if HT.sIx ds.length 0 lo = 0 ∧ HT.sIx ds.length ds.length hi = ds.length then .bad else .ok (.p (.tuple (cutL ds lo hi))) S
  | u => (match asL S u with
    | some vs => lstF (cutL vs lo hi) S
    | none => .bad)
def mSl (a : M) (lo hi : Mo) : M := fun e S => (a e S).bind fun u S1 => (lo e S1).bind fun l S2 => (hi e S2).bind fun h S3 => slV u l h S3

/-! ### statements -/
def ofR (e : Env) (r : R Vl) (k : Vl → Sto → O) : O := match r with
  | .ok v S => k v S
  | .exc c n S => .ex c n e S
  | .bad => .bad
@[simp] theorem ofR_ok (e : Env) (v : Vl) (S : Sto) (k : Vl → Sto → O) : ofR e (.ok v S) k = k v S := rfl
@[simp] theorem ofR_exc (e : Env) (c : Nat) (n : Option Int) (S : Sto) (k : Vl → Sto → O) : ofR e (.exc c n S) k = .ex c n e S := rfl
@[simp] theorem ofR_bad (e : Env) (k : Vl → Sto → O) : ofR e .bad k = .bad := rfl
def O.andThen (o : O) (k : Env → Sto → O) : O := match o with
  | .nx e S => k e S
  | .rt v S => .rt v S
  | .bk e S => .bk e S
  | .ct e S => .ct e S
  | .ex c n e S => .ex c n e S
  | .bad => .bad
@[simp] theorem andThen_nx (e : Env) (S : Sto) (k : Env → Sto → O) : (O.nx e S).andThen k = k e S := rfl
@[simp] theorem andThen_rt (v : Vl) (S : Sto) (k : Env → Sto → O) : (O.rt v S).andThen k = .rt v S := rfl
@[simp] theorem andThen_bk (e : Env) (S : Sto) (k : Env → Sto → O) : (O.bk e S).andThen k = .bk e S := rfl
@[simp] theorem andThen_ct (e : Env) (S : Sto) (k : Env → Sto → O) : (O.ct e S).andThen k = .ct e S := rfl
@[simp] theorem andThen_ex (c : Nat) (n : Option Int) (e : Env) (S : Sto) (k : Env → Sto → O) : (O.ex c n e S).andThen k = .ex c n e S := rfl
@[simp] theorem andThen_bad (k : Env → Sto → O) : O.bad.andThen k = .bad := rfl
def sNop : MS := fun e S => .nx e S
def sSeq (a b : MS) : MS := fun e S => (a e S).andThen b
def sExpr (a : M) : MS := fun e S => ofR e (a e S) fun _ S1 => .nx e S1
def sRet (a : M) : MS := fun e S => ofR e (a e S) fun v S1 => .rt v S1
def sRetN : MS := fun _ S => .rt (.p .none) S
def onO (v : Vl) (x y : O) : O := match v with
  | .p (.bool true) => x
  | .p (.bool false) => y
  | _ => .bad
@[simp] theorem onO_true (x y : O) : onO (.p (.bool true)) x y = x := rfl
@[simp] theorem onO_false (x y : O) : onO (.p (.bool false)) x y = y := rfl
theorem onO_bool (b : Bool) (x y : O) : onO (.p (.bool b)) x y = if b = true then x else y := by cases b <;> rfl
@[simp] theorem onO_decide (c : Prop) [Decidable c] (x y : O) : onO (.p (.bool (decide c))) x y = if c then x else y := by
  by_cases h : c <;> simp [h]
@[simp] theorem onO_not (b : Bool) (x y : O) : onO (.p (.bool (!b))) x y = onO (.p (.bool b)) y x := by cases b <;> rfl
@[simp] theorem onO_and (b c : Bool) (x y : O) : onO (.p (.bool (b && c))) x y = onO (.p (.bool b)) (onO (.p (.bool c)) x y) y := by cases b <;> rfl
@[simp] theorem onO_or (b c : Bool) (x y : O) : onO (.p (.bool (b || c))) x y = onO (.p (.bool b)) x (onO (.p (.bool c)) x y) := by cases b <;> rfl
def sIf (c : M) (a b : MS) : MS := fun e S => ofR e (c e S) fun v S1 => onO v (a e S1) (b e S1)
def gNm (i : Nat) : G := fun v e S => .ok (e.set i (some v)) S
def gAll : List G → List Vl → Env → Sto → R Env
  | [], [], e, S => .ok e S
  | g :: gs, v :: vs, e, S => (g v e S).bind fun e1 S1 => gAll gs vs e1 S1
  | _, _, _, _ => .bad
/-- a tuple is taken apart -/
def gTp (gs : List G) : G := fun v e S => match asT v with
  | some vs => if vs.length = gs.length then gAll gs vs e S else .bad
  | none => .bad
def ofG (r : R Env) : O := match r with
  | .ok e S => .nx e S
  | _ => .bad
@[simp] theorem ofG_ok (e : Env) (S : Sto) : ofG (.ok e S) = .nx e S := rfl
def sAsg (g : G) (a : M) : MS := fun e S => ofR e (a e S) fun v S1 => ofG (g v e S1)
def sAug (i : Nat) (f : Vl → Vl → Sto → R Vl) (a : M) : MS := fun e S => match e[i]? with
  | some (some u) => ofR e (a e S) fun v S1 => ofR e (f u v S1) fun w S2 => .nx (e.set i (some w)) S2
  | _ => .bad
/-- the list of slot i is told to change no more -/
def sFz (i : Nat) : MS := fun e S => match e[i]? with
  | some (some v) => ofR e (frzV v S) fun w S1 => .nx (e.set i (some w)) S1
  | _ => .nx e S
def sBreak : MS := fun e S => .bk e S
def sCont : MS := fun e S => .ct e S
def loopG (g : G) (b : MS) : List Vl → MS
  | [], e, S => .nx e S
  | v :: vs, e, S => match g v e S with
    | .ok e1 S1 => (match b e1 S1 with
      | .nx e2 S2 => loopG g b vs e2 S2
      | .ct e2 S2 => loopG g b vs e2 S2
      | .bk e2 S2 => .nx e2 S2
      | .rt w S2 => .rt w S2
      | .ex c n e2 S2 => .ex c n e2 S2
      | .bad => .bad)
    | _ => .bad
def sFor (g : G) (it : It) (b : MS) : MS := fun e S => match it e S with
  | .ok vs S1 => loopG g b vs e S1
  | .exc c n S1 => .ex c n e S1
  | .bad => .bad
def sRaise (c : Nat) : MS := fun e S => .ex c none e S
/-- walked: a list or tuple that stands, a text, a range, enumerate, zip -/
def itL (a : M) : It := fun e S => (a e S).bind fun v S1 => match v with
  | .p (.list ds) => .ok (ds.map .p) S1
  | _ => .bad
def itT (a : M) : It := fun e S => (a e S).bind fun v S1 => match asT v with
  | some vs => .ok vs S1
  | none => .bad
def signs (z : Str) : List Vl := z.cps.toList.map fun c => .p (.str ⟨#[c]⟩)
def itS (a : M) : It := fun e S => (a e S).bind fun v S1 => match v with
  | .p (.str z) => .ok (signs z) S1
  | _ => .bad
def rngV (lo hi : Int) : List Vl := (List.range (hi - lo).toNat).map fun (k : Nat) => .p (.int (lo + k))
def RgFits (lo hi : Int) : Prop := -(2 ^ 62) ≤ lo ∧ lo < 2 ^ 62 ∧ -(2 ^ 62) ≤ hi ∧ hi < 2 ^ 62
noncomputable instance (lo hi : Int) : Decidable (RgFits lo hi) := Classical.propDecidable _
def itR1 (a : M) : It := fun e S => (a e S).bind fun v S1 => match v with
  | .p (.int j) => if RgFits 0 j then .ok (rngV 0 j) S1 else .bad
  | _ => .bad
def itR2 (a b : M) : It := fun e S => (a e S).bind fun u S1 => (b e S1).bind fun v S2 => match u, v with
  | .p (.int i), .p (.int j) => if RgFits i j then .ok (rngV i j) S2 else .bad
  | _, _ => .bad
def enumV (k : Nat) : List D → List Vl
  | [] => []
  | d :: r => .p (.tuple [.int (k : Nat), d]) :: enumV (k + 1) r
def itE (a : M) : It := fun e S => (a e S).bind fun v S1 => match v with
  | .p (.list ds) => .ok (enumV 0 ds) S1
  | _ => .bad
def zipV : List D → List D → List Vl
  | d :: r, x :: y => .p (.tuple [d, x]) :: zipV r y
  | _, _ => []
def itZ (a b : M) : It := fun e S => (a e S).bind fun u S1 => (b e S1).bind fun v S2 => match u, v with
  | .p (.list ds), .p (.list xs) => .ok (zipV ds xs) S2
  | _, _ => .bad
/-! ### list comprehensions -/
def wipeE (e : Env) : List Nat → Env
  | [] => e
  | v :: vs => (wipeE e vs).set v none
def lcG (g : G) (c a : M) : List Vl → Env → Sto → R (List Vl)
  | [], _, S => .ok [] S
  | v :: vs, e, S => match g v e S with
    | .ok e1 S1 => (match c e1 S1 with
      | .ok (.p (.bool true)) S2 => (match a e1 S2 with
        | .ok w S3 => (match lcG g c a vs e S3 with
          | .ok ws S4 => .ok (w :: ws) S4
          | _ => .bad)
        | _ => .bad)
      | .ok (.p (.bool false)) S2 => lcG g c a vs e S2
      | _ => .bad)
    | _ => .bad
def mYes : M := mC (.bool true)
def mLc (own : List Nat) (g : G) (it : It) (c a : M) (mk : List Vl → Sto → R Vl) : M := fun e S => (it e S).bind fun vs S1 => match lcG g c a vs (wipeE e own) S1 with
  | .ok ws S2 => mk ws S2
  | _ => .bad
/-! ### a def -/
def initE (n : Nat) (vs : List Vl) : Env := vs.map some ++ List.replicate (n - vs.length) none
/-- no place from n on is held -/
def entBelow (n : Nat) : Ent → Bool
  | .dead => true
  | .lst ws => belowAll n ws
  | .dK kvs => belowAll n (kvs.map (·.2))
  | .dT kvs => belowAll n (kvs.map (·.2))
  | .obj _ fs => belowAll n (fs.map (·.2))
/-- what stood in S holds no place that S has not -/
def Clean (S S' : Sto) : Prop := ∀ i, i < S.length → S'[i]? = S[i]? ∨ ∃ e, S'[i]? = some e ∧ entBelow S.length e = true
theorem Clean.refl (S : Sto) : Clean S S := fun _ _ => .inl rfl
theorem Clean.app (S T : Sto) : Clean S (S ++ T) := fun i h => .inl (List.getElem?_append_left h)
theorem Clean.set {S S' : Sto} {i : Nat} {e : Ent} (c : Clean S S') (h : S.length ≤ i ∨ entBelow S.length e = true) : Clean S (S'.set i e) := fun j hj => by
  by_cases z : i = j
  · subst z
    rcases h with h | h
    · exact absurd hj (Nat.not_lt.mpr h)
    · by_cases hl : i < S'.length
      · exact .inr ⟨e, List.getElem?_set_self hl, h⟩
      · rw [List.set_eq_of_length_le (Nat.le_of_not_lt hl)]
        exact c i hj
  · rw [List.getElem?_set_ne z]
    exact c j hj
theorem Clean.more {S S' T : Sto} (c : Clean S S') (h : S.length ≤ S'.length) : Clean S (S' ++ T) := fun i hi => by
  rw [List.getElem?_append_left (Nat.lt_of_lt_of_le hi h)]
  exact c i hi
@[simp] theorem clean_refl (S : Sto) : Clean S S ↔ True := iff_true_intro (Clean.refl S)
@[simp] theorem clean_app (S T : Sto) : Clean S (S ++ T) ↔ True := iff_true_intro (Clean.app S T)
open Classical in
noncomputable def leave (S0 : Sto) (v : Vl) (S : Sto) : R Vl := if below S0.length v = true ∧ Clean S0 S then .ok v (S.take S0.length) else .bad
open Classical in
noncomputable def leaveX (S0 : Sto) (c : Nat) (n : Option Int) (S : Sto) : R Vl := if Clean S0 S then .exc c n (S.take S0.length) else .bad
noncomputable def fin (S0 : Sto) : O → R Vl
  | .nx _ S => leave S0 (.p .none) S
  | .rt v S => leave S0 v S
  | .ex c k _ S => leaveX S0 c k S
  | _ => .bad
/-- of a def that makes places which last -/
def finK : O → R Vl
  | .nx _ S => .ok (.p .none) S
  | .rt v S => .ok v S
  | .ex c k _ S => .exc c k S
  | _ => .bad
/-- a def of np parameters and ns names: its body -/
noncomputable def fnOf (np ns : Nat) (b : MS) : Fn := fun vs S => if vs.length = np then fin S (b (initE ns vs) S) else .bad
def fnOfK (np ns : Nat) (b : MS) : Fn := fun vs S => if vs.length = np then finK (b (initE ns vs) S) else .bad
@[simp] theorem fin_rt (S0 : Sto) (v : Vl) (S : Sto) : fin S0 (.rt v S) = leave S0 v S := rfl
@[simp] theorem fin_nx (S0 : Sto) (e : Env) (S : Sto) : fin S0 (.nx e S) = leave S0 (.p .none) S := rfl
@[simp] theorem fin_ex (S0 : Sto) (c : Nat) (n : Option Int) (e : Env) (S : Sto) : fin S0 (.ex c n e S) = leaveX S0 c n S := rfl
@[simp] theorem leave_same (S : Sto) (v : Vl) (h : below S.length v = true) : leave S v S = .ok v S := by
  unfold leave
  rw [if_pos ⟨h, Clean.refl S⟩, List.take_length]
@[simp] theorem leave_app (S T : Sto) (v : Vl) (h : below S.length v = true) : leave S v (S ++ T) = .ok v S := by
  unfold leave
  rw [if_pos ⟨h, Clean.app S T⟩, List.take_left]
@[simp] theorem leaveX_same (S : Sto) (c : Nat) (n : Option Int) : leaveX S c n S = .exc c n S := by
  unfold leaveX
  rw [if_pos (Clean.refl S), List.take_length]
@[simp] theorem leaveX_app (S T : Sto) (c : Nat) (n : Option Int) : leaveX S c n (S ++ T) = .exc c n S := by
  unfold leaveX
  rw [if_pos (Clean.app S T), List.take_left]

/-! ### methods of texts and lists, built-in functions, by values -/
def appV (u v : Vl) (S : Sto) : R Vl := match u with
  | .r i => (match entL S i with
    | some vs => if vs.length < sizeLine then .ok (.p .none) (S.set i (.lst (vs ++ [v]))) else .bad
    | none => .bad)
  | _ => .bad
def lenV (u : Vl) (S : Sto) : R Vl := match u with
  | .p (.str z) => if z.length ≤ sizeLine then .ok (.p (.int z.length)) S else .bad
  | u => (match asQ S u with
    | some vs => .ok (.p (.int vs.length)) S
    | none => .bad)
def absV (u : Vl) (S : Sto) : R Vl := match u with
  | .p (.int i) => .ok (.p (.int (if i < 0 then -i else i))) S
  | _ => .bad
def min2V (u v : Vl) (S : Sto) : R Vl := match u, v with
  | .p (.int i), .p (.int j) => .ok (.p (.int (if j < i then j else i))) S
  | _, _ => .bad
def max2V (u v : Vl) (S : Sto) : R Vl := match u, v with
  | .p (.int i), .p (.int j) => .ok (.p (.int (if j > i then j else i))) S
  | _, _ => .bad
def intV (u : Vl) (S : Sto) : R Vl := match u with
  | .p (.int i) => .ok (.p (.int i)) S
  | .p (.bool b) => .ok (.p (.int (if b then 1 else 0))) S
  | .p (.str a) => (match PySem.intText? a with
    | some n => if a.length ≤ 640 then .ok (.p (.int n)) S else .bad
    | none => .bad)
  | _ => .bad
def strV (u : Vl) (S : Sto) : R Vl := match u with
  | .p (.int i) => if i.natAbs.log2 < 1920 then .ok (.p (.str (toString i))) S else .bad
  | _ => .bad
def intsV (S : Sto) (u : Vl) : Option (List Int) := match asL S u with
  | some vs => (match pures vs with
    | some ds => intsOf ds
    | none => none)
  | none => none
def sumV (u : Vl) (S : Sto) : R Vl := match intsV S u with
  | some ns => .ok (.p (.int ns.sum)) S
  | none => .bad
def boolsOf : List D → Option (List Bool)
  | [] => some []
  | .bool i :: r => (boolsOf r).map (i :: ·)
  | _ :: _ => none
@[simp] theorem boolsOf_nil : boolsOf [] = some [] := rfl
@[simp] theorem boolsOf_cons (i : Bool) (r : List D) : boolsOf (.bool i :: r) = (boolsOf r).map (i :: ·) := rfl
@[simp] theorem boolsOf_map (is : List Bool) : boolsOf (is.map PyData.bool) = some is := by
  induction is with
  | nil => rfl
  | cons d r ih => rw [List.map_cons, boolsOf_cons, ih] <;> rfl
@[simp] theorem boolsOf_map' {α : Type} (f : α → Bool) (xs : List α) : boolsOf (xs.map fun a => PyData.bool (f a)) = some (xs.map f) := by
  induction xs with
  | nil => rfl
  | cons d r ih => rw [List.map_cons, boolsOf_cons, ih] <;> rfl
theorem boolsOf_some : ∀ {ds : List D} {is : List Bool}, boolsOf ds = some is → ds = is.map PyData.bool
  | [], _, h => by cases h; rfl
  | .bool i :: r, is, h => by
    rw [boolsOf_cons] at h
    cases q : boolsOf r with
    | none => rw [q] at h; cases h
    | some es =>
      rw [q] at h
      cases h
      rw [List.map_cons, ← boolsOf_some q]
  | .none :: _, _, h => by cases h
  | .int _ :: _, _, h => by cases h
  | .str _ :: _, _, h => by cases h
  | .list _ :: _, _, h => by cases h
  | .tuple _ :: _, _, h => by cases h
  | .dict _ :: _, _, h => by cases h
def boolsV (S : Sto) (u : Vl) : Option (List Bool) := match asL S u with
  | some vs => (match pures vs with
    | some ds => boolsOf ds
    | none => none)
  | none => none
def allV (u : Vl) (S : Sto) : R Vl := match boolsV S u with
  | some bs => .ok (.p (.bool (bs.all id))) S
  | none => .bad
def anyV (u : Vl) (S : Sto) : R Vl := match boolsV S u with
  | some bs => .ok (.p (.bool (bs.any id))) S
  | none => .bad
def maxOf : Int → List Int → Int
  | m, [] => m
  | m, k :: r => maxOf (if k > m then k else m) r
def minOf : Int → List Int → Int
  | m, [] => m
  | m, k :: r => minOf (if k < m then k else m) r
def maxV (u : Vl) (S : Sto) : R Vl := match intsV S u with
  | some (n :: ns) => .ok (.p (.int (maxOf n ns))) S
  | _ => .bad
def minV (u : Vl) (S : Sto) : R Vl := match intsV S u with
  | some (n :: ns) => .ok (.p (.int (minOf n ns))) S
  | _ => .bad
/-- the name of a value's built-in type -/
def tyN (S : Sto) : Vl → Option String
  | .p .none => some "NoneType"
  | .p (.bool _) => some "bool"
  | .p (.int _) => some "int"
  | .p (.str _) => some "str"
  | .p (.list _) => some "list"
  | .p (.tuple _) => some "tuple"
  | .t _ => some "tuple"
  | .r i => (match S[i]? with
    | some (.lst _) => some "list"
    | some (.dK _) => some "dict"
    | some (.dT _) => some "dict"
    | _ => none)
  | _ => none
def isiV (T : String) (u : Vl) (S : Sto) : R Vl := match tyN S u with
  | some a => (match kitB a T with
    | some b => .ok (.p (.bool b)) S
    | none => .bad)
  | none => .bad
def lstOfF (u : Vl) (S : Sto) : R Vl := match asQ S u with
  | some vs => lstF vs S
  | none => .bad
def lstOfM (u : Vl) (S : Sto) : R Vl := match asQ S u with
  | some vs => lstM vs S
  | none => .bad
/-! ### calls of built-in functions and of methods -/
def f1 (g : Vl → Sto → R Vl) : Fn := fun vs S => match vs with
  | [u] => g u S
  | _ => .bad
def f2 (g : Vl → Vl → Sto → R Vl) : Fn := fun vs S => match vs with
  | [u, v] => g u v S
  | _ => .bad
def fMin : Fn := fun vs S => match vs with
  | [u] => minV u S
  | [u, v] => min2V u v S
  | _ => .bad
def fMax : Fn := fun vs S => match vs with
  | [u] => maxV u S
  | [u, v] => max2V u v S
  | _ => .bad
@[simp] theorem f1_one (g : Vl → Sto → R Vl) (u : Vl) (S : Sto) : f1 g [u] S = g u S := rfl
@[simp] theorem f2_two (g : Vl → Vl → Sto → R Vl) (u v : Vl) (S : Sto) : f2 g [u, v] S = g u v S := rfl
@[simp] theorem fMin_one (u : Vl) (S : Sto) : fMin [u] S = minV u S := rfl
@[simp] theorem fMin_two (u v : Vl) (S : Sto) : fMin [u, v] S = min2V u v S := rfl
@[simp] theorem fMax_one (u : Vl) (S : Sto) : fMax [u] S = maxV u S := rfl
@[simp] theorem fMax_two (u v : Vl) (S : Sto) : fMax [u, v] S = max2V u v S := rfl
/-- a list's method -/
def mML (op : Vl → List Vl → Sto → R Vl) (a : M) (as : List M) : M := fun e S => (a e S).bind fun u S1 => match asL S1 u with
  | some _ => (mArgs as e S1).bind fun vs S2 => op u vs S2
  | none => .bad
/-- a text's method -/
def mMS (op : Vl → List Vl → Sto → R Vl) (a : M) (as : List M) : M := fun e S => (a e S).bind fun u S1 => match u with
  | .p (.str z) => (mArgs as e S1).bind fun vs S2 => op (.p (.str z)) vs S2
  | _ => .bad
def oApp (u : Vl) (vs : List Vl) (S : Sto) : R Vl := match vs with
  | [v] => appV u v S
  | _ => .bad
@[simp] theorem oApp_one (u v : Vl) (S : Sto) : oApp u [v] S = appV u v S := rfl
def setIx (xs : List Vl) (i : Int) (v : Vl) : Option (List Vl) := (ixN xs.length i).map fun j => xs.set j v
/-- o[i] = v of a list that may change -/
def setV (o i v : Vl) (S : Sto) : R Vl := match o, i with
  | .r k, .p (.int j) => (match entL S k with
    | some xs => (match setIx xs j v with
      | some ys => .ok (.p .none) (S.set k (.lst ys))
      | none => .bad)
    | none => .bad)
  | _, _ => .bad
/-- o[i] = a : the value, then o, then i -/
def sSub (o i a : M) : MS := fun e S => ofR e (a e S) fun v S1 => ofR e (o e S1) fun u S2 => ofR e (i e S2) fun k S3 => ofR e (setV u k v S3) fun _ S4 => .nx e S4
open Classical in
/-- while: as long as the turns end; a loop that does not is bad -/
def wStep (c : M) (b : MS) : Nat → MS
  | 0, _, _ => .bad
  | n + 1, e, S => ofR e (c e S) fun v S1 => onO v (match b e S1 with
      | .nx e2 S2 => wStep c b n e2 S2
      | .ct e2 S2 => wStep c b n e2 S2
      | .bk e2 S2 => .nx e2 S2
      | .rt w S2 => .rt w S2
      | .ex k n e2 S2 => .ex k n e2 S2
      | .bad => .bad) (.nx e S1)
open Classical in
noncomputable def sWhile (c : M) (b : MS) : MS := fun e S => if h : ∃ n, wStep c b n e S ≠ .bad then wStep c b (Classical.choose h) e S else .bad
theorem wStep_up {c : M} {b : MS} : ∀ {n : Nat} {e : Env} {S : Sto} {o : O}, wStep c b n e S = o → o ≠ .bad → wStep c b (n + 1) e S = o
  | 0, e, S, o, h, hb => absurd h.symm hb
  | n + 1, e, S, o, h, hb => by
    unfold wStep at h ⊢
    cases hc : c e S with
    | ok v S1 =>
      rw [hc] at h
      rw [ofR_ok] at h ⊢
      cases v with
      | p d =>
        cases d with
        | bool k =>
          cases k with
          | false => exact h
          | true =>
            rw [onO_true] at h ⊢
            cases hbd : b e S1 with
            | nx e2 S2 => rw [hbd] at h; exact wStep_up h hb
            | ct e2 S2 => rw [hbd] at h; exact wStep_up h hb
            | bk e2 S2 => rw [hbd] at h; exact h
            | rt w S2 => rw [hbd] at h; exact h
            | ex k2 n2 e2 S2 => rw [hbd] at h; exact h
            | bad => rw [hbd] at h; exact h
        | _ => exact h
      | _ => exact h
    | exc k n2 S1 => rw [hc] at h; exact h
    | bad => rw [hc] at h; exact h
theorem wStep_le {c : M} {b : MS} {n m : Nat} {e : Env} {S : Sto} {o : O} (h : wStep c b n e S = o) (hb : o ≠ .bad) (hl : n ≤ m) : wStep c b m e S = o := by
  induction hl with
  | refl => exact h
  | step _ ih => exact wStep_up ih hb
theorem sWhile_eq {c : M} {b : MS} {n : Nat} {e : Env} {S : Sto} {o : O} (h : wStep c b n e S = o) (hb : o ≠ .bad) : sWhile c b e S = o := by
  have hx : ∃ n, wStep c b n e S ≠ .bad := ⟨n, by rw [h]; exact hb⟩
  unfold sWhile
  rw [dif_pos hx]
  have z := Classical.choose_spec hx
  rcases Nat.le_total n (Classical.choose hx) with l | l
  · exact wStep_le h hb l
  · have q := wStep_le (o := wStep c b (Classical.choose hx) e S) rfl z l
    rw [← h, ← q]
/-- one turn -/
theorem sWhile_step {c : M} {b : MS} {e : Env} {S : Sto} : sWhile c b e S = ofR e (c e S) fun v S1 => onO v (match b e S1 with
      | .nx e2 S2 => sWhile c b e2 S2
      | .ct e2 S2 => sWhile c b e2 S2
      | .bk e2 S2 => .nx e2 S2
      | .rt w S2 => .rt w S2
      | .ex k n e2 S2 => .ex k n e2 S2
      | .bad => .bad) (.nx e S1) := by
  have go : ∀ o : O, o ≠ .bad → (∃ n, wStep c b n e S = o) → sWhile c b e S = o := fun o hb ⟨n, h⟩ => sWhile_eq h hb
  have st : ∀ n, wStep c b (n + 1) e S = ofR e (c e S) fun v S1 => onO v (match b e S1 with
      | .nx e2 S2 => wStep c b n e2 S2
      | .ct e2 S2 => wStep c b n e2 S2
      | .bk e2 S2 => .nx e2 S2
      | .rt w S2 => .rt w S2
      | .ex k n e2 S2 => .ex k n e2 S2
      | .bad => .bad) (.nx e S1) := fun n => by rw [wStep]
  have off : (∀ n, wStep c b n e S = .bad) → sWhile c b e S = .bad := fun h => by
    unfold sWhile
    rw [dif_neg (fun ⟨n, z⟩ => z (h n))]
  have off0 : (∀ n, wStep c b (n + 1) e S = .bad) → sWhile c b e S = .bad := fun h => off fun n => by
    cases n with
    | zero => rw [wStep]
    | succ n => exact h n
  cases hc : c e S with
  | exc k n S1 => exact go _ (fun q => by cases q) ⟨1, by rw [st, hc] <;> rfl⟩
  | bad => exact off0 fun n => by rw [st, hc] <;> rfl
  | ok v S1 =>
    rw [ofR_ok]
    cases v with
    | p d =>
      cases d with
      | bool k =>
        cases k with
        | false => exact go _ (fun q => by cases q) ⟨1, by rw [st, hc] <;> rfl⟩
        | true =>
          rw [onO_true]
          have st2 : ∀ n, wStep c b (n + 1) e S = (match b e S1 with
            | .nx e2 S2 => wStep c b n e2 S2
            | .ct e2 S2 => wStep c b n e2 S2
            | .bk e2 S2 => .nx e2 S2
            | .rt w S2 => .rt w S2
            | .ex k n e2 S2 => .ex k n e2 S2
            | .bad => .bad) := fun n => by rw [st, hc] <;> rfl
          have again : ∀ e2 S2, (∀ n, wStep c b (n + 1) e S = wStep c b n e2 S2) → sWhile c b e S = sWhile c b e2 S2 := fun e2 S2 h => by
            by_cases hx : ∃ n, wStep c b n e2 S2 ≠ .bad
            · obtain ⟨n, hn⟩ := hx
              rw [sWhile_eq (o := wStep c b n e2 S2) rfl hn]
              exact go _ hn ⟨n + 1, h n⟩
            · have hb : ∀ n, wStep c b n e2 S2 = .bad := fun n => Classical.byContradiction fun z => hx ⟨n, z⟩
              rw [off0 fun n => by rw [h, hb]]
              unfold sWhile
              rw [dif_neg hx]
          cases hbd : b e S1 with
          | nx e2 S2 => exact again e2 S2 fun n => by rw [st2, hbd]
          | ct e2 S2 => exact again e2 S2 fun n => by rw [st2, hbd]
          | bk e2 S2 => exact go _ (fun q => by cases q) ⟨1, by rw [st2, hbd]⟩
          | rt w S2 => exact go _ (fun q => by cases q) ⟨1, by rw [st2, hbd]⟩
          | ex k2 n2 e2 S2 => exact go _ (fun q => by cases q) ⟨1, by rw [st2, hbd]⟩
          | bad => exact off0 fun n => by rw [st2, hbd]
      | _ => exact off0 fun n => by rw [st, hc] <;> rfl
    | _ => exact off0 fun n => by rw [st, hc] <;> rfl
def augI (k : Int → Int → Int) (u v : Vl) (S : Sto) : R Vl := match u, v with
  | .p (.int i), .p (.int j) => .ok (.p (.int (k i j))) S
  | _, _ => .bad
/-- a, b = x, y of two plain local names -/
def sPar (i j : Nat) (a b : M) : MS := fun e S => ofR e (a e S) fun u S1 => ofR e (b e S1) fun v S2 => .nx ((e.set i (some u)).set j (some v)) S2
/-- try: b, except C as slot i: h; sub: which classes C takes -/
def sTry (i : Nat) (sub : Nat → Option Bool) (b h : MS) : MS := fun e S => match b e S with
  | .nx e1 S1 => .nx e1 S1
  | .rt v S1 => .rt v S1
  | .bk e1 S1 => .bk e1 S1
  | .ct e1 S1 => .ct e1 S1
  | .bad => .bad
  | .ex k n e1 S1 => (match sub k with
    | some true => (match h (e1.set i (some (.x k n))) S1 with
      | .nx e2 S2 => .nx (e2.set i none) S2
      | .rt v S2 => .rt v S2
      | .bk e2 S2 => .bk (e2.set i none) S2
      | .ct e2 S2 => .ct (e2.set i none) S2
      | _ => .bad)
    | some false => .ex k n e1 S1
    | none => .bad)
/-- isinstance of a caught exception -/
def isxV (sub : Nat → Option Bool) (u : Vl) (S : Sto) : R Vl := match u with
  | .x k _ => (match sub k with
    | some b => .ok (.p (.bool b)) S
    | none => .bad)
  | _ => .bad
/-- a short table -/
def lk (l : List (Nat × Bool)) (k : Nat) : Option Bool := l.lookup k
/-- x is None, x is not None -/
def isV (neg : Bool) (u v : Vl) (S : Sto) : R Vl := match v with
  | .p .none => .ok (.p (.bool (if neg then !isNone u else isNone u))) S
  | _ => .bad
/-- names that nobody asks for any more are forgotten -/
def O.kl (ks : List Nat) : O → O
  | .nx e S => .nx (wipeE e ks) S
  | .bk e S => .bk (wipeE e ks) S
  | .ct e S => .ct (wipeE e ks) S
  | .rt v S => .rt v S
  | .ex c n e S => .ex c n e S
  | .bad => .bad
def sKl (ks : List Nat) (b : MS) : MS := fun e S => (b e S).kl ks
def sEk (ks : List Nat) (b : MS) : MS := fun e S => b (wipeE e ks) S
/-! ### more methods and built-in functions -/
def Fits63 (k : Int) : Prop := -(2 ^ 63) ≤ k ∧ k < 2 ^ 63
noncomputable instance (k : Int) : Decidable (Fits63 k) := Classical.propDecidable _
def dvmV (u v : Vl) (S : Sto) : R Vl := match u, v with
  | .p (.int i), .p (.int j) => if 0 < j ∧ j < 1073741824 then .ok (.p (.tuple [.int (i / j), .int (i % j)])) S else .bad
  | _, _ => .bad
def ordV (u : Vl) (S : Sto) : R Vl := match u with
  | .p (.str a) => if a.length = 1 then .ok (.p (.int (a.cps.getD 0 0 : Nat))) S else .bad
  | _ => .bad
def strsOf : List D → Option (List Str)
  | [] => some []
  | .str i :: r => (strsOf r).map (i :: ·)
  | _ :: _ => none
@[simp] theorem strsOf_nil : strsOf [] = some [] := rfl
@[simp] theorem strsOf_cons (i : Str) (r : List D) : strsOf (.str i :: r) = (strsOf r).map (i :: ·) := rfl
@[simp] theorem strsOf_map (is : List Str) : strsOf (is.map PyData.str) = some is := by
  induction is with
  | nil => rfl
  | cons d r ih => rw [List.map_cons, strsOf_cons, ih] <;> rfl
@[simp] theorem strsOf_map' {α : Type} (f : α → Str) (xs : List α) : strsOf (xs.map fun a => PyData.str (f a)) = some (xs.map f) := by
  induction xs with
  | nil => rfl
  | cons d r ih => rw [List.map_cons, strsOf_cons, ih] <;> rfl
theorem strsOf_some : ∀ {ds : List D} {is : List Str}, strsOf ds = some is → ds = is.map PyData.str
  | [], _, h => by cases h; rfl
  | .str i :: r, is, h => by
    rw [strsOf_cons] at h
    cases q : strsOf r with
    | none => rw [q] at h; cases h
    | some es =>
      rw [q] at h
      cases h
      rw [List.map_cons, ← strsOf_some q]
  | .none :: _, _, h => by cases h
  | .bool _ :: _, _, h => by cases h
  | .int _ :: _, _, h => by cases h
  | .list _ :: _, _, h => by cases h
  | .tuple _ :: _, _, h => by cases h
  | .dict _ :: _, _, h => by cases h
def strsV (S : Sto) (u : Vl) : Option (List Str) := match asQ S u with
  | some vs => (match pures vs with
    | some ds => strsOf ds
    | none => none)
  | none => none
def oJoin (u : Vl) (vs : List Vl) (S : Sto) : R Vl := match u, vs with
  | .p (.str a), [w] => (match strsV S w with
    | some ys => if (ys.map (·.length)).sum + ys.length * a.length ≤ 16777216 then .ok (.p (.str (PySem.Txt.join a ys))) S else .bad
    | none => .bad)
  | _, _ => .bad
def oSplit (u : Vl) (vs : List Vl) (S : Sto) : R Vl := match u, vs with
  | .p (.str a), [.p (.str b)] => if b.length ≠ 0 ∧ a.length + 2 ≤ sizeLine then lstF ((PySem.Txt.split a b).map fun x => .p (.str x)) S else .bad
  | _, _ => .bad
def oPart (u : Vl) (vs : List Vl) (S : Sto) : R Vl := match u, vs with
  | .p (.str a), [.p (.str b)] => if b.length ≠ 0 ∧ a.length ≤ sizeLine then .ok (mkTup [.p (.str (PySem.Txt.partition a b).1), .p (.str (PySem.Txt.partition a b).2.1), .p (.str (PySem.Txt.partition a b).2.2)]) S else .bad
  | _, _ => .bad
def oStarts (u : Vl) (vs : List Vl) (S : Sto) : R Vl := match u, vs with
  | .p (.str a), [.p (.str b)] => .ok (.p (.bool (PySem.Txt.startswith a b))) S
  | _, _ => .bad
def oCount (u : Vl) (vs : List Vl) (S : Sto) : R Vl := match u, vs with
  | .p (.str a), [.p (.str b)] => .ok (.p (.int (PySem.Txt.count a b))) S
  | _, _ => .bad
def oIndex (u : Vl) (vs : List Vl) (S : Sto) : R Vl := match u, vs with
  | .p (.str a), [.p (.str b)] => (match Builtin.Str.occurrences a b 0 a.length 1 with
    | i :: _ => .ok (.p (.int (i : Nat))) S
    | [] => .bad)
  | _, _ => .bad
def oExt (u : Vl) (vs : List Vl) (S : Sto) : R Vl := match u, vs with
  | .r i, [.r j] => (match entL S i with
    | some xs => (match entL S j with
      | some ys => if xs.length + ys.length ≤ sizeLine then .ok (.p .none) (S.set i (.lst (xs ++ ys))) else .bad
      | none => .bad)
    | none => .bad)
  | _, _ => .bad
def oClear (u : Vl) (vs : List Vl) (S : Sto) : R Vl := match u, vs with
  | .r i, [] => (match entL S i with
    | some _ => .ok (.p .none) (S.set i (.lst []))
    | none => .bad)
  | _, _ => .bad
def oRev (u : Vl) (vs : List Vl) (S : Sto) : R Vl := match u, vs with
  | .r i, [] => (match entL S i with
    | some xs => .ok (.p .none) (S.set i (.lst xs.reverse))
    | none => .bad)
  | _, _ => .bad
def oPop (u : Vl) (vs : List Vl) (S : Sto) : R Vl := match u, vs with
  | .r i, [.p (.int j)] => (match entL S i with
    | some xs => (match seqIndex? j xs.length with
      | some k => (match xs[k]? with
        | some y => if Fits63 j then .ok y (S.set i (.lst (xs.eraseIdx k))) else .bad
        | none => .bad)
      | none => .bad)
    | none => .bad)
  | _, _ => .bad
def oRem (u : Vl) (vs : List Vl) (S : Sto) : R Vl := match u, vs with
  | .r i, [.p (.int k)] => (match intsV S (.r i) with
    | some ns => (match ns.findIdx? (· == k) with
      | some j => .ok (.p .none) (S.set i (.lst ((ns.eraseIdx j).map fun n => .p (.int n))))
      | none => .bad)
    | none => .bad)
  | _, _ => .bad
def oIns (u : Vl) (vs : List Vl) (S : Sto) : R Vl := match u, vs with
  | .r i, [.p (.int j), w] => (match entL S i with
    | some xs => if xs.length < sizeLine ∧ 0 ≤ j ∧ Fits63 j then .ok (.p .none) (S.set i (.lst (xs.take j.toNat ++ [w] ++ xs.drop j.toNat))) else .bad
    | none => .bad)
  | _, _ => .bad
def tupOf (u : Vl) (S : Sto) : R Vl := match asL S u with
  | some vs => if vs.length ≤ sizeLine then .ok (mkTup vs) S else .bad
  | none => .bad
/-- l * n of a list of a place: a new list -/
def repL (u v : Vl) (S : Sto) : R Vl := match u, v with
  | .r i, .p (.int k) => (match entL S i with
    | some xs => if Fits63 k then lstF (List.replicate k.toNat xs).flatten S else .bad
    | none => .bad)
  | _, _ => .bad
/-- a def handed on -/
def mFn (k : Nat) : M := fun _ S => .ok (.f k) S
/-- a call of a name that holds one of some defs (their numbers of parameters beside) -/
def mCallF (i : Nat) (tab : List (Nat × Nat × Fn)) (as : List M) : M := fun e S => match e[i]? with
  | some (some (.f k)) => (match tab.lookup k with
    | some (np, F) => if as.length = np then (mArgs as e S).bind F else .bad
    | none => .bad)
  | _ => .bad
/-! ### objects -/
def putV (f : Str) (v : Vl) : List (Str × Vl) → List (Str × Vl)
  | [] => [(f, v)]
  | (g, x) :: r => if g = f then (g, v) :: r else (g, x) :: putV f v r
/-- the object of a place: its class, its fields -/
def objAt (S : Sto) : Vl → Option (Nat × Nat × List (Str × Vl))
  | .r i => (match S[i]? with
    | some (.obj c fs) => some (i, c, fs)
    | _ => none)
  | _ => none
def mAttr (cs : List Nat) (f : Str) (o : M) : M := fun e S => (o e S).bind fun u S1 => match objAt S1 u with
  | some (_, c, fs) => if c ∈ cs then (match fs.lookup f with
    | some v => .ok v S1
    | none => .bad) else .bad
  | none => .bad
def sAttr (cs : List Nat) (f : Str) (o a : M) : MS := fun e S => ofR e (a e S) fun v S1 => ofR e (o e S1) fun u S2 => match objAt S2 u with
  | some (i, c, fs) => if c ∈ cs ∧ fs.length < 1000 then .nx e (S2.set i (.obj c (putV f v fs))) else .bad
  | none => .bad
def sAttrAug (cs : List Nat) (f : Str) (k : Int → Int → Int) (o a : M) : MS := fun e S => ofR e (o e S) fun u S1 => match objAt S1 u with
  | some (i, c, fs) => if c ∈ cs then (match fs.lookup f with
    | some x => ofR e (a e S1) fun y S2 => ofR e (augI k x y S2) fun z S3 => (match objAt S3 (.r i) with
      | some (_, c2, fs2) => if c2 = c ∧ fs2.length < 1000 then .nx e (S3.set i (.obj c (putV f z fs2))) else .bad
      | none => .bad)
    | none => .bad) else .bad
  | none => .bad
def mMake (c : Nat) (F : Fn) (as : List M) : M := fun e S => (mArgs as e S).bind fun vs S1 => match F (.r S1.length :: vs) (S1 ++ [.obj c []]) with
  | .ok (.p .none) S2 => .ok (.r S1.length) S2
  | _ => .bad
def mMeth (m : Str) (tab : List (Nat × Nat × Fn)) (o : M) (as : List M) : M := fun e S => (o e S).bind fun u S1 => match objAt S1 u with
  | some (i, c, fs) => (match tab.lookup c with
    | some (np, F) => if as.length + 1 = np ∧ fs.lookup m = none then (mArgs as e S1).bind fun vs S2 => F (.r i :: vs) S2 else .bad
    | none => .bad)
  | none => .bad
end
end PV

/-! What is said of the store and the values by the abstract heap. -/
namespace PV
open PySem L2

/-- a list that changes no more -/
def FzL (K : PySem.W.Frag) (H : Hp) (a : Addr) (xs : List V) : Prop :=
  (∃ o, H a = some (.frz o (.lst xs))) ∨
    ∃ (o : Obj) (its : Array Value) (n : Nat), K.lookup a = some o ∧ o.cls = .type "list" ∧ o.dict = none ∧ o.data = .seq its n ∧ its.size ≤ sizeLine ∧ Vals xs its.toList
theorem FzL.sq {K : PySem.W.Frag} {H : Hp} {a : Addr} {xs : List V} (h : FzL K H a xs) : SqL K H a xs := h.elim (fun z => .inl (.inr z)) .inr
mutual
def RepD (K : PySem.W.Frag) (H : Hp) : PyData → V → Prop
  | .none, v => v = .non
  | .bool b, v => v = .bl b
  | .int i, v => v = .int i
  | .str s, v => v = .str s
  | .list ds, v => ∃ a xs, v = .ref a ∧ FzL K H a xs ∧ RepDs K H ds xs
  | .tuple ds, v => ∃ a xs, v = .ref a ∧ SqT K H a xs ∧ RepDs K H ds xs
  | .dict _, _ => False
def RepDs (K : PySem.W.Frag) (H : Hp) : List PyData → List V → Prop
  | [], xs => xs = []
  | d :: ds, xs => ∃ x r, xs = x :: r ∧ RepD K H d x ∧ RepDs K H ds r
end
@[simp] theorem repD_none {K : PySem.W.Frag} {H : Hp} {v : V} : RepD K H .none v ↔ v = .non := by simp [RepD]
@[simp] theorem repD_bool {K : PySem.W.Frag} {H : Hp} {v : V} {b : Bool} : RepD K H (.bool b) v ↔ v = .bl b := by simp [RepD]
@[simp] theorem repD_int {K : PySem.W.Frag} {H : Hp} {v : V} {i : Int} : RepD K H (.int i) v ↔ v = .int i := by simp [RepD]
@[simp] theorem repD_str {K : PySem.W.Frag} {H : Hp} {v : V} {s : Str} : RepD K H (.str s) v ↔ v = .str s := by simp [RepD]
theorem repD_list {K : PySem.W.Frag} {H : Hp} {v : V} {ds : List D} : RepD K H (.list ds) v ↔ ∃ a xs, v = .ref a ∧ FzL K H a xs ∧ RepDs K H ds xs := by simp [RepD]
theorem repD_tuple {K : PySem.W.Frag} {H : Hp} {v : V} {ds : List D} : RepD K H (.tuple ds) v ↔ ∃ a xs, v = .ref a ∧ SqT K H a xs ∧ RepDs K H ds xs := by simp [RepD]
theorem repD_dict {K : PySem.W.Frag} {H : Hp} {v : V} {ds : List (D × D)} : ¬ RepD K H (.dict ds) v := by simp [RepD]
theorem repDs_nil {K : PySem.W.Frag} {H : Hp} {xs : List V} : RepDs K H [] xs ↔ xs = [] := by simp [RepDs]
theorem repDs_cons {K : PySem.W.Frag} {H : Hp} {d : D} {ds : List D} {xs : List V} : RepDs K H (d :: ds) xs ↔ ∃ x r, xs = x :: r ∧ RepD K H d x ∧ RepDs K H ds r := by simp [RepDs]

/-- what a caught exception is, as a thing that stands -/
abbrev ExAt (H : Hp) (a C : Addr) (d : Option Addr) : Prop := H a = some (.ext fun h => ∃ (oe : Obj) (vs : Array Value), h.get? a = some oe ∧ Zc (.ref C) d oe ∧ oe.data = .fields vs)
/-- an exception's own dict -/
def ExD (H : Hp) (n : Option Int) (d : Option Addr) : Prop := match n with
  | none => d = none
  | some k => ∃ a, d = some a ∧ H a = some (.xd [(("number" : Str), .int k)])
mutual
def RepW (K : PySem.W.Frag) (cA : Nat → Addr) (f : Nat → Option Addr) (H : Hp) : Vl → V → Prop
  | .p d, v => RepD K H d v
  | .r i, v => ∃ a, v = .ref a ∧ f i = some a
  | .t ws, v => ∃ a xs, v = .ref a ∧ SqT K H a xs ∧ RepWs K cA f H ws xs
  | .x c n, v => ∃ a d, v = .ref a ∧ ExAt H a (cA c) d ∧ ExD H n d
  | .f k, v => v = .ref (cA (100 + k))
  | .dc kvs, v => ∃ a o ys, v = .ref a ∧ H a = some (.frz o (.dK ys)) ∧ ys.map (·.1) = kvs.map (·.1) ∧ RepDs K H (kvs.map (·.2)) (ys.map (·.2))
def RepWs (K : PySem.W.Frag) (cA : Nat → Addr) (f : Nat → Option Addr) (H : Hp) : List Vl → List V → Prop
  | [], xs => xs = []
  | w :: ws, xs => ∃ x r, xs = x :: r ∧ RepW K cA f H w x ∧ RepWs K cA f H ws r
end
section
variable {K : PySem.W.Frag} {cA : Nat → Addr} {f g : Nat → Option Addr} {H H1 H2 : Hp}
@[simp] theorem repW_p {d : D} {v : V} : RepW K cA f H (.p d) v ↔ RepD K H d v := by simp [RepW]
theorem repW_r {i : Nat} {v : V} : RepW K cA f H (.r i) v ↔ ∃ a, v = .ref a ∧ f i = some a := by simp [RepW]
theorem repW_t {ws : List Vl} {v : V} : RepW K cA f H (.t ws) v ↔ ∃ a xs, v = .ref a ∧ SqT K H a xs ∧ RepWs K cA f H ws xs := by simp [RepW]
theorem repW_x {c : Nat} {n : Option Int} {v : V} : RepW K cA f H (.x c n) v ↔ ∃ a d, v = .ref a ∧ ExAt H a (cA c) d ∧ ExD H n d := by simp [RepW]
theorem repW_f {k : Nat} {v : V} : RepW K cA f H (.f k) v ↔ v = .ref (cA (100 + k)) := by simp [RepW]
theorem repW_dc {kvs : List (Key × D)} {v : V} : RepW K cA f H (.dc kvs) v ↔ ∃ a o ys, v = .ref a ∧ H a = some (.frz o (.dK ys)) ∧ ys.map (·.1) = kvs.map (·.1) ∧ RepDs K H (kvs.map (·.2)) (ys.map (·.2)) := by simp [RepW]
theorem repWs_nil {xs : List V} : RepWs K cA f H [] xs ↔ xs = [] := by simp [RepWs]
theorem repWs_cons {w : Vl} {ws : List Vl} {xs : List V} : RepWs K cA f H (w :: ws) xs ↔ ∃ x r, xs = x :: r ∧ RepW K cA f H w x ∧ RepWs K cA f H ws r := by simp [RepWs]

/-- what never changes -/
def Stab : HO → Prop
  | .tup _ => True
  | .frz _ _ => True
  | .ext _ => True
  | .xd _ => True
  | _ => False
/-- what never changes stands, places stay -/
structure Mx (f : Nat → Option Addr) (H : Hp) (g : Nat → Option Addr) (H1 : Hp) : Prop where
  up : ∀ i a, f i = some a → g i = some a
  st : ∀ a o, H a = some o → Stab o → H1 a = some o
/-- the heap goes on: what never changes stands, and whatever is no place of the store; new places are new -/
structure Ext (f : Nat → Option Addr) (H : Hp) (g : Nat → Option Addr) (H1 : Hp) : Prop extends Mx f H g H1 where
  fr : ∀ a o, H a = some o → (∀ i, f i ≠ some a) → H1 a = some o
  nw : ∀ i a, g i = some a → f i = some a ∨ H a = none
  th : ∀ a o, H a = some o → ∃ o', H1 a = some o'
theorem Ext.refl : Ext f H f H := ⟨⟨fun _ _ e => e, fun _ _ e _ => e⟩, fun _ _ e _ => e, fun _ _ e => .inl e, fun _ o e => ⟨o, e⟩⟩
theorem Ext.trans {h : Nat → Option Addr} (a : Ext f H g H1) (b : Ext g H1 h H2) : Ext f H h H2 where
  up := fun i x e => b.up i x (a.up i x e)
  st := fun x o e s => b.st x o (a.st x o e s) s
  fr := fun x o e n => b.fr x o (a.fr x o e n) fun i q => by
    rcases a.nw i x q with z | z
    · exact n i z
    · rw [z] at e
      cases e
  nw := fun i x e => by
    rcases b.nw i x e with q | z
    · exact a.nw i x q
    · refine .inr ?_
      cases q : H x with
      | none => rfl
      | some o =>
        obtain ⟨o', e'⟩ := a.th x o q
        rw [e'] at z
        cases z
  th := fun x o e => by
    obtain ⟨o', e'⟩ := a.th x o e
    exact b.th x o' e'
theorem Mx.rd (a : Mx f H g H1) {x : Addr} {xs : List V} (h : Rd H x (.tup xs)) : Rd H1 x (.tup xs) := by
  rcases h with h | ⟨o, h⟩
  · exact .inl (a.st x _ h trivial)
  · exact .inr ⟨o, a.st x _ h trivial⟩
theorem Mx.sqT (a : Mx f H g H1) {x : Addr} {xs : List V} (h : SqT K H x xs) : SqT K H1 x xs := h.elim (fun z => .inl (a.rd z)) .inr
theorem Mx.fzL (a : Mx f H g H1) {x : Addr} {xs : List V} (h : FzL K H x xs) : FzL K H1 x xs := h.elim (fun ⟨o, z⟩ => .inl ⟨o, a.st x _ z trivial⟩) .inr
mutual
theorem Mx.repD (a : Mx f H g H1) : ∀ {d : D} {v : V}, RepD K H d v → RepD K H1 d v
  | .none, v, h => by simpa using h
  | .bool _, v, h => by simpa using h
  | .int _, v, h => by simpa using h
  | .str _, v, h => by simpa using h
  | .list ds, v, h => by
    obtain ⟨x, xs, e, l, r⟩ := repD_list.mp h
    exact repD_list.mpr ⟨x, xs, e, a.fzL l, Mx.repDs a r⟩
  | .tuple ds, v, h => by
    obtain ⟨x, xs, e, l, r⟩ := repD_tuple.mp h
    exact repD_tuple.mpr ⟨x, xs, e, a.sqT l, Mx.repDs a r⟩
  | .dict _, v, h => absurd h repD_dict
theorem Mx.repDs (a : Mx f H g H1) : ∀ {ds : List D} {xs : List V}, RepDs K H ds xs → RepDs K H1 ds xs
  | [], xs, h => by simpa [repDs_nil] using h
  | d :: ds, xs, h => by
    obtain ⟨x, r, e, h1, h2⟩ := repDs_cons.mp h
    exact repDs_cons.mpr ⟨x, r, e, Mx.repD a h1, Mx.repDs a h2⟩
end
theorem Mx.exD (a : Mx f H g H1) {n : Option Int} {d : Option Addr} (h : ExD H n d) : ExD H1 n d := by
  cases n with
  | none => exact h
  | some k =>
    obtain ⟨x, e, z⟩ := h
    exact ⟨x, e, a.st x _ z trivial⟩
mutual
theorem Mx.repW (a : Mx f H g H1) : ∀ {w : Vl} {v : V}, RepW K cA f H w v → RepW K cA g H1 w v
  | .p d, v, h => repW_p.mpr (a.repD (repW_p.mp h))
  | .r i, v, h => by
    obtain ⟨x, e, z⟩ := repW_r.mp h
    exact repW_r.mpr ⟨x, e, a.up i x z⟩
  | .t ws, v, h => by
    obtain ⟨x, xs, e, l, r⟩ := repW_t.mp h
    exact repW_t.mpr ⟨x, xs, e, a.sqT l, Mx.repWs a r⟩
  | .x c n, v, h => by
    obtain ⟨x, d, e, l, r⟩ := repW_x.mp h
    exact repW_x.mpr ⟨x, d, e, a.st x _ l trivial, a.exD r⟩
  | .f k, v, h => repW_f.mpr (repW_f.mp h)
  | .dc kvs, v, h => by
    obtain ⟨x, o, ys, e, h1, h2, h3⟩ := repW_dc.mp h
    exact repW_dc.mpr ⟨x, o, ys, e, a.st x _ h1 trivial, h2, a.repDs h3⟩
theorem Mx.repWs (a : Mx f H g H1) : ∀ {ws : List Vl} {xs : List V}, RepWs K cA f H ws xs → RepWs K cA g H1 ws xs
  | [], xs, h => by simpa [repWs_nil] using h
  | d :: ds, xs, h => by
    obtain ⟨x, r, e, h1, h2⟩ := repWs_cons.mp h
    exact repWs_cons.mpr ⟨x, r, e, Mx.repW a h1, Mx.repWs a h2⟩
end
theorem repDs_len : ∀ {ds : List D} {xs : List V}, RepDs K H ds xs → xs.length = ds.length
  | [], xs, h => by rw [repDs_nil.mp h] <;> rfl
  | d :: ds, xs, h => by
    obtain ⟨x, r, rfl, _, h2⟩ := repDs_cons.mp h
    rw [List.length_cons, List.length_cons, repDs_len h2]
theorem repWs_len : ∀ {ds : List Vl} {xs : List V}, RepWs K cA f H ds xs → xs.length = ds.length
  | [], xs, h => by rw [repWs_nil.mp h] <;> rfl
  | d :: ds, xs, h => by
    obtain ⟨x, r, rfl, _, h2⟩ := repWs_cons.mp h
    rw [List.length_cons, List.length_cons, repWs_len h2]
theorem repWs_get : ∀ {ds : List Vl} {xs : List V} {i : Nat} {w : Vl}, RepWs K cA f H ds xs → ds[i]? = some w → ∃ x, xs[i]? = some x ∧ RepW K cA f H w x
  | [], xs, i, w, _, e => by simp at e
  | d :: ds, xs, 0, w, h, e => by
    obtain ⟨x, r, rfl, h1, _⟩ := repWs_cons.mp h
    cases (show some d = some w from e)
    exact ⟨x, rfl, h1⟩
  | d :: ds, xs, i + 1, w, h, e => by
    obtain ⟨x, r, rfl, _, h2⟩ := repWs_cons.mp h
    exact repWs_get (i := i) h2 e
theorem repWs_append : ∀ {ds es : List Vl} {xs ys : List V}, RepWs K cA f H ds xs → RepWs K cA f H es ys → RepWs K cA f H (ds ++ es) (xs ++ ys)
  | [], es, xs, ys, h, k => by rw [repWs_nil.mp h]; exact k
  | d :: ds, es, xs, ys, h, k => by
    obtain ⟨x, r, rfl, h1, h2⟩ := repWs_cons.mp h
    exact repWs_cons.mpr ⟨x, r ++ ys, rfl, h1, repWs_append h2 k⟩
theorem repWs_take : ∀ {ds : List Vl} {xs : List V} (n : Nat), RepWs K cA f H ds xs → RepWs K cA f H (ds.take n) (xs.take n)
  | ds, xs, 0, h => by rw [List.take_zero, List.take_zero]; exact repWs_nil.mpr rfl
  | [], xs, n + 1, h => by rw [repWs_nil.mp h]; exact repWs_nil.mpr rfl
  | d :: ds, xs, n + 1, h => by
    obtain ⟨x, r, rfl, h1, h2⟩ := repWs_cons.mp h
    exact repWs_cons.mpr ⟨x, r.take n, rfl, h1, repWs_take n h2⟩
theorem repWs_drop : ∀ {ds : List Vl} {xs : List V} (n : Nat), RepWs K cA f H ds xs → RepWs K cA f H (ds.drop n) (xs.drop n)
  | ds, xs, 0, h => h
  | [], xs, n + 1, h => by rw [repWs_nil.mp h]; exact repWs_nil.mpr rfl
  | d :: ds, xs, n + 1, h => by
    obtain ⟨x, r, rfl, h1, h2⟩ := repWs_cons.mp h
    exact repWs_drop n h2
theorem repWs_set : ∀ {ds : List Vl} {xs : List V} {w : Vl} {y : V} (n : Nat), RepWs K cA f H ds xs → RepW K cA f H w y → RepWs K cA f H (ds.set n w) (xs.set n y)
  | [], xs, w, y, n, h, _ => by rw [repWs_nil.mp h]; exact repWs_nil.mpr rfl
  | d :: ds, xs, w, y, 0, h, k => by
    obtain ⟨x, r, rfl, h1, h2⟩ := repWs_cons.mp h
    exact repWs_cons.mpr ⟨y, r, rfl, k, h2⟩
  | d :: ds, xs, w, y, n + 1, h, k => by
    obtain ⟨x, r, rfl, h1, h2⟩ := repWs_cons.mp h
    exact repWs_cons.mpr ⟨x, r.set n y, rfl, h1, repWs_set n h2 k⟩
theorem repWs_map : ∀ {ds : List D} {xs : List V}, RepWs K cA f H (ds.map Vl.p) xs ↔ RepDs K H ds xs
  | [], xs => by rw [List.map_nil, repWs_nil, repDs_nil]
  | d :: ds, xs => by
    rw [List.map_cons, repWs_cons, repDs_cons]
    constructor
    · rintro ⟨x, r, e, h1, h2⟩
      exact ⟨x, r, e, repW_p.mp h1, repWs_map.mp h2⟩
    · rintro ⟨x, r, e, h1, h2⟩
      exact ⟨x, r, e, repW_p.mpr h1, repWs_map.mpr h2⟩
theorem repWs_pures {ws : List Vl} {ds : List D} {xs : List V} (h : RepWs K cA f H ws xs) (e : pures ws = some ds) : RepDs K H ds xs := by
  rw [pures_some e] at h
  exact repWs_map.mp h
theorem repDs_ints : ∀ {ds : List D} {ns : List Int} {xs : List V}, RepDs K H ds xs → intsOf ds = some ns → xs = ns.map V.int := by
  intro ds ns xs h e
  rw [intsOf_some e] at h
  clear e
  induction ns generalizing xs with
  | nil => rw [List.map_nil] at h; rw [repDs_nil.mp h] <;> rfl
  | cons n r ih =>
    rw [List.map_cons] at h
    obtain ⟨x, q, rfl, h1, h2⟩ := repDs_cons.mp h
    rw [repD_int.mp h1, List.map_cons, ih h2]
theorem repDs_bools : ∀ {ds : List D} {ns : List Bool} {xs : List V}, RepDs K H ds xs → boolsOf ds = some ns → xs = ns.map V.bl := by
  intro ds ns xs h e
  rw [boolsOf_some e] at h
  clear e
  induction ns generalizing xs with
  | nil => rw [List.map_nil] at h; rw [repDs_nil.mp h] <;> rfl
  | cons n r ih =>
    rw [List.map_cons] at h
    obtain ⟨x, q, rfl, h1, h2⟩ := repDs_cons.mp h
    rw [repD_bool.mp h1, List.map_cons, ih h2]
theorem repDs_ofInts : ∀ (ns : List Int), RepDs K H (ns.map PyData.int) (ns.map V.int)
  | [] => repDs_nil.mpr rfl
  | n :: r => repDs_cons.mpr ⟨_, _, rfl, repD_int.mpr rfl, repDs_ofInts r⟩
theorem repDs_ofStrs : ∀ (ns : List Str), RepDs K H (ns.map PyData.str) (ns.map V.str)
  | [] => repDs_nil.mpr rfl
  | n :: r => repDs_cons.mpr ⟨_, _, rfl, repD_str.mpr rfl, repDs_ofStrs r⟩

/-! ### the store -/
def RepK (K : PySem.W.Frag) (cA : Nat → Addr) (f : Nat → Option Addr) (H : Hp) {α : Type} (kvs : List (α × Vl)) (ys : List (α × V)) : Prop :=
  ys.map (·.1) = kvs.map (·.1) ∧ RepWs K cA f H (kvs.map (·.2)) (ys.map (·.2))
def RepE (K : PySem.W.Frag) (cA : Nat → Addr) (f : Nat → Option Addr) (H : Hp) (a : Addr) : Ent → Prop
  | .dead => True
  | .lst ws => ∃ xs, H a = some (.lst xs) ∧ RepWs K cA f H ws xs
  | .dK kvs => ∃ ys, H a = some (.dK ys) ∧ RepK K cA f H kvs ys
  | .dT kvs => ∃ ys, H a = some (.dT ys) ∧ RepK K cA f H kvs ys
  | .obj c fs => ∃ dx ys, H a = some (.ins (cA c) dx ys) ∧ RepK K cA f H fs ys
structure Rel (K : PySem.W.Frag) (cA : Nat → Addr) (f : Nat → Option Addr) (H : Hp) (S : Sto) : Prop where
  dom : ∀ i a, f i = some a → i < S.length
  ent : ∀ i e, S[i]? = some e → e ≠ .dead → ∃ a, f i = some a ∧ RepE K cA f H a e
  inj : ∀ i j a, f i = some a → f j = some a → i = j
  th : ∀ i a, f i = some a → ∃ o, H a = some o
theorem Mx.repK (a : Mx f H g H1) {α : Type} {kvs : List (α × Vl)} {ys : List (α × V)} (h : RepK K cA f H kvs ys) : RepK K cA g H1 kvs ys := ⟨h.1, a.repWs h.2⟩
/-- an entry whose object stands -/
theorem Mx.repE (a : Mx f H g H1) {x : Addr} {e : Ent} (h : RepE K cA f H x e) (k : H1 x = H x) : RepE K cA g H1 x e := by
  cases e with
  | dead => trivial
  | lst ws =>
    obtain ⟨xs, e1, r⟩ := h
    exact ⟨xs, k.trans e1, a.repWs r⟩
  | dK ws =>
    obtain ⟨xs, e1, r⟩ := h
    exact ⟨xs, k.trans e1, a.repK r⟩
  | dT ws =>
    obtain ⟨xs, e1, r⟩ := h
    exact ⟨xs, k.trans e1, a.repK r⟩
  | obj c ws =>
    obtain ⟨dx, xs, e1, r⟩ := h
    exact ⟨dx, xs, k.trans e1, a.repK r⟩
theorem notStab {a : Addr} {e : Ent} (h : RepE K cA f H a e) (hd : e ≠ .dead) {o : HO} (q : H a = some o) : ¬ Stab o := by
  cases e with
  | dead => exact absurd rfl hd
  | lst ws => obtain ⟨xs, e1, _⟩ := h; rw [e1] at q; cases q; exact id
  | dK ws => obtain ⟨xs, e1, _⟩ := h; rw [e1] at q; cases q; exact id
  | dT ws => obtain ⟨xs, e1, _⟩ := h; rw [e1] at q; cases q; exact id
  | obj c ws => obtain ⟨dx, xs, e1, _⟩ := h; rw [e1] at q; cases q; exact id
/-- a new thing that is no place -/
theorem Ext.laid {p : Addr} {o : HO} (hp : H p = none) : Ext f H f (upd H p o) :=
  ⟨⟨fun _ _ e => e, fun a u e _ => by rw [upd_ne (ne_of_none e hp)]; exact e⟩, fun a u e _ => by rw [upd_ne (ne_of_none e hp)]; exact e, fun _ _ e => .inl e, fun a u e => ⟨u, by rw [upd_ne (ne_of_none e hp)]; exact e⟩⟩
theorem Rel.ext {S : Sto} (r : Rel K cA f H S) (a : Mx f H f H1) (k : ∀ x o, (∃ i, f i = some x) → H x = some o → H1 x = some o) : Rel K cA f H1 S :=
  ⟨r.dom, fun i e h hd => by
    obtain ⟨x, e1, q⟩ := r.ent i e h hd
    obtain ⟨o, ho⟩ := r.th i x e1
    exact ⟨x, e1, a.repE q (by rw [k x o ⟨i, e1⟩ ho, ho])⟩, r.inj, fun i x e => by
    obtain ⟨o, ho⟩ := r.th i x e
    exact ⟨o, k x o ⟨i, e⟩ ho⟩⟩
theorem Rel.laid {S : Sto} {p : Addr} {o : HO} (r : Rel K cA f H S) (hp : H p = none) : Rel K cA f (upd H p o) S :=
  r.ext (Ext.laid hp).toMx fun x u _ e => by rw [upd_ne (ne_of_none e hp)]; exact e
/-- a place's thing changes -/
theorem Ext.set {i : Nat} {a : Addr} {u o : HO} (hi : f i = some a) (hu : H a = some u) (ns : ¬ Stab u) : Ext f H f (upd H a o) := by
  have ne : ∀ b v, H b = some v → Stab v → b ≠ a := fun b v e s z => by
    subst z
    rw [hu] at e
    cases e
    exact ns s
  refine ⟨⟨fun _ _ e => e, fun b v e s => by rw [upd_ne (ne b v e s)]; exact e⟩, fun b v e n => by rw [upd_ne (fun z => n i (by rw [z]; exact hi))]; exact e, fun _ _ e => .inl e, fun b v e => ?_⟩
  by_cases z : b = a
  · exact ⟨o, by rw [z]; exact upd_same⟩
  · exact ⟨v, by rw [upd_ne z]; exact e⟩
theorem Rel.set {S : Sto} {i : Nat} {a : Addr} {u o : HO} {e : Ent} (r : Rel K cA f H S) (hi : f i = some a) (hu : H a = some u) (ns : ¬ Stab u) (he : RepE K cA f (upd H a o) a e) : Rel K cA f (upd H a o) (S.set i e) := by
  have X : Ext f H f (upd H a o) := Ext.set hi hu ns
  refine ⟨fun j x q => by rw [List.length_set]; exact r.dom j x q, fun j e' h hd => ?_, r.inj, fun j x q => ?_⟩
  · by_cases hj : i = j
    · subst hj
      rw [List.getElem?_set_self (r.dom i a hi)] at h
      cases h
      exact ⟨a, hi, he⟩
    · rw [List.getElem?_set_ne hj] at h
      obtain ⟨x, e1, q⟩ := r.ent j e' h hd
      have nx : x ≠ a := fun z => hj (r.inj i j a hi (by rw [← z]; exact e1))
      exact ⟨x, e1, X.repE q (upd_ne nx)⟩
  · by_cases z : x = a
    · exact ⟨o, by rw [z]; exact upd_same⟩
    · obtain ⟨v, hv⟩ := r.th j x q
      exact ⟨v, by rw [upd_ne z]; exact hv⟩
/-- a new place -/
def addF (f : Nat → Option Addr) (n : Nat) (p : Addr) : Nat → Option Addr := fun i => if i = n then some p else f i
theorem addF_self {n : Nat} {p : Addr} : addF f n p n = some p := if_pos rfl
theorem addF_ne {n i : Nat} {p : Addr} (h : i ≠ n) : addF f n p i = f i := if_neg h
theorem Ext.add {S : Sto} {p : Addr} {o : HO} (r : Rel K cA f H S) (hp : H p = none) : Ext f H (addF f S.length p) (upd H p o) :=
  ⟨⟨fun i a e => by rw [addF_ne (Nat.ne_of_lt (r.dom i a e))]; exact e, fun a u e _ => by rw [upd_ne (ne_of_none e hp)]; exact e⟩, fun a u e _ => by rw [upd_ne (ne_of_none e hp)]; exact e,
   fun i a e => by
    by_cases z : i = S.length
    · subst z
      rw [addF_self] at e
      cases e
      exact .inr hp
    · rw [addF_ne z] at e
      exact .inl e, fun a u e => ⟨u, by rw [upd_ne (ne_of_none e hp)]; exact e⟩⟩
theorem Rel.add {S : Sto} {p : Addr} {o : HO} {e : Ent} (r : Rel K cA f H S) (hp : H p = none) (he : RepE K cA (addF f S.length p) (upd H p o) p e) : Rel K cA (addF f S.length p) (upd H p o) (S ++ [e]) := by
  have X : Ext f H (addF f S.length p) (upd H p o) := Ext.add r hp
  have nep : ∀ i a, f i = some a → a ≠ p := fun i a e => by
    obtain ⟨o, ho⟩ := r.th i a e
    exact ne_of_none ho hp
  refine ⟨fun i a q => ?_, fun i e' h hd => ?_, fun i j a q1 q2 => ?_, fun i a q => ?_⟩
  · rw [List.length_append]
    by_cases z : i = S.length
    · rw [z]
      exact Nat.lt_succ_self _
    · rw [addF_ne z] at q
      exact Nat.lt_succ_of_lt (r.dom i a q)
  · by_cases z : i < S.length
    · rw [List.getElem?_append_left z] at h
      obtain ⟨x, e1, q⟩ := r.ent i e' h hd
      exact ⟨x, X.up i x e1, X.repE q (upd_ne (nep i x e1))⟩
    · rw [List.getElem?_append_right (Nat.le_of_not_lt z)] at h
      have z2 : i = S.length := by
        have := (List.getElem?_eq_some_iff.mp h).1
        rw [List.length_singleton] at this
        omega
      subst z2
      rw [Nat.sub_self] at h
      cases h
      exact ⟨p, addF_self, he⟩
  · by_cases z1 : i = S.length
    · by_cases z2 : j = S.length
      · rw [z1, z2]
      · subst z1
        rw [addF_self] at q1
        cases q1
        rw [addF_ne z2] at q2
        exact absurd rfl (nep j p q2)
    · rw [addF_ne z1] at q1
      by_cases z2 : j = S.length
      · subst z2
        rw [addF_self] at q2
        cases q2
        exact absurd rfl (nep i p q1)
      · rw [addF_ne z2] at q2
        exact r.inj i j a q1 q2
  · by_cases z : i = S.length
    · subst z
      rw [addF_self] at q
      cases q
      exact ⟨o, upd_same⟩
    · rw [addF_ne z] at q
      obtain ⟨v, hv⟩ := r.th i a q
      exact ⟨v, by rw [upd_ne (nep i a q)]; exact hv⟩
/-- what is new since the start may change -/
theorem Ext.newer {D : Addr} {o : HO} (X : Ext f H g H1) (hD : H D = none) : Ext f H g (upd H1 D o) :=
  ⟨⟨X.up, fun a u e s => by rw [upd_ne (ne_of_none e hD)]; exact X.st a u e s⟩, fun a u e n => by rw [upd_ne (ne_of_none e hD)]; exact X.fr a u e n, X.nw, fun a u e => by
    obtain ⟨o', h⟩ := X.th a u e
    exact ⟨o', by rw [upd_ne (ne_of_none e hD)]; exact h⟩⟩
/-- what is no place and may change, changes -/
theorem Mx.other {D : Addr} {u o : HO} (hu : H D = some u) (ns : ¬ Stab u) : Mx f H f (upd H D o) :=
  ⟨fun _ _ e => e, fun a v e s => by
    rw [upd_ne (fun z => by
      subst z
      rw [hu] at e
      cases e
      exact ns s)]
    exact e⟩
theorem Rel.other {S : Sto} {D : Addr} {u o : HO} (r : Rel K cA f H S) (hu : H D = some u) (ns : ¬ Stab u) (hn : ∀ i, f i ≠ some D) : Rel K cA f (upd H D o) S :=
  r.ext (Mx.other hu ns) fun x v ⟨i, e1⟩ e => by
    rw [upd_ne (fun z => hn i (by rw [← z]; exact e1))]
    exact e
/-- a tracked thing becomes a place -/
theorem Rel.adopt {S : Sto} {p : Addr} {o : HO} {e : Ent} (r : Rel K cA f H S) (hp : H p = some o) (hn : ∀ i, f i ≠ some p) (he : RepE K cA (addF f S.length p) H p e) : Rel K cA (addF f S.length p) H (S ++ [e]) := by
  have X : Mx f H (addF f S.length p) H := ⟨fun i a e => by rw [addF_ne (Nat.ne_of_lt (r.dom i a e))]; exact e, fun _ _ e _ => e⟩
  refine ⟨fun i a q => ?_, fun i e' h hd => ?_, fun i j a q1 q2 => ?_, fun i a q => ?_⟩
  · rw [List.length_append]
    by_cases z : i = S.length
    · rw [z]
      exact Nat.lt_succ_self _
    · rw [addF_ne z] at q
      exact Nat.lt_succ_of_lt (r.dom i a q)
  · by_cases z : i < S.length
    · rw [List.getElem?_append_left z] at h
      obtain ⟨x, e1, q⟩ := r.ent i e' h hd
      exact ⟨x, X.up i x e1, X.repE q rfl⟩
    · rw [List.getElem?_append_right (Nat.le_of_not_lt z)] at h
      have z2 : i = S.length := by
        have := (List.getElem?_eq_some_iff.mp h).1
        rw [List.length_singleton] at this
        omega
      subst z2
      rw [Nat.sub_self] at h
      cases h
      exact ⟨p, addF_self, he⟩
  · by_cases z1 : i = S.length
    · by_cases z2 : j = S.length
      · rw [z1, z2]
      · subst z1
        rw [addF_self] at q1
        cases q1
        rw [addF_ne z2] at q2
        exact absurd q2 (hn j)
    · rw [addF_ne z1] at q1
      by_cases z2 : j = S.length
      · subst z2
        rw [addF_self] at q2
        cases q2
        exact absurd q1 (hn i)
      · rw [addF_ne z2] at q2
        exact r.inj i j a q1 q2
  · by_cases z : i = S.length
    · subst z
      rw [addF_self] at q
      cases q
      exact ⟨o, hp⟩
    · rw [addF_ne z] at q
      exact r.th i a q
theorem Ext.adopt {n : Nat} {D : Addr} (X : Ext f H g H1) (hD : H D = none) (hn : ∀ i a, f i = some a → i ≠ n) : Ext f H (addF g n D) H1 :=
  ⟨⟨fun i a e => by rw [addF_ne (hn i a e)]; exact X.up i a e, X.st⟩, X.fr, fun i a e => by
    by_cases z : i = n
    · subst z
      rw [addF_self] at e
      cases e
      exact .inr hD
    · rw [addF_ne z] at e
      exact X.nw i a e, X.th⟩
/-- places from n on forgotten -/
def cutF (f : Nat → Option Addr) (n : Nat) : Nat → Option Addr := fun i => if i < n then f i else none
theorem cutF_lt {n i : Nat} (h : i < n) : cutF f n i = f i := if_pos h
theorem cutF_some {n i : Nat} {a : Addr} (h : cutF f n i = some a) : i < n ∧ f i = some a := by
  unfold cutF at h
  split at h
  · exact ⟨by assumption, h⟩
  · cases h
mutual
theorem repW_cut {n : Nat} : ∀ {w : Vl} {v : V}, RepW K cA f H w v → below n w = true → RepW K cA (cutF f n) H w v
  | .p d, v, h, _ => repW_p.mpr (repW_p.mp h)
  | .r i, v, h, b => by
    obtain ⟨x, e, z⟩ := repW_r.mp h
    rw [below_r] at b
    exact repW_r.mpr ⟨x, e, by rw [cutF_lt (of_decide_eq_true b)]; exact z⟩
  | .t ws, v, h, b => by
    obtain ⟨x, xs, e, l, r⟩ := repW_t.mp h
    rw [below_t] at b
    exact repW_t.mpr ⟨x, xs, e, l, repWs_cut r b⟩
  | .x c k, v, h, _ => by
    obtain ⟨x, d, e, l, r⟩ := repW_x.mp h
    exact repW_x.mpr ⟨x, d, e, l, r⟩
  | .f k, v, h, _ => repW_f.mpr (repW_f.mp h)
  | .dc kvs, v, h, _ => repW_dc.mpr (repW_dc.mp h)
theorem repWs_cut {n : Nat} : ∀ {ws : List Vl} {xs : List V}, RepWs K cA f H ws xs → belowAll n ws = true → RepWs K cA (cutF f n) H ws xs
  | [], xs, h, _ => repWs_nil.mpr (repWs_nil.mp h)
  | w :: ws, xs, h, b => by
    obtain ⟨x, r, e, h1, h2⟩ := repWs_cons.mp h
    rw [belowAll_cons, Bool.and_eq_true] at b
    exact repWs_cons.mpr ⟨x, r, e, repW_cut h1 b.1, repWs_cut h2 b.2⟩
end
theorem repK_cut {n : Nat} {α : Type} {kvs : List (α × Vl)} {ys : List (α × V)} (h : RepK K cA f H kvs ys) (b : belowAll n (kvs.map (·.2)) = true) : RepK K cA (cutF f n) H kvs ys := ⟨h.1, repWs_cut h.2 b⟩
theorem repE_cut {n : Nat} {a : Addr} {e : Ent} (h : RepE K cA f H a e) (b : entBelow n e = true) : RepE K cA (cutF f n) H a e := by
  cases e with
  | dead => trivial
  | lst ws =>
    obtain ⟨xs, e1, r⟩ := h
    exact ⟨xs, e1, repWs_cut r b⟩
  | dK ws =>
    obtain ⟨xs, e1, r⟩ := h
    exact ⟨xs, e1, repK_cut r b⟩
  | dT ws =>
    obtain ⟨xs, e1, r⟩ := h
    exact ⟨xs, e1, repK_cut r b⟩
  | obj c ws =>
    obtain ⟨dx, xs, e1, r⟩ := h
    exact ⟨dx, xs, e1, repK_cut r b⟩
mutual
theorem repW_below {n : Nat} (hn : ∀ i a, f i = some a → i < n) : ∀ {w : Vl} {v : V}, RepW K cA f H w v → below n w = true
  | .p d, v, h => below_p n d
  | .r i, v, h => by
    obtain ⟨x, e, z⟩ := repW_r.mp h
    rw [below_r]
    exact decide_eq_true (hn i x z)
  | .t ws, v, h => by
    obtain ⟨x, xs, e, l, r⟩ := repW_t.mp h
    rw [below_t]
    exact repWs_below hn r
  | .x c k, v, h => below_x n c k
  | .f k, v, h => below_f n k
  | .dc k, v, h => below_dc n k
theorem repWs_below {n : Nat} (hn : ∀ i a, f i = some a → i < n) : ∀ {ws : List Vl} {xs : List V}, RepWs K cA f H ws xs → belowAll n ws = true
  | [], xs, h => belowAll_nil n
  | w :: ws, xs, h => by
    obtain ⟨x, r, e, h1, h2⟩ := repWs_cons.mp h
    rw [belowAll_cons, repW_below hn h1, repWs_below hn h2] <;> rfl
end
theorem repE_below {n : Nat} (hn : ∀ i a, f i = some a → i < n) {a : Addr} {e : Ent} (h : RepE K cA f H a e) : entBelow n e = true := by
  cases e with
  | dead => rfl
  | lst ws => obtain ⟨xs, e1, r⟩ := h; exact repWs_below hn r
  | dK ws => obtain ⟨xs, e1, r⟩ := h; exact repWs_below hn r.2
  | dT ws => obtain ⟨xs, e1, r⟩ := h; exact repWs_below hn r.2
  | obj c ws => obtain ⟨dx, xs, e1, r⟩ := h; exact repWs_below hn r.2
/-- behind a call: its own places are forgotten -/
theorem Rel.cut {S S' : Sto} (r0 : Rel K cA f H S) (X : Ext f H g H1) (r : Rel K cA g H1 S') (cl : Clean S S') : Ext f H (cutF g S.length) H1 ∧ Rel K cA (cutF g S.length) H1 (S'.take S.length) := by
  refine ⟨⟨⟨fun i a e => by rw [cutF_lt (r0.dom i a e)]; exact X.up i a e, X.st⟩, X.fr, fun i a e => X.nw i a (cutF_some e).2, X.th⟩, ⟨fun i a e => ?_, fun i e h hd => ?_, fun i j a e1 e2 => r.inj i j a (cutF_some e1).2 (cutF_some e2).2, fun i a e => r.th i a (cutF_some e).2⟩⟩
  · rw [List.length_take]
    exact Nat.lt_min.mpr ⟨(cutF_some e).1, r.dom i a (cutF_some e).2⟩
  · have hi : i < S.length := by
      have z := (List.getElem?_eq_some_iff.mp h).1
      rw [List.length_take] at z
      omega
    rw [List.getElem?_take_of_lt hi] at h
    have eb : entBelow S.length e = true := by
      rcases cl i hi with q | ⟨e', q1, q2⟩
      · rw [q] at h
        obtain ⟨x, _, q3⟩ := r0.ent i e h hd
        exact repE_below r0.dom q3
      · rw [q1] at h
        cases h
        exact q2
    obtain ⟨x, e1, q⟩ := r.ent i e h hd
    exact ⟨x, by rw [cutF_lt hi]; exact e1, repE_cut q eb⟩
end
end PV

/-! The rules of expressions, over plain data. -/
namespace PV
open PySem L2 PySem.Spec PyProof.Rows

section
variable {K : PySem.W.Frag} {cA : Nat → Addr} {f g : Nat → Option Addr} {H H1 : Hp}
def EnvR (K : PySem.W.Frag) (cA : Nat → Addr) (f : Nat → Option Addr) (H : Hp) (e : Env) (σ : L2.St) : Prop := e.length = σ.length ∧ ∀ (i : Nat) (w : Vl), e[i]? = some (some w) → ∃ v, σ[i]? = some (some v) ∧ RepW K cA f H w v
theorem Ext.envR (a : Ext f H g H1) {e : Env} {σ : L2.St} (h : EnvR K cA f H e σ) : EnvR K cA g H1 e σ := ⟨h.1, fun i w q => by
  obtain ⟨v, e1, r⟩ := h.2 i w q
  exact ⟨v, e1, a.repW r⟩⟩
theorem EnvR.set {e : Env} {σ : L2.St} (h : EnvR K cA f H e σ) (i : Nat) {w : Vl} {v : V} (r : RepW K cA f H w v) : EnvR K cA f H (e.set i (some w)) (σ.set i (some v)) := by
  refine ⟨by rw [List.length_set, List.length_set]; exact h.1, fun j u q => ?_⟩
  by_cases z : i = j
  · subst z
    have hl : i < e.length := by
      have := (List.getElem?_eq_some_iff.mp q).1
      rwa [List.length_set] at this
    rw [List.getElem?_set_self hl] at q
    cases q
    exact ⟨v, List.getElem?_set_self (by rw [← h.1]; exact hl), r⟩
  · rw [List.getElem?_set_ne z] at q
    obtain ⟨y, e1, ry⟩ := h.2 j u q
    exact ⟨y, by rw [List.getElem?_set_ne z]; exact e1, ry⟩
/-- what an expression comes to -/
def okE (K : PySem.W.Frag) (cA : Nat → Addr) (W : WX) (f : Nat → Option Addr) (σ : L2.St) (H : Hp) (r : R Vl) (Q : VK) : Prop := match r with
  | .ok w S' => ∀ g H' v, Ext f H g H' → Rel K cA g H' S' → RepW K cA g H' w v → Q v H'
  | .exc c n S' => ∀ g H' d, Ext f H g H' → Rel K cA g H' S' → ExD H' n d → W (.ref (cA c)) d σ H'
  | .bad => False
/-- .. an operation that raises nothing -/
def okO (K : PySem.W.Frag) (cA : Nat → Addr) (f : Nat → Option Addr) (H : Hp) (r : R Vl) (Q : VK) : Prop := match r with
  | .ok w S' => ∀ g H' v, Ext f H g H' → Rel K cA g H' S' → RepW K cA g H' w v → Q v H'
  | _ => False
def okA (K : PySem.W.Frag) (cA : Nat → Addr) (W : WX) (f : Nat → Option Addr) (σ : L2.St) (H : Hp) (r : R (List Vl)) (Q : List V → Hp → Prop) : Prop := match r with
  | .ok ws S' => ∀ g H' vs, Ext f H g H' → Rel K cA g H' S' → RepWs K cA g H' ws vs → Q vs H'
  | .exc c n S' => ∀ g H' d, Ext f H g H' → Rel K cA g H' S' → ExD H' n d → W (.ref (cA c)) d σ H'
  | .bad => False
def tE (K : PySem.W.Frag) (cA : Nat → Addr) (W : WX) (m : M) : TE := fun σ H Q => ∃ f e S, Rel K cA f H S ∧ EnvR K cA f H e σ ∧ okE K cA W f σ H (m e S) Q
def tA (K : PySem.W.Frag) (cA : Nat → Addr) (W : WX) (ms : List M) : TA := fun σ H Q => ∃ f e S, Rel K cA f H S ∧ EnvR K cA f H e σ ∧ okA K cA W f σ H (mArgs ms e S) Q
/-- as a test -/
def tT (K : PySem.W.Frag) (cA : Nat → Addr) (W : WX) (m : M) : TT := fun σ H Q => ∃ f e S, Rel K cA f H S ∧ EnvR K cA f H e σ ∧ okE K cA W f σ H (m e S) fun v H' => ∃ b, v = .bl b ∧ Q b H'
variable {W : WX} {σ : L2.St} {Q : VK}
theorem okE.ext {r : R Vl} (h : okE K cA W f σ H r Q) (a : Ext f H g H1) : okE K cA W g σ H1 r Q := by
  cases r with
  | ok w S => exact fun h2 H2 v X => h h2 H2 v (a.trans X)
  | exc c n S => exact fun h2 H2 v X => h h2 H2 v (a.trans X)
  | bad => exact h
theorem okO.ext {r : R Vl} (h : okO K cA f H r Q) (a : Ext f H g H1) : okO K cA g H1 r Q := by
  cases r with
  | ok w S => exact fun h2 H2 v X => h h2 H2 v (a.trans X)
  | exc c n S => exact h
  | bad => exact h
theorem okE.imp {r : R Vl} {Q' : VK} (h : okE K cA W f σ H r Q) (k : ∀ v H, Q v H → Q' v H) : okE K cA W f σ H r Q' := by
  cases r with
  | ok w S => exact fun h2 H2 v X a b => k _ _ (h h2 H2 v X a b)
  | exc c n S => exact h
  | bad => exact h
/-- an operation's end with data, nothing laid -/
theorem okO.here {S : Sto} {w : Vl} {v : V} (h : okO K cA f H (.ok w S) Q) (r : Rel K cA f H S) (q : RepW K cA f H w v) : Q v H := h f H v Ext.refl r q
/-- the first part runs, then the rest -/
theorem okE.bind {ma : R Vl} {k : Vl → Sto → R Vl} {R' : VK} (h : okE K cA W f σ H (ma.bind k) Q)
    (hk : ∀ g H1 w S1 v, Ext f H g H1 → Rel K cA g H1 S1 → RepW K cA g H1 w v → okE K cA W g σ H1 (k w S1) Q → R' v H1) : okE K cA W f σ H ma R' := by
  cases ma with
  | ok w S => exact fun g2 H2 v X r q => hk g2 H2 w S v X r q (okE.ext h X)
  | exc c n S => exact h
  | bad => exact h
theorem okA.bind {ma : R (List Vl)} {k : List Vl → Sto → R Vl} {R' : List V → Hp → Prop} (h : okE K cA W f σ H (ma.bind k) Q)
    (hk : ∀ g H1 w S1 v, Ext f H g H1 → Rel K cA g H1 S1 → RepWs K cA g H1 w v → okE K cA W g σ H1 (k w S1) Q → R' v H1) : okA K cA W f σ H ma R' := by
  cases ma with
  | ok w S => exact fun g2 H2 v X r q => hk g2 H2 w S v X r q (okE.ext h X)
  | exc c n S => exact h
  | bad => exact h
/-- what raises nothing -/
def NoX (r : R Vl) : Prop := ∀ c n S, r ≠ .exc c n S
theorem okO.of {r : R Vl} (h : okE K cA W f σ H r Q) (n : NoX r) : okO K cA f H r Q := by
  cases r with
  | ok w S => exact h
  | exc c k S => exact absurd rfl (n c k S)
  | bad => exact h
end

section
variable {X : Cx} {cA : Nat → Addr} {W : WX}
theorem pe_le {e : Expr} {t t' : TE} (h : PE X e t) (k : ∀ σ H Q, t' σ H Q → t σ H Q) : PE X e t' := ⟨fun pins s σ H Q I q => h.run pins s σ H Q I (k σ H Q q)⟩
theorem pt_le {e : Expr} {t t' : TT} (h : PT X e t) (k : ∀ σ H Q, t' σ H Q → t σ H Q) : PT X e t' := ⟨fun pins s σ H Q I q => h.run pins s σ H Q I (k σ H Q q)⟩
theorem pw_le {e : Expr} {t t' : TT} (h : PW X e t) (k : ∀ σ H Q, t' σ H Q → t σ H Q) : PW X e t' := ⟨fun wh pins s σ H Q I q => h.run wh pins s σ H Q I (k σ H Q q)⟩
theorem pa_le {e : List Expr} {t t' : TA} (h : PA X e t) (k : ∀ σ H Q, t' σ H Q → t σ H Q) : PA X e t' := ⟨fun pos pins s σ H Q I q => h.run pos pins s σ H Q I (k σ H Q q)⟩

/-! ### names, constants -/
theorem e_var {i : Nat} {x : Str} {pos : Pos} (hN : X.N[i]? = some x) (hv : Vis X.env.scope x) (hd : (x == ("__debug__" : Str)) = false := by decide) (hcd : (x == ("__classdict__" : Str)) = false := by decide) :
    PE X (.Name x pos) (tE X.K cA W (mVar i)) := pe_le (pe_var hN hv hd hcd) fun σ H Q h => by
  obtain ⟨f, e, S, r, er, q⟩ := h
  unfold mVar at q
  split at q
  · rename_i w hw
    obtain ⟨v, h1, h2⟩ := er.2 i w hw
    exact ⟨v, h1, q f H v Ext.refl r h2⟩
  · exact q.elim
theorem e_con {e : Expr} {v : V} {d : D} (h : PE X e (tC v)) (hd : ∀ H, RepD X.K H d v) : PE X e (tE X.K cA W (mC d)) := pe_le h fun σ H Q h => by
  obtain ⟨f, e, S, r, er, q⟩ := h
  exact q f H v Ext.refl r (repW_p.mpr (hd H))
theorem e_int {i j pos} : PE X (.Constant (.int i) j pos) (tE X.K cA W (mC (.int i))) := e_con pe_int fun H => repD_int.mpr rfl
theorem e_bl {b j pos} : PE X (.Constant (.bool b) j pos) (tE X.K cA W (mC (.bool b))) := e_con pe_bl fun H => repD_bool.mpr rfl
theorem e_non {j pos} : PE X (.Constant .none j pos) (tE X.K cA W (mC .none)) := e_con pe_non fun H => repD_none.mpr rfl
theorem e_str {x j pos} : PE X (.Constant (.str x) j pos) (tE X.K cA W (mC (.str x))) := e_con pe_str fun H => repD_str.mpr rfl
/-- a constant of the module -/
theorem e_glob {x : Str} {v : V} {u : Value} {d : D} {pos : Pos} (hg : Gl X x) (hm : X.mg x = some u) (r : RelV v u) (hd : ∀ H, RepD X.K H d v) (hdb : (x == ("__debug__" : Str)) = false := by decide) : PE X (.Name x pos) (tE X.K cA W (mC d)) := e_con (pe_glob hg hm r hdb) hd

/-! ### operators -/
def rO2 (K : PySem.W.Frag) (cA : Nat → Addr) (op : Vl → Vl → Sto → R Vl) : R2 := fun x y H Q => ∃ f S u v, Rel K cA f H S ∧ RepW K cA f H u x ∧ RepW K cA f H v y ∧ okO K cA f H (op u v S) Q
def rO1 (K : PySem.W.Frag) (cA : Nat → Addr) (op : Vl → Sto → R Vl) : V → Hp → VK → Prop := fun x H Q => ∃ f S u, Rel K cA f H S ∧ RepW K cA f H u x ∧ okO K cA f H (op u S) Q
section
variable {K : PySem.W.Frag}
theorem w_op2 {op : Vl → Vl → Sto → R Vl} {ma mb : M} (nx : ∀ u v S, NoX (op u v S)) {σ : L2.St} {H : Hp} {Q : VK} (h : tE K cA W (m2 op ma mb) σ H Q) : tOp (rO2 K cA op) (tE K cA W ma) (tE K cA W mb) σ H Q := by
  obtain ⟨f, e, S, r, er, q⟩ := h
  refine ⟨f, e, S, r, er, okE.bind q fun g H1 w S1 v X1 r1 q1 h1 => ?_⟩
  refine ⟨g, e, S1, r1, X1.envR er, okE.bind h1 fun g2 H2 w2 S2 v2 X2 r2 q2 h2 => ?_⟩
  exact ⟨g2, S2, w, w2, r2, X2.repW q1, q2, okO.of h2 (nx _ _ _)⟩
theorem w_op1 {op : Vl → Sto → R Vl} {ma : M} (nx : ∀ u S, NoX (op u S)) {σ : L2.St} {H : Hp} {Q : VK} (h : tE K cA W (m1 op ma) σ H Q) : tUn (rO1 K cA op) (tE K cA W ma) σ H Q := by
  obtain ⟨f, e, S, r, er, q⟩ := h
  exact ⟨f, e, S, r, er, okE.bind q fun g H1 w S1 v X1 r1 q1 h1 => ⟨g, S1, w, r1, q1, okO.of h1 (nx _ _)⟩⟩
end
/-- an operator's rule over values -/
structure Op2 (X : Cx) (cA : Nat → Addr) (o : Value → Value → Sem Value) (op : Vl → Vl → Sto → R Vl) : Prop where
  run : OpR X o (rO2 X.K cA op)
  nx : ∀ u v S, NoX (op u v S)
structure Op1 (X : Cx) (cA : Nat → Addr) (o : Value → Sem Value) (op : Vl → Sto → R Vl) : Prop where
  run : UnR X o (rO1 X.K cA op)
  nx : ∀ u S, NoX (op u S)
theorem e_op {a b : Expr} {o : Operator} {op : Vl → Vl → Sto → R Vl} {ma mb : M} {pos : Pos} (ho : Op2 X cA (binaryOp o) op) (ha : PE X a (tE X.K cA W ma)) (hb : PE X b (tE X.K cA W mb)) : PE X (.BinOp a o b pos) (tE X.K cA W (m2 op ma mb)) :=
  pe_le (pe_op ho.run ha hb) fun _ _ _ h => w_op2 ho.nx h
theorem e_un {a : Expr} {o : UnaryOp} {op : Vl → Sto → R Vl} {ma : M} {pos : Pos} (ho : Op1 X cA (unaryOp o) op) (ha : PE X a (tE X.K cA W ma)) : PE X (.UnaryOp o a pos) (tE X.K cA W (m1 op ma)) :=
  pe_le (pe_un ho.run ha) fun _ _ _ h => w_op1 ho.nx h
theorem e_cmp {a b : Expr} {o : CmpOp} {op : Vl → Vl → Sto → R Vl} {ma mb : M} {pos : Pos} (ho : Op2 X cA (compareOp o) op) (ha : PE X a (tE X.K cA W ma)) (hb : PE X b (tE X.K cA W mb))
    (hm : behindInMarks o b = false := by first | exact nobehind _ (by decide) (by decide) | rfl) : PE X (.Compare a [o] [b] pos) (tE X.K cA W (m2 op ma mb)) :=
  pe_le (pe_cmpR ho.run ha hb hm) fun _ _ _ h => w_op2 ho.nx h
theorem t_cmp {a b : Expr} {o : CmpOp} {op : Vl → Vl → Sto → R Vl} {ma mb : M} {pos : Pos} (ho : Op2 X cA (compareOp o) op) (ha : PE X a (tE X.K cA W ma)) (hb : PE X b (tE X.K cA W mb))
    (hm : behindInMarks o b = false := by first | exact nobehind _ (by decide) (by decide) | rfl) : PT X (.Compare a [o] [b] pos) (tT X.K cA W (m2 op ma mb)) :=
  pt_le (pt_cmpR ho.run ha hb hm) fun _ _ _ h => w_op2 ho.nx h
theorem w_chain {K : PySem.W.Frag} {op op' : Vl → Vl → Sto → R Vl} {ma mb mc : M} (nx : ∀ u v S, NoX (op u v S)) (nx' : ∀ u v S, NoX (op' u v S)) {σ : L2.St} {H : Hp} {Q : VK} (h : tE K cA W (mChain op op' ma mb mc) σ H Q) :
    tChain (rO2 K cA op) (rO2 K cA op') (tE K cA W ma) (tE K cA W mb) (tE K cA W mc) σ H Q := by
  obtain ⟨f, e, S, r, er, q⟩ := h
  refine ⟨f, e, S, r, er, okE.bind q fun g H1 w S1 v X1 r1 q1 h1 => ?_⟩
  refine ⟨g, e, S1, r1, X1.envR er, okE.bind h1 fun g2 H2 w2 S2 v2 X2 r2 q2 h2 => ?_⟩
  refine ⟨g2, S2, w, w2, r2, X2.repW q1, q2, okO.of (okE.bind h2 fun g3 H3 k S3 v3 X3 r3 q3 h3 => ?_) (nx _ _ _)⟩
  cases k with
  | p d =>
    cases d with
    | bool b =>
      refine ⟨b, repD_bool.mp (repW_p.mp q3), ?_⟩
      cases b with
      | true =>
        rw [if_pos rfl]
        refine ⟨g3, e, S3, r3, X3.envR (X2.envR (X1.envR er)), okE.bind h3 fun g4 H4 w4 S4 v4 X4 r4 q4 h4 => ?_⟩
        exact ⟨g4, S4, w2, w4, r4, X4.repW (X3.repW q2), q4, okO.of h4 (nx' _ _ _)⟩
      | false =>
        rw [if_neg Bool.false_ne_true]
        exact h3 g3 H3 _ Ext.refl r3 (repW_p.mpr (repD_bool.mpr rfl))
    | _ => exact False.elim h3
  | _ => exact False.elim h3
theorem e_chain {a b c : Expr} {o o' : CmpOp} {op op' : Vl → Vl → Sto → R Vl} {ma mb mc : M} {pos : Pos} (ho : Op2 X cA (compareOp o) op) (ho' : Op2 X cA (compareOp o') op') (ha : PE X a (tE X.K cA W ma)) (hb : PE X b (tE X.K cA W mb)) (hc : PE X c (tE X.K cA W mc))
    (hm : lastMarks [o, o'] [b, c] = false := by with_unfolding_all rfl) : PE X (.Compare a [o, o'] [b, c] pos) (tE X.K cA W (mChain op op' ma mb mc)) :=
  pe_le (pe_chain ho.run ho'.run ha hb hc hm) fun _ _ _ h => w_chain ho.nx ho'.nx h
theorem t_chain {a b c : Expr} {o o' : CmpOp} {op op' : Vl → Vl → Sto → R Vl} {ma mb mc : M} {pos : Pos} (ho : Op2 X cA (compareOp o) op) (ho' : Op2 X cA (compareOp o') op') (ha : PE X a (tE X.K cA W ma)) (hb : PE X b (tE X.K cA W mb)) (hc : PE X c (tE X.K cA W mc))
    (hm : lastMarks [o, o'] [b, c] = false := by with_unfolding_all rfl) : PT X (.Compare a [o, o'] [b, c] pos) (tT X.K cA W (mChain op op' ma mb mc)) :=
  pt_le (pt_chain ho.run ho'.run ha hb hc hm) fun _ _ _ h => w_chain ho.nx ho'.nx h

/-! ### tests -/
theorem t_val {e : Expr} {m : M} (h : PE X e (tE X.K cA W m)) (he : ∀ whole, isTrue e X.env whole = (do let v ← whole; standAt e.pos; holding [v] (truthy v)) := by intro _; rfl) : PT X e (tT X.K cA W m) :=
  pt_le (pt_val h he) fun _ _ _ q => q
theorem onB_cases {v : Vl} {x y : R Vl} {K : PySem.W.Frag} {f : Nat → Option Addr} {σ : L2.St} {H : Hp} {Q : VK} (h : okE K cA W f σ H (onB v x y) Q) : (∃ b, v = .p (.bool b)) ∧ (v = .p (.bool true) → okE K cA W f σ H x Q) ∧ (v = .p (.bool false) → okE K cA W f σ H y Q) := by
  cases v with
  | p d =>
    cases d with
    | bool b =>
      cases b with
      | true => exact ⟨⟨_, rfl⟩, fun _ => h, fun q => nomatch q⟩
      | false => exact ⟨⟨_, rfl⟩, (fun q => nomatch q), fun _ => h⟩
    | _ => exact False.elim h
  | _ => exact False.elim h
theorem t_not {a : Expr} {m : M} {pos : Pos} (ha : PT X a (tT X.K cA W m)) : PT X (.UnaryOp .Not a pos) (tT X.K cA W (mNot m)) := pt_le (pt_not ha) fun σ H Q h => by
  obtain ⟨f, e, S, r, er, q⟩ := h
  refine ⟨f, e, S, r, er, okE.bind q fun g H1 w S1 v X1 r1 q1 h1 => ?_⟩
  cases w with
  | p d =>
    cases d with
    | bool b =>
      obtain ⟨b2, e2, z⟩ := h1 g H1 _ Ext.refl r1 (repW_p.mpr (repD_bool.mpr rfl))
      cases e2
      exact ⟨b, repD_bool.mp (repW_p.mp q1), z⟩
    | _ => exact False.elim h1
  | _ => exact False.elim h1
theorem w_and1 {a : Expr} {m : M} {pos : Pos} (ha : PT X a (tT X.K cA W m)) : PW X (.BoolOp .And [a] pos) (tT X.K cA W m) := pw_and1 ha
theorem w_or1 {a : Expr} {m : M} {pos : Pos} (ha : PT X a (tT X.K cA W m)) : PW X (.BoolOp .Or [a] pos) (tT X.K cA W m) := pw_or1 ha
theorem w_and {a b : Expr} {rest : List Expr} {m n : M} {pos : Pos} (ha : PT X a (tT X.K cA W m)) (hb : PW X (.BoolOp .And (b :: rest) pos) (tT X.K cA W n)) : PW X (.BoolOp .And (a :: b :: rest) pos) (tT X.K cA W (mAnd m n)) := pw_le (pw_and ha hb) fun σ H Q h => by
  obtain ⟨f, e, S, r, er, q⟩ := h
  refine ⟨f, e, S, r, er, okE.bind q fun g H1 w S1 v X1 r1 q1 h1 => ?_⟩
  obtain ⟨⟨b, rfl⟩, ht, hf⟩ := onB_cases h1
  refine ⟨b, repD_bool.mp (repW_p.mp q1), ?_⟩
  cases b with
  | true =>
    rw [if_pos rfl]
    exact ⟨g, e, S1, r1, X1.envR er, ht rfl⟩
  | false =>
    rw [if_neg Bool.false_ne_true]
    obtain ⟨b2, e2, z⟩ := hf rfl g H1 _ Ext.refl r1 (repW_p.mpr (repD_bool.mpr rfl))
    cases e2
    exact z
theorem w_or {a b : Expr} {rest : List Expr} {m n : M} {pos : Pos} (ha : PT X a (tT X.K cA W m)) (hb : PW X (.BoolOp .Or (b :: rest) pos) (tT X.K cA W n)) : PW X (.BoolOp .Or (a :: b :: rest) pos) (tT X.K cA W (mOr m n)) := pw_le (pw_or ha hb) fun σ H Q h => by
  obtain ⟨f, e, S, r, er, q⟩ := h
  refine ⟨f, e, S, r, er, okE.bind q fun g H1 w S1 v X1 r1 q1 h1 => ?_⟩
  obtain ⟨⟨b, rfl⟩, ht, hf⟩ := onB_cases h1
  refine ⟨b, repD_bool.mp (repW_p.mp q1), ?_⟩
  cases b with
  | true =>
    rw [if_pos rfl]
    obtain ⟨b2, e2, z⟩ := ht rfl g H1 _ Ext.refl r1 (repW_p.mpr (repD_bool.mpr rfl))
    cases e2
    exact z
  | false =>
    rw [if_neg Bool.false_ne_true]
    exact ⟨g, e, S1, r1, X1.envR er, hf rfl⟩
/-! .. as values -/
theorem e_one {op : BoolOp} {a : Expr} {m : M} {pos : Pos} (h : PE X a (tE X.K cA W m)) : PE X (.BoolOp op [a] pos) (tE X.K cA W m) := pe_one h
theorem e_and {a b : Expr} {rest : List Expr} {m n : M} {pos : Pos} (ha : PE X a (tE X.K cA W m)) (hb : PE X (.BoolOp .And (b :: rest) pos) (tE X.K cA W n)) : PE X (.BoolOp .And (a :: b :: rest) pos) (tE X.K cA W (mAnd m n)) := pe_le (pe_and ha hb) fun σ H Q h => by
  obtain ⟨f, e, S, r, er, q⟩ := h
  refine ⟨f, e, S, r, er, okE.bind q fun g H1 w S1 v X1 r1 q1 h1 => ?_⟩
  obtain ⟨⟨b, rfl⟩, ht, hf⟩ := onB_cases h1
  refine ⟨b, repD_bool.mp (repW_p.mp q1), ?_⟩
  cases b with
  | true =>
    rw [if_pos rfl]
    exact ⟨g, e, S1, r1, X1.envR er, ht rfl⟩
  | false =>
    rw [if_neg Bool.false_ne_true]
    exact hf rfl g H1 _ Ext.refl r1 (repW_p.mpr (repD_bool.mpr rfl))
theorem e_or {a b : Expr} {rest : List Expr} {m n : M} {pos : Pos} (ha : PE X a (tE X.K cA W m)) (hb : PE X (.BoolOp .Or (b :: rest) pos) (tE X.K cA W n)) : PE X (.BoolOp .Or (a :: b :: rest) pos) (tE X.K cA W (mOr m n)) := pe_le (pe_or ha hb) fun σ H Q h => by
  obtain ⟨f, e, S, r, er, q⟩ := h
  refine ⟨f, e, S, r, er, okE.bind q fun g H1 w S1 v X1 r1 q1 h1 => ?_⟩
  obtain ⟨⟨b, rfl⟩, ht, hf⟩ := onB_cases h1
  refine ⟨b, repD_bool.mp (repW_p.mp q1), ?_⟩
  cases b with
  | true =>
    rw [if_pos rfl]
    exact ht rfl g H1 _ Ext.refl r1 (repW_p.mpr (repD_bool.mpr rfl))
  | false =>
    rw [if_neg Bool.false_ne_true]
    exact ⟨g, e, S1, r1, X1.envR er, hf rfl⟩
theorem e_not {a : Expr} {m : M} {pos : Pos} (ha : PE X a (tE X.K cA W m)) : PE X (.UnaryOp .Not a pos) (tE X.K cA W (mNot m)) := pe_le (pe_not ha) fun σ H Q h => by
  obtain ⟨f, e, S, r, er, q⟩ := h
  refine ⟨f, e, S, r, er, okE.bind q fun g H1 w S1 v X1 r1 q1 h1 => ?_⟩
  cases w with
  | p d =>
    cases d with
    | bool b => exact ⟨b, repD_bool.mp (repW_p.mp q1), h1 g H1 _ Ext.refl r1 (repW_p.mpr (repD_bool.mpr rfl))⟩
    | _ => exact False.elim h1
  | _ => exact False.elim h1
theorem e_if {c a b : Expr} {mc ma mb : M} {pos : Pos} (hc : PT X c (tT X.K cA W mc)) (ha : PE X a (tE X.K cA W ma)) (hb : PE X b (tE X.K cA W mb)) : PE X (.IfExp c a b pos) (tE X.K cA W (mIf mc ma mb)) := pe_le (pe_ifExp hc ha hb) fun σ H Q h => by
  obtain ⟨f, e, S, r, er, q⟩ := h
  refine ⟨f, e, S, r, er, okE.bind q fun g H1 w S1 v X1 r1 q1 h1 => ?_⟩
  obtain ⟨⟨b, rfl⟩, ht, hf⟩ := onB_cases h1
  refine ⟨b, repD_bool.mp (repW_p.mp q1), ?_⟩
  cases b with
  | true =>
    rw [if_pos rfl]
    exact ⟨g, e, S1, r1, X1.envR er, ht rfl⟩
  | false =>
    rw [if_neg Bool.false_ne_true]
    exact ⟨g, e, S1, r1, X1.envR er, hf rfl⟩

/-! ### argument lists -/
theorem a_nil : PA X [] (tA X.K cA W []) := pa_le pa_nil fun σ H Q h => by
  obtain ⟨f, e, S, r, er, q⟩ := h
  exact q f H [] Ext.refl r (repWs_nil.mpr rfl)
theorem a_cons {a : Expr} {es : List Expr} {m : M} {ms : List M} (ha : PE X a (tE X.K cA W m)) (hr : PA X es (tA X.K cA W ms)) (hs : starEach (a :: es) X.env = (false, eval a X.env) :: starEach es X.env := by rfl) :
    PA X (a :: es) (tA X.K cA W (m :: ms)) := pa_le (pa_cons ha hr hs) fun σ H Q h => by
  obtain ⟨f, e, S, r, er, q⟩ := h
  refine ⟨f, e, S, r, er, ?_⟩
  have q' : okA X.K cA W f σ H ((m e S).bind fun v S1 => (mArgs ms e S1).bind fun vs S2 => .ok (v :: vs) S2) Q := q
  cases hm : m e S with
  | ok w S1 =>
    rw [hm] at q'
    intro g H1 v X1 r1 q1
    refine ⟨g, e, S1, r1, X1.envR er, ?_⟩
    have q2 : okA X.K cA W f σ H ((mArgs ms e S1).bind fun vs S2 => .ok (w :: vs) S2) Q := q'
    cases hms : mArgs ms e S1 with
    | ok ws S2 =>
      rw [hms] at q2
      intro g2 H2 vs X2 r2 q3
      exact q2 g2 H2 (v :: vs) (X1.trans X2) r2 (repWs_cons.mpr ⟨v, vs, rfl, X2.repW q1, q3⟩)
    | exc c n S2 =>
      rw [hms] at q2
      exact fun g2 H2 d X2 => q2 g2 H2 d (X1.trans X2)
    | bad =>
      rw [hms] at q2
      exact q2
  | exc c n S1 =>
    rw [hm] at q'
    exact q'
  | bad =>
    rw [hm] at q'
    exact q'
end
end PV

/-! The operators, items, slices, displays, built-in functions and methods, by values. -/
namespace PV
open PySem L2 PySem.Spec PyProof.Rows

/-! ### a list told to change no more -/
section
variable {X : Cx} {cA : Nat → Addr} {W : WX}
theorem inv_frz {pins : List (Addr × Obj)} {σ : L2.St} {H : Hp} {s : Shared} {a : Addr} {u : HO} (I : Inv X pins σ H s) (h : H a = some u) (hu : (∃ xs, u = .lst xs) ∨ (∃ xs, u = .dK xs)) :
    ∃ o, Inv X pins σ (upd H a (.frz o u)) s := by
  obtain ⟨o, ho⟩ : ∃ o, s.heap.get? a = some o := by
    have z := I.hok a u h
    rcases hu with ⟨xs, rfl⟩ | ⟨xs, rfl⟩
    · obtain ⟨_, _, _, _, e⟩ := z
      exact ⟨_, e⟩
    · obtain ⟨_, _, _, _, o, _, _, e, _⟩ := z
      exact ⟨_, e⟩
  have ns : ∀ v, H a = some v → (∃ xs, v = HO.tup xs) ∨ (∃ o w, v = HO.frz o w) ∨ (∃ y, v = HO.own y) ∨ (∃ ps, v = HO.tbl ps) → False := fun v e q => by
    rw [h] at e
    cases e
    rcases hu with ⟨xs, rfl⟩ | ⟨xs, rfl⟩ <;> rcases q with ⟨_, z⟩ | ⟨_, _, z⟩ | ⟨_, z⟩ | ⟨_, z⟩ <;> cases z
  refine ⟨o, I.ok, I.os, I.bare, ⟨I.base.keep, I.base.slot, fun b ob e n hx => ?_, I.base.there, fun b xs e => ?_, fun b ob w e => ?_, fun b ps e => ?_⟩, I.loc, I.cell, ?_, fun x c e => ?_, fun p hp => ?_, fun b v e => ?_, I.len⟩
  · have z := I.base.free b ob e n hx
    rw [upd_ne (fun q => by rw [q, h] at z; cases z)]
    exact z
  · have z := I.base.tups b xs e
    rw [upd_ne (fun q => ns _ (by rw [← q]; exact z) (.inl ⟨_, rfl⟩))]
    exact z
  · have z := I.base.frzs b ob w e
    rw [upd_ne (fun q => ns _ (by rw [← q]; exact z) (.inr (.inl ⟨_, _, rfl⟩)))]
    exact z
  · obtain ⟨m, z⟩ := I.base.tbls b ps e
    refine ⟨m, ?_⟩
    rw [upd_ne (fun q => ns _ (by rw [← q]; exact z) (.inr (.inr (.inr ⟨_, rfl⟩))))]
    exact z
  · rw [upd_ne (fun q => by have z := I.free; rw [q, h] at z; cases z)]
    exact I.free
  · rw [upd_ne (fun q => by have z := I.freeC x c e; rw [q, h] at z; cases z)]
    exact I.freeC x c e
  · obtain ⟨p1, p2, p3⟩ := I.pin p hp
    exact ⟨p1, by rw [upd_ne (fun q => by rw [q, h] at p2; cases p2)]; exact p2, p3⟩
  · have owns : ∀ c y, H c = some (.own y) → upd H a (.frz o u) c = some (.own y) := fun c y q => by
      rw [upd_ne (fun z => ns _ (by rw [← z]; exact q) (.inr (.inr (.inl ⟨_, rfl⟩))))]
      exact q
    have tups : ∀ c xs, H c = some (.tup xs) → upd H a (.frz o u) c = some (.tup xs) := fun c y q => by
      rw [upd_ne (fun z => ns _ (by rw [← z]; exact q) (.inl ⟨_, rfl⟩))]
      exact q
    by_cases z : b = a
    · subst z
      rw [upd_same] at e
      cases e
      exact ⟨ho, (I.hok b u h).stay (fun _ _ _ q => q) (fun c q => owns c _ q) tups⟩
    · rw [upd_ne z] at e
      exact (I.hok b v e).stay (fun _ _ _ q => q) (fun c q => owns c _ q) tups
/-- what is wanted of a list that is to change no more -/
def fzQ (Q : VK) : VK := fun v H => ∃ a xs, v = .ref a ∧ H a = some (.lst xs) ∧ ∀ o, Q v (upd H a (.frz o (.lst xs)))
theorem ep_fz {pins : List (Addr × Obj)} {σ : L2.St} {s : Shared} {u : Value} {Q : VK} (h : EP X pins σ (fzQ Q) u s) : EP X pins σ Q u s := by
  obtain ⟨v, H, I, r, a, xs, e, ha, q⟩ := h
  obtain ⟨o, I2⟩ := inv_frz I ha (.inl ⟨xs, rfl⟩)
  exact ⟨v, _, I2, r, q o⟩
theorem pe_fzE {e : Expr} {t : TE} (h : PE X e t) : PE X e (fun σ H Q => t σ H (fzQ Q)) := ⟨fun pins s σ H Q I q => thn (h.run pins s σ H _ I q) fun _ _ z => ep_fz z⟩
theorem op_fz {f : Value → Value → Sem Value} {r : R2} (h : OpR X f r) : OpR X f (fun x y H Q => r x y H (fzQ Q)) := fun pins s σ H x y v u Q I rx ry q => thn (h pins s σ H x y v u _ I rx ry q) fun _ _ z => ep_fz z
theorem call_fz {f : Value} {r : List V → Hp → VK → Prop} (h : CallR X f r) : CallR X f (fun vs H Q => r vs H (fzQ Q)) := fun pins s σ H xs us Q I rs q => thn (h pins s σ H xs us _ I rs q) fun _ _ z => ep_fz z
theorem mt_fz {id : String} {r : V → List V → Hp → VK → Prop} (h : MtR X id r) : MtR X id (fun x vs H Q => r x vs H (fzQ Q)) := fun pins s σ H x xs v us Q I rx rs q => thn (h pins s σ H x xs v us _ I rx rs q) fun _ _ z => ep_fz z
theorem sl_fz {r : V → Option Int → Option Int → Hp → VK → Prop} (h : SlR X r) : SlR X (fun x lo hi H Q => r x lo hi H (fzQ Q)) := fun pins s σ H x v vl vu lo hi sl Q I rx hs pl pu q => by
  obtain ⟨T, id, h1, h2, h3⟩ := h pins s σ H x v vl vu lo hi sl _ I rx hs pl pu q
  exact ⟨T, id, h1, h2, thn h3 fun _ _ z => ep_fz z⟩
end

section
variable {K : PySem.W.Frag} {cA : Nat → Addr} {f g : Nat → Option Addr} {H H1 : Hp} {Q : VK} {S : Sto}
/-- the end of an operation: a new list that changes no more -/
theorem okO.newF {vs : List Vl} {xs : List V} (r : Rel K cA f H S) (q : RepWs K cA f H vs xs) (h : okO K cA f H (lstF vs S) Q) {p : Addr} (hp : H p = none) : xs.length ≤ sizeLine ∧ fzQ Q (.ref p) (upd H p (.lst xs)) := by
  unfold lstF at h
  split at h
  · rename_i hl
    rw [repWs_len q]
    refine ⟨hl, p, xs, rfl, upd_same, fun o => ?_⟩
    rw [upd_upd]
    cases e : pures vs with
    | none =>
      rw [e] at h
      exact h.elim
    | some ds =>
      rw [e] at h
      have X1 : Ext f H f (upd H p (.frz o (.lst xs))) := Ext.laid hp
      exact h f _ _ X1 (r.laid hp) (repW_p.mpr (repD_list.mpr ⟨p, xs, rfl, .inl ⟨o, upd_same⟩, X1.repDs (repWs_pures q e)⟩))
  · exact h.elim
theorem okO.newFl {vs : List Vl} {xs : List V} (q : RepWs K cA f H vs xs) (h : okO K cA f H (lstF vs S) Q) : xs.length ≤ sizeLine := by
  unfold lstF at h
  split at h
  · rename_i hl
    rw [repWs_len q]
    exact hl
  · exact h.elim
/-- a new list that may change -/
theorem okO.newM {vs : List Vl} {xs : List V} (r : Rel K cA f H S) (q : RepWs K cA f H vs xs) (h : okO K cA f H (lstM vs S) Q) {p : Addr} (hp : H p = none) : xs.length ≤ sizeLine ∧ Q (.ref p) (upd H p (.lst xs)) := by
  unfold lstM at h
  split at h
  · rename_i hl
    rw [repWs_len q]
    refine ⟨hl, ?_⟩
    have X1 : Ext f H (addF f S.length p) (upd H p (.lst xs)) := Ext.add r hp
    exact h _ _ _ X1 (r.add hp ⟨xs, upd_same, X1.repWs q⟩) (repW_r.mpr ⟨p, rfl, addF_self⟩)
  · exact h.elim
theorem okO.newMl {vs : List Vl} {xs : List V} (q : RepWs K cA f H vs xs) (h : okO K cA f H (lstM vs S) Q) : xs.length ≤ sizeLine := by
  unfold lstM at h
  split at h
  · rename_i hl
    rw [repWs_len q]
    exact hl
  · exact h.elim
/-- a new tuple -/
theorem okO.newT {vs : List Vl} {xs : List V} (r : Rel K cA f H S) (q : RepWs K cA f H vs xs) (h : okO K cA f H (.ok (mkTup vs) S) Q) {p : Addr} (hp : H p = none) : Q (.ref p) (upd H p (.tup xs)) := by
  have X1 : Ext f H f (upd H p (.tup xs)) := Ext.laid hp
  refine h f _ _ X1 (r.laid hp) ?_
  unfold mkTup
  cases e : pures vs with
  | some ds => exact repW_p.mpr (repD_tuple.mpr ⟨p, xs, rfl, SqT.of upd_same, X1.repDs (repWs_pures q e)⟩)
  | none => exact repW_t.mpr ⟨p, xs, rfl, SqT.of upd_same, X1.repWs q⟩
theorem asL_rep {v : Vl} {vs : List Vl} {x : V} (r : Rel K cA f H S) (q : RepW K cA f H v x) (e : asL S v = some vs) : ∃ a xs, x = .ref a ∧ SqL K H a xs ∧ RepWs K cA f H vs xs := by
  cases v with
  | p d =>
    cases d with
    | list ds =>
      obtain ⟨a, xs, e1, l, q2⟩ := repD_list.mp (repW_p.mp q)
      rw [asL_list] at e
      cases e
      exact ⟨a, xs, e1, l.sq, repWs_map.mpr q2⟩
    | _ => cases e
  | r i =>
    obtain ⟨a, e1, h1⟩ := repW_r.mp q
    rw [asL_r] at e
    unfold entL at e
    cases z : S[i]? with
    | none => rw [z] at e; cases e
    | some en =>
      rw [z] at e
      cases en with
      | lst ws =>
        cases e
        obtain ⟨a', h2, xs, h3, h4⟩ := r.ent i _ z (fun q => by cases q)
        rw [h1] at h2
        cases h2
        exact ⟨a, xs, e1, SqL.of h3, h4⟩
      | _ => cases e
  | _ => cases e
theorem asT_rep {v : Vl} {vs : List Vl} {x : V} (q : RepW K cA f H v x) (e : asT v = some vs) : ∃ a xs, x = .ref a ∧ SqT K H a xs ∧ RepWs K cA f H vs xs := by
  cases v with
  | p d =>
    cases d with
    | tuple ds =>
      obtain ⟨a, xs, e1, l, q2⟩ := repD_tuple.mp (repW_p.mp q)
      rw [asT_tuple] at e
      cases e
      exact ⟨a, xs, e1, l, repWs_map.mpr q2⟩
    | _ => cases e
  | t ws =>
    obtain ⟨a, xs, e1, l, q2⟩ := repW_t.mp q
    rw [asT_t] at e
    cases e
    exact ⟨a, xs, e1, l, q2⟩
  | _ => cases e
theorem asQ_rep {v : Vl} {vs : List Vl} {x : V} (r : Rel K cA f H S) (q : RepW K cA f H v x) (e : asQ S v = some vs) : ∃ a xs, x = .ref a ∧ (SqL K H a xs ∨ SqT K H a xs) ∧ RepWs K cA f H vs xs := by
  unfold asQ at e
  cases z : asL S v with
  | some ws =>
    rw [z] at e
    cases e
    obtain ⟨a, xs, e1, l, q2⟩ := asL_rep r q z
    exact ⟨a, xs, e1, .inl l, q2⟩
  | none =>
    rw [z] at e
    obtain ⟨a, xs, e1, l, q2⟩ := asT_rep q e
    exact ⟨a, xs, e1, .inr l, q2⟩
theorem entL_rep {i : Nat} {vs : List Vl} {x : V} (r : Rel K cA f H S) (q : RepW K cA f H (.r i) x) (e : entL S i = some vs) : ∃ a xs, x = .ref a ∧ f i = some a ∧ H a = some (.lst xs) ∧ RepWs K cA f H vs xs := by
  obtain ⟨a, e1, h1⟩ := repW_r.mp q
  unfold entL at e
  cases z : S[i]? with
  | none => rw [z] at e; cases e
  | some en =>
    rw [z] at e
    cases en with
    | lst ws =>
      cases e
      obtain ⟨a', h2, xs, h3, h4⟩ := r.ent i _ z (fun q => by cases q)
      rw [h1] at h2
      cases h2
      exact ⟨a, xs, e1, h1, h3, h4⟩
    | _ => cases e
theorem entK_rep {i : Nat} {vs : List (Key × Vl)} {x : V} (r : Rel K cA f H S) (q : RepW K cA f H (.r i) x) (e : entK S i = some vs) : ∃ a xs, x = .ref a ∧ f i = some a ∧ H a = some (.dK xs) ∧ RepK K cA f H vs xs := by
  obtain ⟨a, e1, h1⟩ := repW_r.mp q
  unfold entK at e
  cases z : S[i]? with
  | none => rw [z] at e; cases e
  | some en =>
    rw [z] at e
    cases en with
    | dK ws =>
      cases e
      obtain ⟨a', h2, xs, h3, h4⟩ := r.ent i _ z (fun q => by cases q)
      rw [h1] at h2
      cases h2
      exact ⟨a, xs, e1, h1, h3, h4⟩
    | _ => cases e
/-- a place's list becomes another one -/
theorem okO.setL {i : Nat} {a : Addr} {w : Vl} {x : V} {vs : List Vl} {xs ys : List V} (r : Rel K cA f H S) (hi : f i = some a) (hu : H a = some (.lst ys)) (q : RepWs K cA f H vs xs) (qw : RepW K cA f H w x)
    (h : okO K cA f H (.ok w (S.set i (.lst vs))) Q) : Q x (upd H a (.lst xs)) := by
  have X1 : Ext f H f (upd H a (.lst xs)) := Ext.set hi hu (fun z => z)
  exact h f _ _ X1 (r.set hi hu (fun z => z) ⟨xs, upd_same, X1.repWs q⟩) (X1.repW qw)
end

/-! ### the operators -/
section
variable {X : Cx} {cA : Nat → Addr}
theorem nox_ok {w : Vl} {S : Sto} : NoX (.ok w S) := fun _ _ _ q => nomatch q
theorem nox_bad : NoX .bad := fun _ _ _ q => nomatch q
theorem nox_if {c : Prop} [Decidable c] {a b : R Vl} (ha : NoX a) (hb : NoX b) : NoX (if c then a else b) := by
  by_cases h : c
  · rw [if_pos h]; exact ha
  · rw [if_neg h]; exact hb
theorem nox_lstF (vs : List Vl) (S : Sto) : NoX (lstF vs S) := by
  unfold lstF
  refine nox_if ?_ nox_bad
  split
  · exact nox_ok
  · exact nox_bad
theorem nox_lstM (vs : List Vl) (S : Sto) : NoX (lstM vs S) := by
  unfold lstM
  exact nox_if nox_ok nox_bad
/-- + of two lists, whatever they are read from -/
theorem op_catL {pins : List (Addr × Obj)} {s : Shared} {σ : L2.St} {H : Hp} {a b : Addr} {xs ys : List V} {Q : VK} (I : Inv X pins σ H s) (ha : SqL X.K H a xs) (hb : SqL X.K H b ys)
    (hl : xs.length + ys.length ≤ sizeLine) (q : ∀ p, H p = none → Q (.ref p) (upd H p (.lst (xs ++ ys)))) : wpAny (model X.prog X.w) X.A (binaryOp .Add (.ref a) (.ref b)) (EP X pins σ Q) X.xe s := by
  obtain ⟨its, r1, p1, z1⟩ := I.list ha
  obtain ⟨jts, r2, p2, z2⟩ := I.list hb
  obtain ⟨⟨c1, d1, t1, k1⟩, n1, g1, e1, e2, e3⟩ := p1
  obtain ⟨⟨c2, d2, t2, k2⟩, n2, g2, e4, e5, e6⟩ := p2
  dsimp only at e1 e2 e3 e4 e5 e6
  subst e1 e2 e3 e4 e5 e6
  have hz : its.toArray.size + jts.toArray.size ≤ sizeLine := by
    rw [List.size_toArray, List.size_toArray, ← r1.length, ← r2.length]
    exact hl
  refine concat_meets ⟨_, g1, rfl⟩ ⟨_, g2, rfl⟩ noFill_list_add seq_list_add PySem.F.slot_list_add PySem.F.entry_list_add (PySem.F.args_list_add_2 _ _)
    (PyProof.Rows.list_addW a b its.toArray jts.toArray n1 n2 none none k1 k2 hz) ⟨g1, g2, ?_⟩
  refine ⟨.ref s.heap.objs.size, upd H s.heap.objs.size (.lst (xs ++ ys)), I.laid (t' := s.toks) (fun b u e => Heap.get?_push_of_some _ e) (Nat.le_refl _) ?_, rfl, q _ (I.hok.fresh (Nat.le_refl _))⟩
  refine ⟨by rw [List.length_append]; exact hl, its ++ jts, 0, r1.append r2, ?_⟩
  have e : (its ++ jts).toArray = its.toArray ++ jts.toArray := by simp
  rw [e]
  exact Heap.get?_push_size _ rfl
end
end PV

/-! Each operator of the programs, by values. -/
namespace PV
open PySem L2 PySem.Spec PyProof.Rows
section
variable {X : Cx} {cA : Nat → Addr}
/-- an operator that gives data, from data: by the layer's own rule -/
theorem op2_add : Op2 X cA (binaryOp .Add) addV := by
  refine ⟨fun pins s σ H x y v u Q I rx ry h => ?_, fun u v S => ?_⟩
  · obtain ⟨f, S, a, b, r, ra, rb, q⟩ := h
    unfold addV at q
    split at q
    · rename_i i j
      rw [repD_int.mp (repW_p.mp ra)] at rx
      rw [repD_int.mp (repW_p.mp rb)] at ry
      exact op_add pins s σ H _ _ v u Q I rx ry ⟨i, j, rfl, rfl, okO.here q r (repW_p.mpr (repD_int.mpr rfl))⟩
    · rename_i i j
      rw [repD_str.mp (repW_p.mp ra)] at rx
      rw [repD_str.mp (repW_p.mp rb)] at ry
      split at q
      · rename_i hl
        exact op_add_str pins s σ H _ _ v u Q I rx ry ⟨i, j, rfl, rfl, hl, okO.here q r (repW_p.mpr (repD_str.mpr rfl))⟩
      · exact q.elim
    · rename_i i j
      obtain ⟨p, xs, rfl, lx, dx⟩ := repD_tuple.mp (repW_p.mp ra)
      obtain ⟨p2, ys, rfl, ly, dy⟩ := repD_tuple.mp (repW_p.mp rb)
      split at q
      · rename_i hl
        have n1 := repDs_len dx
        have n2 := repDs_len dy
        have q2 : okO X.K cA f H (.ok (mkTup ((i ++ j).map Vl.p)) S) Q := by
          unfold mkTup
          rw [pures_map]
          exact q
        refine op_catT pins s σ H _ _ v u Q I rx ry ⟨p, p2, xs, ys, rfl, rfl, lx, ly, ?_, by rw [n1, n2]; exact hl.2, fun e => ?_, fun e p3 hp => ?_⟩
        · intro e
          rw [e] at n1
          exact hl.1 (List.eq_nil_of_length_eq_zero n1.symm)
        · rw [e] at n2
          have ej : j = [] := List.eq_nil_of_length_eq_zero n2.symm
          rw [ej, List.append_nil] at q
          exact okO.here q r ra
        · refine okO.newT r ?_ q2 hp
          rw [List.map_append]
          exact repWs_append (repWs_map.mpr dx) (repWs_map.mpr dy)
      · exact q.elim
    · split at q
      · rename_i ea eb
        obtain ⟨p, xs, rfl, lx, dx⟩ := asL_rep r ra ea
        obtain ⟨p2, ys, rfl, ly, dy⟩ := asL_rep r rb eb
        cases rx
        cases ry
        refine thn (op_catL (Q := fzQ Q) I lx ly ?_ fun p3 hp => (okO.newF r (repWs_append dx dy) q hp).2) fun _ _ z => ep_fz z
        have z := okO.newFl (repWs_append dx dy) q
        rw [List.length_append] at z
        exact z
      · exact q.elim
  · unfold addV
    split
    · exact nox_ok
    · exact nox_if nox_ok nox_bad
    · exact nox_if nox_ok nox_bad
    · split
      · exact nox_lstF _ _
      · exact nox_bad
theorem op2_catM : Op2 X cA (binaryOp .Add) catM := by
  refine ⟨fun pins s σ H x y v u Q I rx ry h => ?_, fun u v S => ?_⟩
  · obtain ⟨f, S, a, b, r, ra, rb, q⟩ := h
    unfold catM at q
    split at q
    · rename_i ea eb
      obtain ⟨p, xs, rfl, lx, dx⟩ := asL_rep r ra ea
      obtain ⟨p2, ys, rfl, ly, dy⟩ := asL_rep r rb eb
      cases rx
      cases ry
      refine op_catL I lx ly ?_ fun p3 hp => (okO.newM r (repWs_append dx dy) q hp).2
      have z := okO.newMl (repWs_append dx dy) q
      rw [List.length_append] at z
      exact z
    · exact q.elim
  · unfold catM
    split
    · exact nox_lstM _ _
    · exact nox_bad
/-- of two ints, under a condition -/
theorem op2_int {o : Value → Value → Sem Value} {C : Int → Int → Prop} {fn : Int → Int → D} {gn : Int → Int → V} {op : Vl → Vl → Sto → R Vl} (ho : OpR X o (rI C gn)) (hr : ∀ H i j, RepD X.K H (fn i j) (gn i j))
    (h1 : ∀ i j S Q f H, okO X.K cA f H (op (.p (.int i)) (.p (.int j)) S) Q → C i j ∧ op (.p (.int i)) (.p (.int j)) S = .ok (.p (fn i j)) S) (h2 : ∀ u v S Q f H, okO X.K cA f H (op u v S) Q → ∃ i j, u = .p (.int i) ∧ v = .p (.int j)) (nx : ∀ u v S, NoX (op u v S)) : Op2 X cA o op :=
  ⟨fun pins s σ H x y v u Q I rx ry h => by
    obtain ⟨f, S, a, b, r, ra, rb, q⟩ := h
    obtain ⟨i, j, rfl, rfl⟩ := h2 _ _ _ _ _ _ q
    obtain ⟨c, e⟩ := h1 _ _ _ _ _ _ q
    rw [e] at q
    rw [repD_int.mp (repW_p.mp ra)] at rx
    rw [repD_int.mp (repW_p.mp rb)] at ry
    exact ho pins s σ H _ _ v u Q I rx ry ⟨i, j, rfl, rfl, c, okO.here q r (repW_p.mpr (hr H i j))⟩, nx⟩
theorem rI_of {o : Value → Value → Sem Value} {gn : Int → Int → V} (h : OpR X o (rI0 gn)) : OpR X o (rI (fun _ _ => True) gn) := fun pins s σ H x y v u Q I rx ry ⟨i, j, e1, e2, _, q⟩ => h pins s σ H x y v u Q I rx ry ⟨i, j, e1, e2, q⟩
theorem op2_sub : Op2 X cA (binaryOp .Sub) subV :=
  op2_int (rI_of op_sub) (fun H i j => repD_int.mpr rfl) (fun i j S Q f H h => ⟨trivial, rfl⟩) (fun u v S Q f H h => by
    unfold subV at h
    split at h
    · exact ⟨_, _, rfl, rfl⟩
    · exact h.elim) (fun u v S => by
    unfold subV
    split
    · exact nox_ok
    · exact nox_bad)
theorem mulFits_ok {i j : Int} (h : MulFits i j) : IntMulOk i j := by
  have b : ∀ x : Int, Builtin.Int.intBits x ≤ x.natAbs.log2 + 1 := fun x => by
    unfold Builtin.Int.intBits
    split <;> omega
  have b1 := b i
  have b2 := b j
  have hb : i.natAbs.log2 + j.natAbs.log2 < 100000000 := h
  have hl : bitsLine = 134217728 := by decide
  unfold IntMulOk
  intro q
  rw [Bool.and_eq_true] at q
  have q2 := q.2
  unfold Builtin.Int.intTooBig at q2
  have q3 := of_decide_eq_true q2
  rw [hl] at q3
  omega
theorem op_mulB : OpR X (binaryOp .Mult) (rI MulFits fun i j => .int (i * j)) := opI fun _ _ _ _ _ _ _ hc q => mul_int q (mulFits_ok hc)
theorem mulOk_small {a : Str} {k : Int} (h1 : -(2 ^ 62) ≤ k) (h2 : k < 2 ^ 62) (h3 : a.length * k.toNat ≤ 16777216) : PySem.MulOk a k := by
  refine ⟨?_, fun h4 h5 h6 => ?_, fun h4 h5 => ?_⟩
  · rw [decide_eq_false (by omega), decide_eq_false (by omega)]
    rfl
  · have hk : 1 ≤ k := by omega
    have h7 : ((2 : Int) ^ 63 - 1) / k < (a.length : Int) := h6
    have h8 : (2 : Int) ^ 63 - 1 < (a.length : Int) * k := by
      have := Int.lt_mul_of_ediv_lt (by omega) h7
      exact this
    have h9 : (a.length : Int) * k = ((a.length * k.toNat : Nat) : Int) := by
      rw [Int.natCast_mul, Int.toNat_of_nonneg (by omega)]
    rw [h9] at h8
    omega
  · have hs : sizeLine = 16777216 := sizeLine_eq
    unfold Builtin.Str.tooLong
    simp only [decide_eq_false_iff_not, hs]
    omega
theorem op2_mul : Op2 X cA (binaryOp .Mult) mulV := by
  refine ⟨fun pins s σ H x y v u Q I rx ry h => ?_, fun u v S => ?_⟩
  · obtain ⟨f, S, a, b, r, ra, rb, q⟩ := h
    unfold mulV at q
    split at q
    · rename_i i j
      rw [repD_int.mp (repW_p.mp ra)] at rx
      rw [repD_int.mp (repW_p.mp rb)] at ry
      split at q
      · rename_i hl
        exact op_mulB pins s σ H _ _ v u Q I rx ry ⟨i, j, rfl, rfl, hl, okO.here q r (repW_p.mpr (repD_int.mpr rfl))⟩
      · exact q.elim
    · rename_i z k
      rw [repD_str.mp (repW_p.mp ra)] at rx
      rw [repD_int.mp (repW_p.mp rb)] at ry
      split at q
      · rename_i hl
        obtain ⟨t, rfl⟩ := rx
        obtain ⟨t', rfl⟩ := ry
        refine SB.mul (mulOk_small hl.1 hl.2.1 hl.2.2) fun t2 k2 => ?_
        exact ⟨.str (PySem.Txt.mul z k), H, I.tok _, ⟨t2, rfl⟩, okO.here q r (repW_p.mpr (repD_str.mpr rfl))⟩
      · exact q.elim
    · exact q.elim
  · unfold mulV
    split
    · exact nox_if nox_ok nox_bad
    · exact nox_if nox_ok nox_bad
    · exact nox_bad
theorem op_fdivB : OpR X (binaryOp .FloorDiv) (rI (fun _ j => DivFits j) fun i j => .int (i.fdiv j)) := opI fun i j _ _ _ _ _ hc q => floordiv_int hc.1 q (.inl (PyProof.noPylong_of_log2 hc.2))
theorem op2_fdiv : Op2 X cA (binaryOp .FloorDiv) fdivV :=
  op2_int op_fdivB (fun H i j => repD_int.mpr rfl) (fun i j S Q f H h => by
    by_cases c : DivFits j
    · exact ⟨c, if_pos c⟩
    · have e : fdivV (.p (.int i)) (.p (.int j)) S = .bad := if_neg c
      rw [e] at h
      exact h.elim) (fun u v S Q f H h => by
    unfold fdivV at h
    split at h
    · exact ⟨_, _, rfl, rfl⟩
    · exact h.elim) (fun u v S => by
    unfold fdivV
    split
    · exact nox_if nox_ok nox_bad
    · exact nox_bad)
theorem op2_mod : Op2 X cA (binaryOp .Mod) modV :=
  op2_int op_modN (fun H i j => repD_int.mpr rfl) (fun i j S Q f H h => by
    by_cases c : j ≠ 0
    · exact ⟨c, if_pos c⟩
    · have e : modV (.p (.int i)) (.p (.int j)) S = .bad := if_neg c
      rw [e] at h
      exact h.elim) (fun u v S Q f H h => by
    unfold modV at h
    split at h
    · exact ⟨_, _, rfl, rfl⟩
    · exact h.elim) (fun u v S => by
    unfold modV
    split
    · exact nox_if nox_ok nox_bad
    · exact nox_bad)
theorem op2_pow : Op2 X cA (binaryOp .Pow) powV :=
  op2_int op_pow (fun H i j => repD_int.mpr rfl) (fun i j S Q f H h => by
    by_cases c : 0 ≤ j ∧ j ≤ 1000000 ∧ i.natAbs < 2 ^ 64
    · exact ⟨c, if_pos c⟩
    · have e : powV (.p (.int i)) (.p (.int j)) S = .bad := if_neg c
      rw [e] at h
      exact h.elim) (fun u v S Q f H h => by
    unfold powV at h
    split at h
    · exact ⟨_, _, rfl, rfl⟩
    · exact h.elim) (fun u v S => by
    unfold powV
    split
    · exact nox_if nox_ok nox_bad
    · exact nox_bad)
theorem op1_neg : Op1 X cA (unaryOp .USub) negV := by
  refine ⟨fun pins s σ H x v Q I rx h => ?_, fun u S => ?_⟩
  · obtain ⟨f, S, a, r, ra, q⟩ := h
    unfold negV at q
    split at q
    · rename_i i
      rw [repD_int.mp (repW_p.mp ra)] at rx
      exact un_neg pins s σ H _ v Q I rx ⟨i, rfl, okO.here q r (repW_p.mpr (repD_int.mpr rfl))⟩
    · exact q.elim
  · unfold negV
    split
    · exact nox_ok
    · exact nox_bad
theorem op2_le : Op2 X cA (compareOp .LtE) leV :=
  op2_int (rI_of op_le) (fun H i j => repD_bool.mpr rfl) (fun i j S Q f H h => ⟨trivial, rfl⟩) (fun u v S Q f H h => by
    unfold leV at h
    split at h
    · exact ⟨_, _, rfl, rfl⟩
    · exact h.elim) (fun u v S => by
    unfold leV
    split
    · exact nox_ok
    · exact nox_bad)
theorem op2_gt : Op2 X cA (compareOp .Gt) gtV :=
  op2_int (rI_of op_gt) (fun H i j => repD_bool.mpr rfl) (fun i j S Q f H h => ⟨trivial, rfl⟩) (fun u v S Q f H h => by
    unfold gtV at h
    split at h
    · exact ⟨_, _, rfl, rfl⟩
    · exact h.elim) (fun u v S => by
    unfold gtV
    split
    · exact nox_ok
    · exact nox_bad)
theorem op2_ge : Op2 X cA (compareOp .GtE) geV :=
  op2_int (rI_of op_ge) (fun H i j => repD_bool.mpr rfl) (fun i j S Q f H h => ⟨trivial, rfl⟩) (fun u v S Q f H h => by
    unfold geV at h
    split at h
    · exact ⟨_, _, rfl, rfl⟩
    · exact h.elim) (fun u v S => by
    unfold geV
    split
    · exact nox_ok
    · exact nox_bad)
theorem op2_lt (hu : X.A.units < cLine) : Op2 X cA (compareOp .Lt) ltV := by
  refine ⟨fun pins s σ H x y v u Q I rx ry h => ?_, fun u v S => ?_⟩
  · obtain ⟨f, S, a, b, r, ra, rb, q⟩ := h
    unfold ltV at q
    split at q
    · rename_i i j
      rw [repD_int.mp (repW_p.mp ra)] at rx
      rw [repD_int.mp (repW_p.mp rb)] at ry
      exact op_lt pins s σ H _ _ v u Q I rx ry ⟨i, j, rfl, rfl, okO.here q r (repW_p.mpr (repD_bool.mpr rfl))⟩
    · rename_i i j
      rw [repD_str.mp (repW_p.mp ra)] at rx
      rw [repD_str.mp (repW_p.mp rb)] at ry
      exact op_lt_str pins s σ H _ _ v u Q I rx ry ⟨i, j, rfl, rfl, okO.here q r (repW_p.mpr (repD_bool.mpr rfl))⟩
    · rename_i i j
      obtain ⟨p, xs, rfl, lx, dx⟩ := repD_tuple.mp (repW_p.mp ra)
      obtain ⟨p2, ys, rfl, ly, dy⟩ := repD_tuple.mp (repW_p.mp rb)
      split at q
      · rename_i e1 e2
        rw [repDs_ints dx e1] at lx
        rw [repDs_ints dy e2] at ly
        exact op_ltT hu pins s σ H _ _ v u Q I rx ry ⟨p, p2, _, _, rfl, rfl, lx, ly, okO.here q r (repW_p.mpr (repD_bool.mpr rfl))⟩
      · exact q.elim
    · exact q.elim
  · unfold ltV
    split
    · exact nox_ok
    · exact nox_ok
    · split
      · exact nox_ok
      · exact nox_bad
    · exact nox_bad
theorem isNone_rep {K : PySem.W.Frag} {f : Nat → Option Addr} {H : Hp} {w : Vl} {x : V} (h : RepW K cA f H w x) : decide (x = .non) = isNone w := by
  cases w with
  | p d =>
    have h' := repW_p.mp h
    cases d with
    | none => rw [repD_none.mp h'] <;> rfl
    | bool b => rw [repD_bool.mp h'] <;> rfl
    | int b => rw [repD_int.mp h'] <;> rfl
    | str b => rw [repD_str.mp h'] <;> rfl
    | list b => obtain ⟨p, xs, rfl, _⟩ := repD_list.mp h'; rfl
    | tuple b => obtain ⟨p, xs, rfl, _⟩ := repD_tuple.mp h'; rfl
    | dict b => exact absurd h' repD_dict
  | r i => obtain ⟨a, rfl, _⟩ := repW_r.mp h; rfl
  | t ws => obtain ⟨a, xs, rfl, _⟩ := repW_t.mp h; rfl
  | x c n => obtain ⟨a, d, rfl, _⟩ := repW_x.mp h; rfl
  | f k => rw [repW_f.mp h] <;> rfl
  | dc k => obtain ⟨a, o, ys, rfl, _⟩ := repW_dc.mp h; rfl
theorem op2_is : Op2 X cA (compareOp .Is) (isV false) := by
  refine ⟨fun pins s σ H x y v u Q I rx ry h => ?_, fun u v S => ?_⟩
  · obtain ⟨f, S, a, b, r, ra, rb, q⟩ := h
    unfold isV at q
    split at q
    · rw [repD_none.mp (repW_p.mp rb)] at ry
      refine op_isN pins s σ H _ _ v u Q I rx ry ⟨rfl, ?_⟩
      rw [isNone_rep ra]
      exact okO.here q r (repW_p.mpr (repD_bool.mpr rfl))
    · exact q.elim
  · unfold isV
    split
    · exact nox_ok
    · exact nox_bad
theorem op2_isnot : Op2 X cA (compareOp .IsNot) (isV true) := by
  refine ⟨fun pins s σ H x y v u Q I rx ry h => ?_, fun u v S => ?_⟩
  · obtain ⟨f, S, a, b, r, ra, rb, q⟩ := h
    unfold isV at q
    split at q
    · rw [repD_none.mp (repW_p.mp rb)] at ry
      refine op_notN pins s σ H _ _ v u Q I rx ry ⟨rfl, ?_⟩
      rw [isNone_rep ra]
      exact okO.here q r (repW_p.mpr (repD_bool.mpr rfl))
    · exact q.elim
  · unfold isV
    split
    · exact nox_ok
    · exact nox_bad
/-! == -/
mutual
theorem repD_dp {K : PySem.W.Frag} {H : Hp} : ∀ {d : D} {v : V}, RepD K H d v → Dp K H v d
  | .none, v, h => by rw [repD_none.mp h]; exact .non
  | .bool b, v, h => by rw [repD_bool.mp h]; exact .bl b
  | .int b, v, h => by rw [repD_int.mp h]; exact .int b
  | .str b, v, h => by rw [repD_str.mp h]; exact .str b
  | .list ds, v, h => by
    obtain ⟨p, xs, rfl, l, r⟩ := repD_list.mp h
    exact .lst l.sq (repDs_dp r)
  | .tuple ds, v, h => by
    obtain ⟨p, xs, rfl, l, r⟩ := repD_tuple.mp h
    exact .tup l (repDs_dp r)
  | .dict _, v, h => absurd h repD_dict
theorem repDs_dp {K : PySem.W.Frag} {H : Hp} : ∀ {ds : List D} {xs : List V}, RepDs K H ds xs → DpAll K H xs ds
  | [], xs, h => by rw [repDs_nil.mp h]; exact .nil
  | d :: ds, xs, h => by
    obtain ⟨x, r, rfl, h1, h2⟩ := repDs_cons.mp h
    exact .cons (repD_dp h1) (repDs_dp h2)
end
theorem datL_dp {K : PySem.W.Frag} {f : Nat → Option Addr} {H : Hp} {S : Sto} {w : Vl} {x : V} {d : D} (r : Rel K cA f H S) (h : RepW K cA f H w x) (e : datL S w = some d) : Dp K H x d := by
  cases w with
  | p d' =>
    cases (show some d' = some d from e)
    exact repD_dp (repW_p.mp h)
  | r i =>
    have e' : (match entL S i with
      | some vs => (pures vs).map PyData.list
      | none => none) = some d := e
    cases z : entL S i with
    | none =>
      rw [z] at e'
      cases e'
    | some vs =>
      rw [z] at e'
      obtain ⟨a, xs, rfl, _, h3, h4⟩ := entL_rep r h z
      have e2 : (pures vs).map PyData.list = some d := e'
      cases z2 : pures vs with
      | none => rw [z2] at e2; cases e2
      | some ds =>
        rw [z2] at e2
        cases e2
        exact .lst (SqL.of h3) (repDs_dp (repWs_pures h4 z2))
  | _ => cases e
theorem dp_flat {K : PySem.W.Frag} {H : Hp} {x : V} {d : D} (h : Dp K H x d) (f : flat d = true) : (d = .none ∧ x = .non) ∨ (∃ b, d = .bool b ∧ x = .bl b) ∨ (∃ b, d = .int b ∧ x = .int b) ∨ (∃ b, d = .str b ∧ x = .str b) := by
  cases h with
  | non => exact .inl ⟨rfl, rfl⟩
  | bl b => exact .inr (.inl ⟨b, rfl, rfl⟩)
  | int b => exact .inr (.inr (.inl ⟨b, rfl, rfl⟩))
  | str b => exact .inr (.inr (.inr ⟨b, rfl, rfl⟩))
  | lst _ _ => cases f
  | tup _ _ => cases f
theorem shq_two {d e : D} (h : (shq d && shq e) = true) : d.plain = true ∧ d.depth ≤ 32 ∧ e.plain = true ∧ e.depth ≤ 32 := by
  obtain ⟨h1, h2⟩ := Bool.and_eq_true_iff.mp h
  obtain ⟨h3, h4⟩ := Bool.and_eq_true_iff.mp h1
  obtain ⟨h5, h6⟩ := Bool.and_eq_true_iff.mp h2
  exact ⟨h3, of_decide_eq_true h4, h5, of_decide_eq_true h6⟩
theorem op2_eq (hu : X.A.units + 64 < cLine) : Op2 X cA (compareOp .Eq) eqV := by
  refine ⟨fun pins s σ H x y v u Q I rx ry h => ?_, fun u v S => ?_⟩
  · obtain ⟨f, S, a, b, r, ra, rb, q⟩ := h
    unfold eqV at q
    split at q
    · rename_i d e e1 e2
      have hd := datL_dp r ra e1
      have he := datL_dp r rb e2
      split at q
      · rename_i hc
        obtain ⟨h1, h2, h3, h4⟩ := shq_two hc
        have k := okO.here q r (v := .bl (PyData.eqv d e)) (repW_p.mpr (repD_bool.mpr rfl))
        obtain ⟨as, r1⟩ := Dp.reads I d x v hd rx
        obtain ⟨bs, r2⟩ := Dp.reads I e y u he ry
        exact SeqAt.eq_plain r1 r2 h1 h3 (by omega) ⟨.bl _, H, I, rfl, k⟩
      · exact q.elim
    · exact q.elim
  · unfold eqV
    split
    · exact nox_if nox_ok nox_bad
    · exact nox_bad
theorem op2_ne (hu : X.A.units + 64 < cLine) : Op2 X cA (compareOp .NotEq) neV := by
  refine ⟨fun pins s σ H x y v u Q I rx ry h => ?_, fun u v S => ?_⟩
  · obtain ⟨f, S, a, b, r, ra, rb, q⟩ := h
    unfold neV at q
    split at q
    · rename_i d e e1 e2
      have hd := datL_dp r ra e1
      have he := datL_dp r rb e2
      split at q
      · rename_i hc
        obtain ⟨h1, h2, h3, h4⟩ := shq_two hc
        have k := okO.here q r (v := .bl (!PyData.eqv d e)) (repW_p.mpr (repD_bool.mpr rfl))
        obtain ⟨as, r1⟩ := Dp.reads I d x v hd rx
        obtain ⟨bs, r2⟩ := Dp.reads I e y u he ry
        exact SeqAt.ne_plain r1 r2 h1 h3 (by omega) ⟨.bl _, H, I, rfl, k⟩
      · exact q.elim
    · exact q.elim
  · unfold neV
    split
    · exact nox_if nox_ok nox_bad
    · exact nox_bad
/-! in -/
theorem inV_run {neg : Bool} {o : CmpOp} (h1 : OpR X (compareOp o) (fun x y H Q => ∃ i j, x = .str i ∧ y = .str j ∧ Q (.bl (if neg then !(!(Builtin.Str.occurrences j i 0 j.length 1).isEmpty) else !(Builtin.Str.occurrences j i 0 j.length 1).isEmpty)) H))
    (h2 : OpR X (compareOp o) (fun x y H Q => ∃ d e ds, Dp X.K H x d ∧ Dp X.K H y e ∧ itsD e = some ds ∧ (shq d && shq e) = true ∧ Q (.bl (if neg then !inV0 d ds else inV0 d ds)) H)) : Op2 X cA (compareOp o) (inV neg) := by
  refine ⟨fun pins s σ H x y v u Q I rx ry h => ?_, fun u v S => ?_⟩
  · obtain ⟨f, S, a, b, r, ra, rb, q⟩ := h
    unfold inV at q
    split at q
    · rename_i i j
      rw [repD_str.mp (repW_p.mp ra)] at rx
      rw [repD_str.mp (repW_p.mp rb)] at ry
      exact h1 pins s σ H _ _ v u Q I rx ry ⟨i, j, rfl, rfl, okO.here q r (repW_p.mpr (repD_bool.mpr rfl))⟩
    · rename_i d _
      split at q
      · rename_i e e1
        split at q
        · rename_i ds e2
          split at q
          · rename_i hc
            exact h2 pins s σ H _ _ v u Q I rx ry ⟨d, e, ds, repD_dp (repW_p.mp ra), datL_dp r rb e1, e2, hc, okO.here q r (repW_p.mpr (repD_bool.mpr rfl))⟩
          · exact q.elim
        · exact q.elim
      · exact q.elim
    · exact q.elim
  · unfold inV
    split
    · exact nox_ok
    · split
      · split
        · exact nox_if nox_ok nox_bad
        · exact nox_bad
      · exact nox_bad
    · exact nox_bad
theorem op_in_data (hu : X.A.units + 64 < cLine) : OpR X (compareOp .In) (fun x y H Q => ∃ d e ds, Dp X.K H x d ∧ Dp X.K H y e ∧ itsD e = some ds ∧ (shq d && shq e) = true ∧ Q (.bl (if false then !inV0 d ds else inV0 d ds)) H) := by
  intro pins s σ H x y v u Q I rx ry h
  obtain ⟨d, e, ds, hd, he, hi, hc, q⟩ := h
  obtain ⟨h1, h2, h3, h4⟩ := shq_two hc
  obtain ⟨as, r1⟩ := Dp.reads I d x v hd rx
  obtain ⟨bs, r2⟩ := Dp.reads I e y u he ry
  cases e with
  | list es =>
    cases (show some es = some ds from hi)
    exact SeqAt.in_list_data r2 r1 (by simpa [PyData.plain] using h3) h1 (by omega) ⟨.bl _, H, I, rfl, q⟩
  | tuple es =>
    cases (show some es = some ds from hi)
    exact SeqAt.in_tuple_data r2 r1 (by simpa [PyData.plain] using h3) h1 (by omega) ⟨.bl _, H, I, rfl, q⟩
  | _ => cases hi
theorem op_notin_data (hu : X.A.units + 64 < cLine) : OpR X (compareOp .NotIn) (fun x y H Q => ∃ d e ds, Dp X.K H x d ∧ Dp X.K H y e ∧ itsD e = some ds ∧ (shq d && shq e) = true ∧ Q (.bl (if true then !inV0 d ds else inV0 d ds)) H) := by
  intro pins s σ H x y v u Q I rx ry h
  obtain ⟨d, e, ds, hd, he, hi, hc, q⟩ := h
  obtain ⟨h1, h2, h3, h4⟩ := shq_two hc
  obtain ⟨as, r1⟩ := Dp.reads I d x v hd rx
  obtain ⟨bs, r2⟩ := Dp.reads I e y u he ry
  cases e with
  | list es =>
    cases (show some es = some ds from hi)
    exact SeqAt.notIn_list_data r2 r1 (by simpa [PyData.plain] using h3) h1 (by omega) ⟨.bl _, H, I, rfl, q⟩
  | tuple es =>
    cases (show some es = some ds from hi)
    exact SeqAt.notIn_tuple_data r2 r1 (by simpa [PyData.plain] using h3) h1 (by omega) ⟨.bl _, H, I, rfl, q⟩
  | _ => cases hi
theorem op2_in (hu : X.A.units + 64 < cLine) : Op2 X cA (compareOp .In) (inV false) := inV_run (fun pins s σ H x y v u Q I rx ry h => op_in_str pins s σ H x y v u Q I rx ry h) (op_in_data hu)
theorem op2_notin (hu : X.A.units + 64 < cLine) : Op2 X cA (compareOp .NotIn) (inV true) := inV_run (fun pins s σ H x y v u Q I rx ry h => op_notIn_str pins s σ H x y v u Q I rx ry h) (op_notin_data hu)
end
end PV

/-! Displays, items, slices, built-in functions, methods. -/
namespace PV
open PySem L2 PySem.Spec PyProof.Rows
section
variable {X : Cx} {cA : Nat → Addr} {W : WX}
theorem e_tup {es : List Expr} {k : Nat} {ms : List M} {pos : Pos} (ha : PA X es (tA X.K cA W ms)) : PE X (.Tuple es k pos) (tE X.K cA W (mTup ms)) := pe_le (pe_tup ha) fun σ H Q h => by
  obtain ⟨f, e, S, r, er, q⟩ := h
  refine ⟨f, e, S, r, er, okA.bind q fun g H1 ws S1 vs X1 r1 q1 h1 => ?_⟩
  split at h1
  · rename_i hl
    rw [repWs_len q1]
    exact ⟨hl, fun p hp => okO.newT r1 q1 (okO.of h1 nox_ok) hp⟩
  · exact False.elim h1
theorem e_lstF {es : List Expr} {ms : List M} {pos : Pos} (ha : PA X es (tA X.K cA W ms)) : PE X (.List es pos) (tE X.K cA W (mLstF ms)) := pe_le (pe_fzE (pe_lst ha)) fun σ H Q h => by
  obtain ⟨f, e, S, r, er, q⟩ := h
  refine ⟨f, e, S, r, er, okA.bind q fun g H1 ws S1 vs X1 r1 q1 h1 => ?_⟩
  have h2 := okO.of h1 (nox_lstF _ _)
  exact ⟨okO.newFl q1 h2, fun p hp => (okO.newF r1 q1 h2 hp).2⟩
theorem e_lstM {es : List Expr} {ms : List M} {pos : Pos} (ha : PA X es (tA X.K cA W ms)) : PE X (.List es pos) (tE X.K cA W (mLstM ms)) := pe_le (pe_lst ha) fun σ H Q h => by
  obtain ⟨f, e, S, r, er, q⟩ := h
  refine ⟨f, e, S, r, er, okA.bind q fun g H1 ws S1 vs X1 r1 q1 h1 => ?_⟩
  have h2 := okO.of h1 (nox_lstM _ _)
  exact ⟨okO.newMl q1 h2, fun p hp => (okO.newM r1 q1 h2 hp).2⟩

/-! ### items -/
theorem atI_rep {K : PySem.W.Frag} {f : Nat → Option Addr} {H : Hp} {ws : List Vl} {xs : List V} {i : Int} {w : Vl} (h : RepWs K cA f H ws xs) (e : atI ws i = some w) : ∃ x, atI xs i = some x ∧ RepW K cA f H w x := by
  unfold atI at e ⊢
  rw [repWs_len h]
  cases z : ixN ws.length i with
  | none => rw [z] at e; cases e
  | some j =>
    rw [z] at e
    obtain ⟨x, h1, h2⟩ := repWs_get (i := j) h e
    exact ⟨x, h1, h2⟩
theorem ix_V : IxR X (rO2 X.K cA ixV) := by
  intro value slice pins s σ H x y v u Q I rx ry h hs
  obtain ⟨f, S, a, b, r, ra, rb, q⟩ := h
  unfold ixV at q
  split at q
  · rename_i z i
    rw [repD_str.mp (repW_p.mp ra)] at rx
    rw [repD_int.mp (repW_p.mp rb)] at ry
    split at q
    · rename_i hl
      split at q
      · rename_i c hc
        exact ix_str value slice pins s σ H _ _ v u Q I rx ry ⟨z, i, c, rfl, rfl, hl, hc, okO.here q r (repW_p.mpr (repD_str.mpr rfl))⟩ hs
      · exact q.elim
    · exact q.elim
  · rename_i i hne
    rw [repD_int.mp (repW_p.mp rb)] at ry
    split at q
    · rename_i vs e1
      split at q
      · rename_i w e2
        obtain ⟨p, xs, rfl, l, dx⟩ := asQ_rep r ra e1
        obtain ⟨z, e3, rz⟩ := atI_rep dx e2
        have k := okO.here q r rz
        rcases l with l | l
        · exact ix_list value slice pins s σ H _ _ v u Q I rx ry ⟨p, xs, i, z, rfl, rfl, l, e3, k⟩ hs
        · exact ix_tup value slice pins s σ H _ _ v u Q I rx ry ⟨p, xs, i, z, rfl, rfl, l, e3, k⟩ hs
      · exact q.elim
    · exact q.elim
  · exact q.elim
theorem nox_ix (u v : Vl) (S : Sto) : NoX (ixV u v S) := by
  unfold ixV
  split
  · refine nox_if ?_ nox_bad
    split
    · exact nox_ok
    · exact nox_bad
  · split
    · split
      · exact nox_ok
      · exact nox_bad
    · exact nox_bad
  · exact nox_bad
theorem e_ix {a b : Expr} {ma mb : M} {pos : Pos} (ha : PE X a (tE X.K cA W ma)) (hb : PE X b (tE X.K cA W mb)) (hs : PlainIx b := by exact fun _ _ => rfl) : PE X (.Subscript a b pos) (tE X.K cA W (m2 ixV ma mb)) :=
  pe_le (pe_ix ix_V ha hb hs) fun _ _ _ h => w_op2 nox_ix h
/-! ### slices -/
def okP (K : PySem.W.Frag) (cA : Nat → Addr) (W : WX) (f : Nat → Option Addr) (σ : L2.St) (H : Hp) (r : R (Option Int)) (Q : Option Int → Hp → Prop) : Prop := match r with
  | .ok w S' => ∀ g H', Ext f H g H' → Rel K cA g H' S' → Q w H'
  | .exc c n S' => ∀ g H' d, Ext f H g H' → Rel K cA g H' S' → ExD H' n d → W (.ref (cA c)) d σ H'
  | .bad => False
def tO (K : PySem.W.Frag) (cA : Nat → Addr) (W : WX) (m : Mo) : TO := fun σ H Q => ∃ f e S, Rel K cA f H S ∧ EnvR K cA f H e σ ∧ okP K cA W f σ H (m e S) Q
theorem po_le {e : Option Expr} {t t' : TO} (h : PO X e t) (k : ∀ σ H Q, t' σ H Q → t σ H Q) : PO X e t' := ⟨fun pins s σ H Q I q => h.run pins s σ H Q I (k σ H Q q)⟩
theorem o_no : PO X none (tO X.K cA W oNo) := po_le po_none fun σ H Q h => by
  obtain ⟨f, e, S, r, er, q⟩ := h
  exact q f H Ext.refl r
theorem o_at {a : Expr} {m : M} (ha : PE X a (tE X.K cA W m)) : PO X (some a) (tO X.K cA W (oAt m)) := po_le (po_some ha) fun σ H Q h => by
  obtain ⟨f, e, S, r, er, q⟩ := h
  refine ⟨f, e, S, r, er, ?_⟩
  unfold oAt at q
  cases hm : m e S with
  | ok w S1 =>
    rw [hm] at q
    intro g H1 v X1 r1 q1
    cases w with
    | p d =>
      cases d with
      | int i => exact ⟨i, repD_int.mp (repW_p.mp q1), q g H1 X1 r1⟩
      | _ => exact False.elim q
    | _ => exact False.elim q
  | exc c n S1 =>
    rw [hm] at q
    exact q
  | bad =>
    rw [hm] at q
    exact q
theorem okP.bind {K : PySem.W.Frag} {f : Nat → Option Addr} {σ : L2.St} {H : Hp} {Q : VK} {ma : R (Option Int)} {k : Option Int → Sto → R Vl} {R' : Option Int → Hp → Prop} (h : okE K cA W f σ H (ma.bind k) Q)
    (hk : ∀ g H1 w S1, Ext f H g H1 → Rel K cA g H1 S1 → okE K cA W g σ H1 (k w S1) Q → R' w H1) : okP K cA W f σ H ma R' := by
  cases ma with
  | ok w S => exact fun g2 H2 X r => hk g2 H2 w S X r (okE.ext h X)
  | exc c n S => exact h
  | bad => exact h
theorem repWs_cutL {K : PySem.W.Frag} {f : Nat → Option Addr} {H : Hp} {ws : List Vl} {xs : List V} (lo hi : Option Int) (h : RepWs K cA f H ws xs) : RepWs K cA f H (cutL ws lo hi) (cutV xs lo hi) := by
  unfold cutL cutV
  rw [repWs_len h]
  exact repWs_take _ (repWs_drop _ h)
def rSl (K : PySem.W.Frag) (cA : Nat → Addr) : V → Option Int → Option Int → Hp → VK → Prop := fun x lo hi H Q => ∃ f S u, Rel K cA f H S ∧ RepW K cA f H u x ∧ okO K cA f H (slV u lo hi S) Q
theorem sl_V : SlR X (rSl X.K cA) := by
  intro pins s σ H x v vl vu lo hi sl Q I rx hs pl pu h
  obtain ⟨f, S, a, r, ra, q⟩ := h
  unfold slV at q
  split at q
  · rename_i z
    rw [repD_str.mp (repW_p.mp ra)] at rx
    split at q
    · rename_i hl
      exact sl_str pins s σ H _ v vl vu lo hi sl Q I rx hs pl pu ⟨z, rfl, hl, okO.here q r (repW_p.mpr (repD_str.mpr rfl))⟩
    · exact q.elim
  · rename_i ds
    obtain ⟨p, xs, rfl, l, dx⟩ := repD_tuple.mp (repW_p.mp ra)
    split at q
    · exact q.elim
    · rename_i hc
      have hl := repDs_len dx
      have q2 : okO X.K cA f H (.ok (mkTup (cutL (ds.map Vl.p) lo hi)) S) Q := by
        have e : cutL (ds.map Vl.p) lo hi = (cutL ds lo hi).map Vl.p := by
          unfold cutL
          rw [List.length_map, List.map_take, List.map_drop]
        unfold mkTup
        rw [e, pures_map]
        exact q
      exact sl_tup pins s σ H _ v vl vu lo hi sl Q I rx hs pl pu ⟨p, xs, rfl, l, by rw [hl]; exact hc, fun p2 hp => okO.newT r (repWs_cutL lo hi (repWs_map.mpr dx)) q2 hp⟩
  · split at q
    · rename_i vs e1
      obtain ⟨p, xs, rfl, l, dx⟩ := asL_rep r ra e1
      exact sl_fz sl_list pins s σ H _ v vl vu lo hi sl Q I rx hs pl pu ⟨p, xs, rfl, l, fun p2 hp => (okO.newF r (repWs_cutL lo hi dx) q hp).2⟩
    · exact q.elim
theorem nox_sl (u : Vl) (lo hi : Option Int) (S : Sto) : NoX (slV u lo hi S) := by
  unfold slV
  split
  · exact nox_if nox_ok nox_bad
  · exact nox_if nox_bad nox_ok
  · split
    · exact nox_lstF _ _
    · exact nox_bad
theorem e_sl {a : Expr} {lo hi : Option Expr} {ma : M} {ml mh : Mo} {pos p2 : Pos} (ha : PE X a (tE X.K cA W ma)) (hl : PO X lo (tO X.K cA W ml)) (hh : PO X hi (tO X.K cA W mh)) : PE X (.Subscript a (.Slice lo hi none p2) pos) (tE X.K cA W (mSl ma ml mh)) :=
  pe_le (pe_slice sl_V ha hl hh) fun σ H Q h => by
    obtain ⟨f, e, S, r, er, q⟩ := h
    refine ⟨f, e, S, r, er, okE.bind q fun g H1 w S1 v X1 r1 q1 h1 => ?_⟩
    refine ⟨g, e, S1, r1, X1.envR er, okP.bind h1 fun g2 H2 l S2 X2 r2 h2 => ?_⟩
    refine ⟨g2, e, S2, r2, X2.envR (X1.envR er), okP.bind h2 fun g3 H3 u S3 X3 r3 h3 => ?_⟩
    exact ⟨g3, S3, w, r3, X3.repW (X2.repW q1), okO.of h3 (nox_sl _ _ _ _)⟩

/-! ### calls of built-in functions -/
def rC (K : PySem.W.Frag) (cA : Nat → Addr) (g : Fn) : List V → Hp → VK → Prop := fun xs H Q => ∃ f S ws, Rel K cA f H S ∧ RepWs K cA f H ws xs ∧ okO K cA f H (g ws S) Q
structure CallB (X : Cx) (cA : Nat → Addr) (v : Value) (g : Fn) : Prop where
  run : CallR X v (rC X.K cA g)
  nx : ∀ ws S, NoX (g ws S)
theorem w_call {K : PySem.W.Frag} {g : Fn} {ms : List M} (nx : ∀ ws S, NoX (g ws S)) {σ : L2.St} {H : Hp} {Q : VK} (h : tE K cA W (mCall g ms) σ H Q) : tCB (rC K cA g) (tA K cA W ms) σ H Q := by
  obtain ⟨f, e, S, r, er, q⟩ := h
  exact ⟨f, e, S, r, er, okA.bind q fun g2 H1 ws S1 vs X1 r1 q1 h1 => ⟨g2, S1, ws, r1, q1, okO.of h1 (nx _ _)⟩⟩
theorem e_callB {x : Str} {p pos : Pos} {a : Expr} {es : List Expr} {id : String} {g : Fn} {ms : List M} (hc : CallB X cA (.builtin id) g) (hg : Gl X x) (hm : X.mg x = none) (hv : bootBuiltins x = some (.builtin id)) (ha : PA X (a :: es) (tA X.K cA W ms))
    (hn : x ≠ "__name__" := by decide) (hdb : (x == ("__debug__" : Str)) = false := by decide)
    (he : starEach (a :: es) X.env = (false, eval a X.env) :: starEach es X.env := by rfl) (hpl : (backTo pos (starEach es X.env)).any (·.1) = false := by rfl) : PE X (.Call (.Name x p) (a :: es) [] pos) (tE X.K cA W (mCall g ms)) :=
  pe_le (pe_callB hc.run hg hm hv ha hn hdb he hpl) fun _ _ _ h => w_call hc.nx h
theorem e_callTy {x : Str} {p pos : Pos} {a : Expr} {es : List Expr} {T : String} {g : Fn} {ms : List M} (hc : CallB X cA (.type T) g) (hg : Gl X x) (hm : X.mg x = none) (hv : bootBuiltins x = some (.type T)) (ha : PA X (a :: es) (tA X.K cA W ms))
    (hn : x ≠ "__name__" := by decide) (hdb : (x == ("__debug__" : Str)) = false := by decide)
    (he : starEach (a :: es) X.env = (false, eval a X.env) :: starEach es X.env := by rfl) (hpl : (backTo pos (starEach es X.env)).any (·.1) = false := by rfl) : PE X (.Call (.Name x p) (a :: es) [] pos) (tE X.K cA W (mCall g ms)) :=
  pe_le (pe_callTy hc.run hg hm hv ha hn hdb he hpl) fun _ _ _ h => w_call hc.nx h
/-- of one argument -/
theorem callB_one {v : Value} {op : Vl → Sto → R Vl} (h : ∀ (pins : List (Addr × Obj)) (s : Shared) (σ : L2.St) (H : Hp) (x : V) (u : Value) (Q : VK) (f : Nat → Option Addr) (S : Sto) (w : Vl), Inv X pins σ H s → RelV x u → Rel X.K cA f H S → RepW X.K cA f H w x → okO X.K cA f H (op w S) Q →
    wpAny (model X.prog X.w) X.A (call v [u]) (EP X pins σ Q) X.xe s) (nx : ∀ u S, NoX (op u S)) : CallB X cA v (f1 op) :=
  ⟨fun pins s σ H xs us Q I rs h1 => by
    obtain ⟨f, S, ws, r, rw', q⟩ := h1
    unfold f1 at q
    split at q
    · rename_i w
      obtain ⟨x, t, rfl, h2, h3⟩ := repWs_cons.mp rw'
      obtain rfl := repWs_nil.mp h3
      obtain ⟨u, rfl, ru⟩ := Vals.one rs
      exact h pins s σ H x u Q f S w I ru r h2 q
    · exact q.elim, fun ws S => by
    unfold f1
    split
    · exact nx _ _
    · exact nox_bad⟩
theorem callB_two {v : Value} {op : Vl → Vl → Sto → R Vl} (h : ∀ (pins : List (Addr × Obj)) (s : Shared) (σ : L2.St) (H : Hp) (x y : V) (u u2 : Value) (Q : VK) (f : Nat → Option Addr) (S : Sto) (w w2 : Vl), Inv X pins σ H s → RelV x u → RelV y u2 → Rel X.K cA f H S → RepW X.K cA f H w x → RepW X.K cA f H w2 y → okO X.K cA f H (op w w2 S) Q →
    wpAny (model X.prog X.w) X.A (call v [u, u2]) (EP X pins σ Q) X.xe s) (nx : ∀ u w S, NoX (op u w S)) : CallB X cA v (f2 op) :=
  ⟨fun pins s σ H xs us Q I rs h1 => by
    obtain ⟨f, S, ws, r, rw', q⟩ := h1
    unfold f2 at q
    split at q
    · rename_i w w2
      obtain ⟨x, t, rfl, h2, h3⟩ := repWs_cons.mp rw'
      obtain ⟨y, t2, rfl, h4, h5⟩ := repWs_cons.mp h3
      obtain rfl := repWs_nil.mp h5
      obtain ⟨u, u2, rfl, ru, ru2⟩ := Vals.two rs
      exact h pins s σ H x y u u2 Q f S w w2 I ru ru2 r h2 h4 q
    · exact q.elim, fun ws S => by
    unfold f2
    split
    · exact nx _ _ _
    · exact nox_bad⟩
theorem b_len : CallB X cA (.builtin "len") (f1 lenV) := callB_one (fun pins s σ H x u Q f S w I ru r rw' q => by
  unfold lenV at q
  split at q
  · rename_i z
    rw [repD_str.mp (repW_p.mp rw')] at ru
    split at q
    · rename_i hl
      exact call_len_str pins s σ H _ _ Q I (.cons ru .nil) ⟨z, rfl, hl, okO.here q r (repW_p.mpr (repD_int.mpr rfl))⟩
    · exact q.elim
  · split at q
    · rename_i vs e1
      obtain ⟨p, xs, rfl, l, dx⟩ := asQ_rep r rw' e1
      refine call_len_seq pins s σ H _ _ Q I (.cons ru .nil) ⟨p, xs, rfl, l, ?_⟩
      rw [repWs_len dx]
      exact okO.here q r (repW_p.mpr (repD_int.mpr rfl))
    · exact q.elim) fun u S => by
  unfold lenV
  split
  · exact nox_if nox_ok nox_bad
  · split
    · exact nox_ok
    · exact nox_bad
theorem b_abs : CallB X cA (.builtin "abs") (f1 absV) := callB_one (fun pins s σ H x u Q f S w I ru r rw' q => by
  unfold absV at q
  split at q
  · rename_i z
    rw [repD_int.mp (repW_p.mp rw')] at ru
    exact call_abs pins s σ H _ _ Q I (.cons ru .nil) ⟨z, rfl, okO.here q r (repW_p.mpr (repD_int.mpr rfl))⟩
  · exact q.elim) fun u S => by
  unfold absV
  split
  · exact nox_ok
  · exact nox_bad
theorem b_int : CallB X cA (.type "int") (f1 intV) := callB_one (fun pins s σ H x u Q f S w I ru r rw' q => by
  unfold intV at q
  split at q
  · rename_i z
    rw [repD_int.mp (repW_p.mp rw')] at ru
    exact call_int1 pins s σ H _ _ Q I (.cons ru .nil) (.inl ⟨z, rfl, okO.here q r (repW_p.mpr (repD_int.mpr rfl))⟩)
  · rename_i z
    rw [repD_bool.mp (repW_p.mp rw')] at ru
    exact call_int1 pins s σ H _ _ Q I (.cons ru .nil) (.inr ⟨z, rfl, okO.here q r (repW_p.mpr (repD_int.mpr rfl))⟩)
  · rename_i z
    rw [repD_str.mp (repW_p.mp rw')] at ru
    split at q
    · rename_i n hn
      split at q
      · rename_i hl
        exact call_int_str pins s σ H _ _ Q I (.cons ru .nil) ⟨z, n, rfl, hn, hl, okO.here q r (repW_p.mpr (repD_int.mpr rfl))⟩
      · exact q.elim
    · exact q.elim
  · exact q.elim) fun u S => by
  unfold intV
  split
  · exact nox_ok
  · exact nox_ok
  · split
    · exact nox_if nox_ok nox_bad
    · exact nox_bad
  · exact nox_bad
theorem b_str : CallB X cA (.type "str") (f1 strV) := callB_one (fun pins s σ H x u Q f S w I ru r rw' q => by
  unfold strV at q
  split at q
  · rename_i z
    rw [repD_int.mp (repW_p.mp rw')] at ru
    split at q
    · rename_i hl
      exact call_str_int pins s σ H _ _ Q I (.cons ru .nil) ⟨z, rfl, hl, okO.here q r (repW_p.mpr (repD_str.mpr rfl))⟩
    · exact q.elim
  · exact q.elim) fun u S => by
  unfold strV
  split
  · exact nox_if nox_ok nox_bad
  · exact nox_bad
theorem intsV_rep {K : PySem.W.Frag} {f : Nat → Option Addr} {H : Hp} {S : Sto} {w : Vl} {x : V} {ns : List Int} (r : Rel K cA f H S) (h : RepW K cA f H w x) (e : intsV S w = some ns) : ∃ a, x = .ref a ∧ SqL K H a (ns.map V.int) := by
  unfold intsV at e
  split at e
  · rename_i vs e1
    split at e
    · rename_i ds e2
      obtain ⟨a, xs, rfl, l, dx⟩ := asL_rep r h e1
      rw [repDs_ints (repWs_pures dx e2) e] at l
      exact ⟨a, rfl, l⟩
    · cases e
  · cases e
theorem boolsV_rep {K : PySem.W.Frag} {f : Nat → Option Addr} {H : Hp} {S : Sto} {w : Vl} {x : V} {ns : List Bool} (r : Rel K cA f H S) (h : RepW K cA f H w x) (e : boolsV S w = some ns) : ∃ a, x = .ref a ∧ SqL K H a (ns.map V.bl) := by
  unfold boolsV at e
  split at e
  · rename_i vs e1
    split at e
    · rename_i ds e2
      obtain ⟨a, xs, rfl, l, dx⟩ := asL_rep r h e1
      rw [repDs_bools (repWs_pures dx e2) e] at l
      exact ⟨a, rfl, l⟩
    · cases e
  · cases e
theorem b_sum (hc : X.calm = true) : CallB X cA (.builtin "sum") (f1 sumV) := callB_one (fun pins s σ H x u Q f S w I ru r rw' q => by
  unfold sumV at q
  split at q
  · rename_i ns e1
    obtain ⟨a, rfl, l⟩ := intsV_rep r rw' e1
    exact cr_sum hc pins s σ H _ _ Q I (.cons ru .nil) ⟨a, ns, rfl, l, okO.here q r (repW_p.mpr (repD_int.mpr rfl))⟩
  · exact q.elim) fun u S => by
  unfold sumV
  split
  · exact nox_ok
  · exact nox_bad
theorem b_all (hc : X.calm = true) : CallB X cA (.builtin "all") (f1 allV) := callB_one (fun pins s σ H x u Q f S w I ru r rw' q => by
  unfold allV at q
  split at q
  · rename_i ns e1
    obtain ⟨a, rfl, l⟩ := boolsV_rep r rw' e1
    exact cr_all hc pins s σ H _ _ Q I (.cons ru .nil) ⟨a, ns, rfl, l, okO.here q r (repW_p.mpr (repD_bool.mpr rfl))⟩
  · exact q.elim) fun u S => by
  unfold allV
  split
  · exact nox_ok
  · exact nox_bad
theorem b_any (hc : X.calm = true) : CallB X cA (.builtin "any") (f1 anyV) := callB_one (fun pins s σ H x u Q f S w I ru r rw' q => by
  unfold anyV at q
  split at q
  · rename_i ns e1
    obtain ⟨a, rfl, l⟩ := boolsV_rep r rw' e1
    exact cr_any hc pins s σ H _ _ Q I (.cons ru .nil) ⟨a, ns, rfl, l, okO.here q r (repW_p.mpr (repD_bool.mpr rfl))⟩
  · exact q.elim) fun u S => by
  unfold anyV
  split
  · exact nox_ok
  · exact nox_bad
theorem minOf_is : ∀ (m : Int) (ns : List Int), minOf m ns ∈ m :: ns ∧ ∀ y, y ∈ m :: ns → minOf m ns ≤ y
  | m, [] => ⟨List.mem_cons_self, fun y hy => by
    rcases List.mem_cons.mp hy with rfl | h
    · exact Int.le_refl _
    · cases h⟩
  | m, k :: r => by
    obtain ⟨h1, h2⟩ := minOf_is (if k < m then k else m) r
    show minOf (if k < m then k else m) r ∈ m :: k :: r ∧ ∀ y, y ∈ m :: k :: r → minOf (if k < m then k else m) r ≤ y
    have h3 := h2 _ List.mem_cons_self
    refine ⟨?_, fun y hy => ?_⟩
    · rcases List.mem_cons.mp h1 with e | e
      · rw [e]
        by_cases c : k < m
        · rw [if_pos c]
          exact List.mem_cons_of_mem _ List.mem_cons_self
        · rw [if_neg c]
          exact List.mem_cons_self
      · exact List.mem_cons_of_mem _ (List.mem_cons_of_mem _ e)
    · rcases List.mem_cons.mp hy with rfl | hy
      · refine Int.le_trans h3 ?_
        split <;> omega
      · rcases List.mem_cons.mp hy with rfl | hy
        · refine Int.le_trans h3 ?_
          split <;> omega
        · exact h2 y (List.mem_cons_of_mem _ hy)
theorem maxOf_is : ∀ (m : Int) (ns : List Int), maxOf m ns ∈ m :: ns ∧ ∀ y, y ∈ m :: ns → y ≤ maxOf m ns
  | m, [] => ⟨List.mem_cons_self, fun y hy => by
    rcases List.mem_cons.mp hy with rfl | h
    · exact Int.le_refl _
    · cases h⟩
  | m, k :: r => by
    obtain ⟨h1, h2⟩ := maxOf_is (if k > m then k else m) r
    show maxOf (if k > m then k else m) r ∈ m :: k :: r ∧ ∀ y, y ∈ m :: k :: r → y ≤ maxOf (if k > m then k else m) r
    have h3 := h2 _ List.mem_cons_self
    refine ⟨?_, fun y hy => ?_⟩
    · rcases List.mem_cons.mp h1 with e | e
      · rw [e]
        by_cases c : k > m
        · rw [if_pos c]
          exact List.mem_cons_of_mem _ List.mem_cons_self
        · rw [if_neg c]
          exact List.mem_cons_self
      · exact List.mem_cons_of_mem _ (List.mem_cons_of_mem _ e)
    · rcases List.mem_cons.mp hy with rfl | hy
      · refine Int.le_trans ?_ h3
        split <;> omega
      · rcases List.mem_cons.mp hy with rfl | hy
        · refine Int.le_trans ?_ h3
          split <;> omega
        · exact h2 y (List.mem_cons_of_mem _ hy)
theorem b_min (hc : X.calm = true) : CallB X cA (.builtin "min") fMin := ⟨fun pins s σ H xs us Q I rs h => by
  obtain ⟨f, S, ws, r, rw', q⟩ := h
  unfold fMin at q
  split at q
  · rename_i w
    obtain ⟨x, t, rfl, h2, h3⟩ := repWs_cons.mp rw'
    obtain rfl := repWs_nil.mp h3
    unfold minV at q
    split at q
    · rename_i n ns e1
      obtain ⟨a, rfl, l⟩ := intsV_rep r h2 e1
      refine cr_min hc pins s σ H _ _ Q I rs ⟨a, n :: ns, rfl, l, Nat.zero_lt_succ _, fun m hm hle => ?_⟩
      obtain ⟨k1, k2⟩ := minOf_is n ns
      have e : m = minOf n ns := Int.le_antisymm (hle _ k1) (k2 _ hm)
      rw [e]
      exact okO.here q r (repW_p.mpr (repD_int.mpr rfl))
    · exact q.elim
  · rename_i w w2
    obtain ⟨x, t, rfl, h2, h3⟩ := repWs_cons.mp rw'
    obtain ⟨y, t2, rfl, h4, h5⟩ := repWs_cons.mp h3
    obtain rfl := repWs_nil.mp h5
    unfold min2V at q
    split at q
    · rename_i i j
      rw [repD_int.mp (repW_p.mp h2), repD_int.mp (repW_p.mp h4)] at rs
      exact call_min2 hc pins s σ H _ _ Q I rs ⟨i, j, rfl, okO.here q r (repW_p.mpr (repD_int.mpr rfl))⟩
    · exact q.elim
  · exact q.elim, fun ws S => by
  unfold fMin
  split
  · unfold minV
    split
    · exact nox_ok
    · exact nox_bad
  · unfold min2V
    split
    · exact nox_ok
    · exact nox_bad
  · exact nox_bad⟩
theorem b_max (hc : X.calm = true) : CallB X cA (.builtin "max") fMax := ⟨fun pins s σ H xs us Q I rs h => by
  obtain ⟨f, S, ws, r, rw', q⟩ := h
  unfold fMax at q
  split at q
  · rename_i w
    obtain ⟨x, t, rfl, h2, h3⟩ := repWs_cons.mp rw'
    obtain rfl := repWs_nil.mp h3
    unfold maxV at q
    split at q
    · rename_i n ns e1
      obtain ⟨a, rfl, l⟩ := intsV_rep r h2 e1
      refine cr_max hc pins s σ H _ _ Q I rs ⟨a, n :: ns, rfl, l, Nat.zero_lt_succ _, fun m hm hle => ?_⟩
      obtain ⟨k1, k2⟩ := maxOf_is n ns
      have e : m = maxOf n ns := Int.le_antisymm (k2 _ hm) (hle _ k1)
      rw [e]
      exact okO.here q r (repW_p.mpr (repD_int.mpr rfl))
    · exact q.elim
  · rename_i w w2
    obtain ⟨x, t, rfl, h2, h3⟩ := repWs_cons.mp rw'
    obtain ⟨y, t2, rfl, h4, h5⟩ := repWs_cons.mp h3
    obtain rfl := repWs_nil.mp h5
    unfold max2V at q
    split at q
    · rename_i i j
      rw [repD_int.mp (repW_p.mp h2), repD_int.mp (repW_p.mp h4)] at rs
      exact call_max2 hc pins s σ H _ _ Q I rs ⟨i, j, rfl, okO.here q r (repW_p.mpr (repD_int.mpr rfl))⟩
    · exact q.elim
  · exact q.elim, fun ws S => by
  unfold fMax
  split
  · unfold maxV
    split
    · exact nox_ok
    · exact nox_bad
  · unfold max2V
    split
    · exact nox_ok
    · exact nox_bad
  · exact nox_bad⟩
theorem nox_lstOfF (u : Vl) (S : Sto) : NoX (lstOfF u S) := by
  unfold lstOfF
  split
  · exact nox_lstF _ _
  · exact nox_bad
theorem nox_lstOfM (u : Vl) (S : Sto) : NoX (lstOfM u S) := by
  unfold lstOfM
  split
  · exact nox_lstM _ _
  · exact nox_bad
theorem b_listF : CallB X cA (.type "list") (f1 lstOfF) := callB_one (fun pins s σ H x u Q f S w I ru r rw' q => by
  unfold lstOfF at q
  split at q
  · rename_i vs e1
    obtain ⟨p, xs, rfl, l, dx⟩ := asQ_rep r rw' e1
    exact call_fz call_list_of pins s σ H _ _ Q I (.cons ru .nil) ⟨p, xs, rfl, l, fun p2 hp => (okO.newF r dx q hp).2⟩
  · exact q.elim) nox_lstOfF
theorem b_listM : CallB X cA (.type "list") (f1 lstOfM) := callB_one (fun pins s σ H x u Q f S w I ru r rw' q => by
  unfold lstOfM at q
  split at q
  · rename_i vs e1
    obtain ⟨p, xs, rfl, l, dx⟩ := asQ_rep r rw' e1
    exact call_list_of pins s σ H _ _ Q I (.cons ru .nil) ⟨p, xs, rfl, l, fun p2 hp => (okO.newM r dx q hp).2⟩
  · exact q.elim) nox_lstOfM
/-! isinstance of a built-in type -/
theorem tyN_rep {K : PySem.W.Frag} {f : Nat → Option Addr} {H : Hp} {S : Sto} {w : Vl} {x : V} {t : String} (r : Rel K cA f H S) (h : RepW K cA f H w x) (e : tyN S w = some t) : TyX K H x (.type t) := by
  have tup : ∀ {a : Addr} {xs : List V}, SqT K H a xs → TyX K H (.ref a) (.type "tuple") := fun {a xs} l => by
    rcases l with (l | ⟨o, l⟩) | ⟨o, its, n, l, c, _⟩
    · exact .base (.tup l)
    · exact .fTuple l
    · exact .kTuple l c
  cases w with
  | p d =>
    have h' := repW_p.mp h
    cases d with
    | none => cases e; rw [repD_none.mp h']; exact .base .non
    | bool b => cases e; rw [repD_bool.mp h']; exact .base (.bl b)
    | int b => cases e; rw [repD_int.mp h']; exact .base (.int b)
    | str b => cases e; rw [repD_str.mp h']; exact .base (.str b)
    | list ds =>
      cases e
      obtain ⟨p, xs, rfl, l, _⟩ := repD_list.mp h'
      rcases l with ⟨o, l⟩ | ⟨o, its, n, l, c, _⟩
      · exact .base (.frz l)
      · exact .kList l c
    | tuple ds =>
      cases e
      obtain ⟨p, xs, rfl, l, _⟩ := repD_tuple.mp h'
      exact tup l
    | dict b => cases e
  | t ws =>
    cases e
    obtain ⟨p, xs, rfl, l, _⟩ := repW_t.mp h
    exact tup l
  | r i =>
    obtain ⟨a, rfl, ha⟩ := repW_r.mp h
    have e' : (match S[i]? with
      | some (.lst _) => some "list"
      | some (.dK _) => some "dict"
      | some (.dT _) => some "dict"
      | _ => none) = some t := e
    split at e'
    · rename_i ws hs
      cases e'
      obtain ⟨a', h2, xs, h3, _⟩ := r.ent i _ hs (fun q => by cases q)
      rw [ha] at h2
      cases h2
      exact .base (.lst h3)
    · rename_i ws hs
      cases e'
      obtain ⟨a', h2, xs, h3, _⟩ := r.ent i _ hs (fun q => by cases q)
      rw [ha] at h2
      cases h2
      exact .base (.dK h3)
    · rename_i ws hs
      cases e'
      obtain ⟨a', h2, xs, h3, _⟩ := r.ent i _ hs (fun q => by cases q)
      rw [ha] at h2
      cases h2
      exact .base (.dT h3)
    · cases e'
  | x c n => cases e
  | f k => cases e
  | dc k => cases e
theorem e_isi {T : String} {a b : Expr} {m : M} {p pos : Pos} (hg : Gl X "isinstance") (hm : X.mg "isinstance" = none) (ha : PE X a (tE X.K cA W m)) (hb : PE X b (tC (.ty T))) (hs : starEach (a :: [b]) X.env = (false, eval a X.env) :: starEach [b] X.env := by rfl)
    (hs2 : starEach (b :: []) X.env = (false, eval b X.env) :: starEach [] X.env := by rfl) (hpl : (backTo pos (starEach [b] X.env)).any (·.1) = false := by rfl) : PE X (.Call (.Name "isinstance" p) [a, b] [] pos) (tE X.K cA W (m1 (isiV T) m)) :=
  pe_le (pe_callB call_isi hg hm boot_isinstance (pa_cons ha (pa_cons hb pa_nil hs2) hs) (by decide) (by decide) hs hpl) fun σ H Q h => by
    obtain ⟨f, e, S, r, er, q⟩ := h
    refine ⟨f, e, S, r, er, okE.bind q fun g H1 w S1 v X1 r1 q1 h1 => ?_⟩
    unfold isiV at h1
    split at h1
    · rename_i t e1
      split at h1
      · rename_i k e2
        exact ⟨v, .ty T, .type t, .type T, k, rfl, .ty T, tyN_rep r1 q1 e1, kit_ty e2, okO.here (okO.of h1 nox_ok) r1 (repW_p.mpr (repD_bool.mpr rfl))⟩
      · exact False.elim h1
    · exact False.elim h1
end
end PV

/-! Statements, loops, comprehensions, calls. -/
namespace PV
open PySem L2 PySem.Spec PyProof.Rows
section
variable {K : PySem.W.Frag} {cA : Nat → Addr} {W : WX} {f g : Nat → Option Addr} {H H1 : Hp}
def okS (K : PySem.W.Frag) (cA : Nat → Addr) (W : WX) (f : Nat → Option Addr) (H : Hp) (o : O) (D : Ends) : Prop := match o with
  | .nx e S => ∀ g H' σ', Ext f H g H' → Rel K cA g H' S → EnvR K cA g H' e σ' → D.nx σ' H'
  | .bk e S => ∀ g H' σ', Ext f H g H' → Rel K cA g H' S → EnvR K cA g H' e σ' → D.bk σ' H'
  | .ct e S => ∀ g H' σ', Ext f H g H' → Rel K cA g H' S → EnvR K cA g H' e σ' → D.ct σ' H'
  | .rt w S => ∀ g H' v, Ext f H g H' → Rel K cA g H' S → RepW K cA g H' w v → D.rt v H'
  | .ex c n e S => ∀ g H' σ' d, Ext f H g H' → Rel K cA g H' S → EnvR K cA g H' e σ' → ExD H' n d → W (.ref (cA c)) d σ' H'
  | .bad => False
theorem okS.ext {o : O} {D : Ends} (h : okS K cA W f H o D) (a : Ext f H g H1) : okS K cA W g H1 o D := by
  cases o with
  | nx e S => exact fun h2 H2 v X => h h2 H2 v (a.trans X)
  | bk e S => exact fun h2 H2 v X => h h2 H2 v (a.trans X)
  | ct e S => exact fun h2 H2 v X => h h2 H2 v (a.trans X)
  | rt e S => exact fun h2 H2 v X => h h2 H2 v (a.trans X)
  | ex c n e S => exact fun h2 H2 v d X => h h2 H2 v d (a.trans X)
  | bad => exact h
def tS (K : PySem.W.Frag) (cA : Nat → Addr) (W : WX) (m : MS) : TS := fun D σ H => ∃ f e S, Rel K cA f H S ∧ EnvR K cA f H e σ ∧ okS K cA W f H (m e S) D
theorem okS.seq {o : O} {k : Env → Sto → O} {D : Ends} {N : L2.St → Hp → Prop} (h : okS K cA W f H (o.andThen k) D) (hk : ∀ g H1 e S σ, Ext f H g H1 → Rel K cA g H1 S → EnvR K cA g H1 e σ → okS K cA W g H1 (k e S) D → N σ H1) : okS K cA W f H o { D with nx := N } := by
  cases o with
  | nx e S => exact fun h2 H2 v X r er => hk h2 H2 e S v X r er (okS.ext h X)
  | bk e S => exact h
  | ct e S => exact h
  | rt e S => exact h
  | ex c n e S => exact h
  | bad => exact h
/-- an expression's end within a statement -/
theorem okS.val {r : R Vl} {e : Env} {σ : L2.St} {k : Vl → Sto → O} {D : Ends} {Q : VK} (er : EnvR K cA f H e σ) (h : okS K cA W f H (ofR e r k) D)
    (hk : ∀ g H1 w S v, Ext f H g H1 → Rel K cA g H1 S → RepW K cA g H1 w v → EnvR K cA g H1 e σ → okS K cA W g H1 (k w S) D → Q v H1) : okE K cA W f σ H r Q := by
  cases r with
  | ok w S => exact fun h2 H2 v X r q => hk h2 H2 w S v X r q (X.envR er) (okS.ext h X)
  | exc c n S => exact fun h2 H2 d X r q => h h2 H2 σ d X r (X.envR er) q
  | bad => exact h
end
section
variable {X : Cx} {cA : Nat → Addr} {W : WX}
theorem ps_le {st : Stmt} {t t' : TS} (h : PS X st t) (k : ∀ D σ H, t' D σ H → t D σ H) : PS X st t' := ⟨fun pins s σ H D I q => h.run pins s σ H D I (k D σ H q)⟩
theorem pss_le {st : List Stmt} {t t' : TS} (h : PSs X st t) (k : ∀ D σ H, t' D σ H → t D σ H) : PSs X st t' := ⟨fun pins s σ H D I q => h.run pins s σ H D I (k D σ H q)⟩
theorem s_nil : PSs X [] (tS X.K cA W sNop) := pss_le pss_nil fun D σ H h => by
  obtain ⟨f, e, S, r, er, q⟩ := h
  exact q f H σ Ext.refl r er
theorem s_cons {st : Stmt} {rest : List Stmt} {a b : MS} (h1 : PS X st (tS X.K cA W a)) (h2 : PSs X rest (tS X.K cA W b)) : PSs X (st :: rest) (tS X.K cA W (sSeq a b)) := pss_le (pss_cons h1 h2) fun D σ H h => by
  obtain ⟨f, e, S, r, er, q⟩ := h
  exact ⟨f, e, S, r, er, okS.seq q fun g H1 e1 S1 σ1 X1 r1 er1 h1 => ⟨g, e1, S1, r1, er1, h1⟩⟩
theorem s_one {st : Stmt} {a : MS} (h1 : PS X st (tS X.K cA W a)) : PSs X [st] (tS X.K cA W a) := pss_one h1
theorem s_pass {pos : Pos} : PS X (.Pass pos) (tS X.K cA W sNop) := ps_le ps_pass fun D σ H h => by
  obtain ⟨f, e, S, r, er, q⟩ := h
  exact q f H σ Ext.refl r er
theorem s_break {pos : Pos} : PS X (.Break pos) (tS X.K cA W sBreak) := ps_le ps_break fun D σ H h => by
  obtain ⟨f, e, S, r, er, q⟩ := h
  exact q f H σ Ext.refl r er
theorem s_expr {e : Expr} {m : M} {pos : Pos} (he : PE X e (tE X.K cA W m)) (hs : swapsWith e none pos.line X.env = pure false := by rfl) : PS X (.Expr e pos) (tS X.K cA W (sExpr m)) := ps_le (ps_expr he hs) fun D σ H h => by
  obtain ⟨f, e, S, r, er, q⟩ := h
  exact ⟨f, e, S, r, er, okS.val er q fun g H1 w S1 v X1 r1 q1 er1 h1 => h1 g H1 σ Ext.refl r1 er1⟩
theorem s_ret {e : Expr} {m : M} {pos : Pos} (he : PE X e (tE X.K cA W m)) : PS X (.Return (some e) pos) (tS X.K cA W (sRet m)) := ps_le (ps_ret he) fun D σ H h => by
  obtain ⟨f, e, S, r, er, q⟩ := h
  exact ⟨f, e, S, r, er, okS.val er q fun g H1 w S1 v X1 r1 q1 er1 h1 => h1 g H1 v Ext.refl r1 q1⟩
theorem s_retN {pos : Pos} : PS X (.Return none pos) (tS X.K cA W sRetN) := ps_le ps_retN fun D σ H h => by
  obtain ⟨f, e, S, r, er, q⟩ := h
  exact q f H .non Ext.refl r (repW_p.mpr (repD_none.mpr rfl))
theorem onO_cases {v : Vl} {x y : O} {f : Nat → Option Addr} {H : Hp} {D : Ends} (h : okS X.K cA W f H (onO v x y) D) : (∃ b, v = .p (.bool b)) ∧ (v = .p (.bool true) → okS X.K cA W f H x D) ∧ (v = .p (.bool false) → okS X.K cA W f H y D) := by
  cases v with
  | p d =>
    cases d with
    | bool b =>
      cases b with
      | true => exact ⟨⟨_, rfl⟩, fun _ => h, fun q => nomatch q⟩
      | false => exact ⟨⟨_, rfl⟩, (fun q => nomatch q), fun _ => h⟩
    | _ => exact False.elim h
  | _ => exact False.elim h
theorem s_if {c : Expr} {a b : List Stmt} {mc : M} {ma mb : MS} {pos : Pos} (hc : PT X c (tT X.K cA W mc)) (ha : PSs X a (tS X.K cA W ma)) (hb : PSs X b (tS X.K cA W mb)) : PS X (.If c a b pos) (tS X.K cA W (sIf mc ma mb)) := ps_le (ps_if hc ha hb) fun D σ H h => by
  obtain ⟨f, e, S, r, er, q⟩ := h
  refine ⟨f, e, S, r, er, okS.val er q fun g H1 w S1 v X1 r1 q1 er1 h1 => ?_⟩
  obtain ⟨⟨b, rfl⟩, ht, hf⟩ := onO_cases h1
  refine ⟨b, repD_bool.mp (repW_p.mp q1), ?_⟩
  cases b with
  | true =>
    rw [if_pos rfl]
    exact ⟨g, e, S1, r1, er1, ht rfl⟩
  | false =>
    rw [if_neg Bool.false_ne_true]
    exact ⟨g, e, S1, r1, er1, hf rfl⟩

/-! ### targets -/
def okG (K : PySem.W.Frag) (cA : Nat → Addr) (f : Nat → Option Addr) (H : Hp) (r : R Env) (Q : L2.St → Hp → Prop) : Prop := match r with
  | .ok e S => ∀ g H' σ', Ext f H g H' → Rel K cA g H' S → EnvR K cA g H' e σ' → Q σ' H'
  | _ => False
theorem okG.ext {K : PySem.W.Frag} {f g : Nat → Option Addr} {H H1 : Hp} {r : R Env} {Q : L2.St → Hp → Prop} (h : okG K cA f H r Q) (a : Ext f H g H1) : okG K cA g H1 r Q := by
  cases r with
  | ok e S => exact fun h2 H2 v X => h h2 H2 v (a.trans X)
  | exc c n S => exact h
  | bad => exact h
def tG (K : PySem.W.Frag) (cA : Nat → Addr) (m : G) : TG := fun v σ H Q => ∃ f e S w, Rel K cA f H S ∧ EnvR K cA f H e σ ∧ RepW K cA f H w v ∧ okG K cA f H (m w e S) Q
def tGs (K : PySem.W.Frag) (cA : Nat → Addr) (ms : List G) : TGs := fun vs σ H Q => ∃ f e S ws, Rel K cA f H S ∧ EnvR K cA f H e σ ∧ RepWs K cA f H ws vs ∧ okG K cA f H (gAll ms ws e S) Q
theorem pg_le {e : Expr} {t t' : TG} (h : PG X e t) (k : ∀ v σ H Q, t' v σ H Q → t v σ H Q) : PG X e t' := ⟨fun pins s σ H v u Q I r q => h.run pins s σ H v u Q I r (k v σ H Q q)⟩
theorem pgs_le {e : List Expr} {t t' : TGs} (h : PGs X e t) (k : ∀ v σ H Q, t' v σ H Q → t v σ H Q) : PGs X e t' := ⟨fun pins s σ H v u Q I r q => h.run pins s σ H v u Q I r (k v σ H Q q)⟩
theorem g_nm {i : Nat} {x : Str} {pos : Pos} (hN : X.N.Nodup) (hi : X.N[i]? = some x) (hx : Loc X.env.scope x) (hf : X.fn x = true ∨ X.env.scope.names.lookup x = some .local := by first | exact .inl rfl | exact .inr rfl | assumption) : PG X (.Name x pos) (tG X.K cA (gNm i)) :=
  pg_le (pg_name hN hi hx hf) fun v σ H Q h => by
    obtain ⟨f, e, S, w, r, er, rw', q⟩ := h
    exact q f H _ Ext.refl r (er.set i rw')
theorem gs_nil : PGs X [] (tGs X.K cA []) := pgs_le pgs_nil fun v σ H Q h => by
  obtain ⟨f, e, S, ws, r, er, rw', q⟩ := h
  cases ws with
  | nil => exact ⟨repWs_nil.mp rw', q f H σ Ext.refl r er⟩
  | cons w ws => exact False.elim q
theorem gs_cons {a : Expr} {es : List Expr} {m : G} {ms : List G} (h1 : PG X a (tG X.K cA m)) (h2 : PGs X es (tGs X.K cA ms)) (hs : (assignEach (a :: es) X.env).map (·.2) = assign a X.env :: (assignEach es X.env).map (·.2) := by rfl) : PGs X (a :: es) (tGs X.K cA (m :: ms)) :=
  pgs_le (pgs_cons h1 h2 hs) fun vs σ H Q h => by
    obtain ⟨f, e, S, ws, r, er, rw', q⟩ := h
    cases ws with
    | nil => exact False.elim q
    | cons w ws =>
      obtain ⟨v, vr, rfl, k1, k2⟩ := repWs_cons.mp rw'
      refine ⟨v, vr, rfl, f, e, S, w, r, er, k1, ?_⟩
      have q' : okG X.K cA f H ((m w e S).bind fun e1 S1 => gAll ms ws e1 S1) Q := q
      cases hm : m w e S with
      | ok e1 S1 =>
        rw [hm] at q'
        intro g H1 σ1 X1 r1 er1
        exact ⟨g, e1, S1, ws, r1, er1, X1.repWs k2, okG.ext q' X1⟩
      | exc c n S1 => rw [hm] at q'; exact False.elim q'
      | bad => rw [hm] at q'; exact False.elim q'
theorem g_tp {es : List Expr} {k : Nat} {ms : List G} {pos : Pos} (hc : X.calm = true) (h : PGs X es (tGs X.K cA ms)) (hl : (assignEach es X.env).length = ms.length := by rfl) (hst : (assignEach es X.env).findIdx? (·.1) = none := by rfl) :
    PG X (.Tuple es k pos) (tG X.K cA (gTp ms)) := pg_le (pg_tup hc h hl hst) fun v σ H Q h => by
  obtain ⟨f, e, S, w, r, er, rw', q⟩ := h
  unfold gTp at q
  split at q
  · rename_i vs e1
    split at q
    · rename_i e2
      obtain ⟨a, xs, rfl, l, dx⟩ := asT_rep rw' e1
      exact ⟨a, xs, rfl, l, by rw [repWs_len dx]; exact e2, f, e, S, vs, r, er, dx, q⟩
    · exact False.elim q
  · exact False.elim q
theorem okG.toS {K : PySem.W.Frag} {f : Nat → Option Addr} {H : Hp} {r : R Env} {D : Ends} (h : okS K cA W f H (ofG r) D) : okG K cA f H r D.nx := by
  cases r with
  | ok e S => exact h
  | exc c n S => exact h
  | bad => exact h
theorem s_asg {tg a : Expr} {m : M} {g : G} {pos : Pos} (he : PE X a (tE X.K cA W m)) (hg : PG X tg (tG X.K cA g)) (hs : swapsWithSole [tg] a pos.line X.env = pure false := by rfl) (hw : swappedStores [tg] a X.env = pure none := by rfl)
    (h1 : (assignEach [tg] X.env).map (·.2) = [assign tg X.env] := by rfl) : PS X (.Assign [tg] a pos) (tS X.K cA W (sAsg g m)) := ps_le (ps_asg he hg hs hw h1) fun D σ H h => by
  obtain ⟨f, e, S, r, er, q⟩ := h
  exact ⟨f, e, S, r, er, okS.val er q fun g2 H1 w S1 v X1 r1 q1 er1 h2 => ⟨g2, e, S1, w, r1, er1, q1, okG.toS h2⟩⟩
theorem s_set {i : Nat} {x : Str} {a : Expr} {m : M} {pos pos' : Pos} (hN : X.N.Nodup) (hi : X.N[i]? = some x) (hx : Loc X.env.scope x) (he : PE X a (tE X.K cA W m)) (hs : swapsWith a (some (.Name x pos')) pos.line X.env = pure false := by rfl)
    (hf : X.fn x = true ∨ X.env.scope.names.lookup x = some .local := by first | exact .inl rfl | exact .inr rfl | assumption) : PS X (.Assign [.Name x pos'] a pos) (tS X.K cA W (sAsg (gNm i) m)) := ps_le (ps_set hN hi hx he hs hf) fun D σ H h => by
  obtain ⟨f, e, S, r, er, q⟩ := h
  exact ⟨f, e, S, r, er, okS.val er q fun g2 H1 w S1 v X1 r1 q1 er1 h2 => h2 g2 H1 _ Ext.refl r1 (er1.set i q1)⟩
theorem s_par {i j : Nat} {x y : Str} {a b : Expr} {ma mb : M} {px py pt pos : Pos} {kt k2 pt2} (hc : X.calm = true) (hN : X.N.Nodup) (hi : X.N[i]? = some x) (hj : X.N[j]? = some y) (hij : i ≠ j)
    (hx : X.env.scope.names.lookup x = some .local) (hy : X.env.scope.names.lookup y = some .local) (ha : PE X a (tE X.K cA W ma)) (hb : PE X b (tE X.K cA W mb))
    (hw : swappedStores [.Tuple [.Name x px, .Name y py] kt pt] (.Tuple [a, b] k2 pt2) X.env = pure (some [x, y]) := by rfl)
    (hs : swapsWithSole [.Tuple [.Name x px, .Name y py] kt pt] (.Tuple [a, b] k2 pt2) pos.line X.env = pure false := by rfl) (h1 : starEach (a :: [b]) X.env = (false, eval a X.env) :: starEach [b] X.env := by rfl)
    (h2 : starEach (b :: []) X.env = (false, eval b X.env) :: starEach [] X.env := by rfl) :
    PS X (.Assign [.Tuple [.Name x px, .Name y py] kt pt] (.Tuple [a, b] k2 pt2) pos) (tS X.K cA W (sPar i j ma mb)) :=
  ps_le (ps_par hc hN hi hj hij hx hy (pa_cons ha (pa_cons hb pa_nil h2) h1) hw hs) fun D σ H h => by
    obtain ⟨f, e, S, r, er, q⟩ := h
    refine ⟨f, e, S, r, er, okS.val er q fun g2 H1 w S1 v X1 r1 q1 er1 h2 => ?_⟩
    refine ⟨g2, e, S1, r1, er1, okS.val er1 h2 fun g3 H2 w2 S2 v2 X2 r2 q2 er2 h3 => ?_⟩
    exact ⟨v, v2, rfl, h3 g3 H2 _ Ext.refl r2 ((er2.set i (X2.repW q1)).set j q2)⟩

/-! ### ghosts -/
theorem frz_rep {K : PySem.W.Frag} {f : Nat → Option Addr} {H : Hp} {a : Addr} {kvs : List (Key × Vl)} {xs : List (Key × V)} {ds : List D} (o : Obj) (dk : xs.map (·.1) = kvs.map (·.1)) (X : Ext f H f (upd H a (.frz o (.dK xs)))) (dx : RepWs K cA f H (kvs.map (·.2)) (xs.map (·.2))) (e : pures (kvs.map (·.2)) = some ds) :
    ∃ b o2 ys, V.ref a = .ref b ∧ upd H a (.frz o (.dK xs)) b = some (.frz o2 (.dK ys)) ∧ ys.map (·.1) = ((kvs.map (·.1)).zip ds).map (·.1) ∧ RepDs K (upd H a (.frz o (.dK xs))) (((kvs.map (·.1)).zip ds).map (·.2)) (ys.map (·.2)) := by
  have hl : (kvs.map (·.1)).length = ds.length := by
    have := congrArg List.length (pures_some e)
    simpa using this
  refine ⟨a, o, xs, rfl, upd_same, ?_, ?_⟩
  · rw [dk, List.map_fst_zip (Nat.le_of_eq hl)]
  · rw [List.map_snd_zip (Nat.le_of_eq hl.symm)]
    exact X.repDs (repWs_pures dx e)
/-- a list in slot i is told to change no more, ahead of a block -/
theorem s_fz {sts : List Stmt} {i : Nat} {b : MS} (h : PSs X sts (tS X.K cA W b)) : PSs X sts (tS X.K cA W (sSeq (sFz i) b)) := ⟨fun pins s σ H D I q => by
  obtain ⟨f, e, S, r, er, q⟩ := q
  have q' : okS X.K cA W f H ((sFz i e S).andThen b) D := q
  unfold sFz at q'
  split at q'
  · rename_i v hv
    obtain ⟨x, h1, h2⟩ := er.2 i v hv
    cases v with
    | p d =>
      refine h.run pins s σ H D I ⟨f, _, S, r, ?_, q'⟩
      refine ⟨by rw [List.length_set]; exact er.1, fun j w hj => ?_⟩
      by_cases z : i = j
      · subst z
        have hl : i < e.length := (List.getElem?_eq_some_iff.mp hv).1
        rw [List.getElem?_set_self hl] at hj
        cases hj
        exact ⟨x, h1, h2⟩
      · rw [List.getElem?_set_ne z] at hj
        exact er.2 j w hj
    | r k =>
      have q2 : okS X.K cA W f H ((ofR e (match entL S k with
        | some vs => (match pures vs with
          | some ds => .ok (.p (.list ds)) (S.set k .dead)
          | none => .bad)
        | none => frzD k S) fun w S1 => .nx (e.set i (some w)) S1).andThen b) D := q'
      cases e1 : entL S k with
      | none =>
        rw [e1] at q2
        have q3 : okS X.K cA W f H ((ofR e (frzD k S) fun w S1 => .nx (e.set i (some w)) S1).andThen b) D := q2
        unfold frzD at q3
        cases e3 : entK S k with
        | none => rw [e3] at q3; exact False.elim q3
        | some kvs =>
          rw [e3] at q3
          cases e2 : pures (kvs.map (·.2)) with
          | none =>
            simp only [e2] at q3
            exact False.elim q3
          | some ds =>
            simp only [e2] at q3
            obtain ⟨a, xs, rfl, ha, hA, dk, dx⟩ := entK_rep r h2 e3
            obtain ⟨o, I2⟩ := inv_frz I hA (.inr ⟨xs, rfl⟩)
            have X1 : Ext f H f (upd H a (.frz o (.dK xs))) := Ext.set ha hA (fun z => z)
            refine h.run pins s σ _ D I2 ⟨f, _, S.set k .dead, r.set ha hA (fun z => z) trivial, ?_, okS.ext (show okS X.K cA W f H (b (e.set i (some (.dc ((kvs.map (·.1)).zip ds)))) (S.set k .dead)) D from q3) X1⟩
            have er1 := X1.envR er
            refine ⟨by rw [List.length_set]; exact er.1, fun j w hj => ?_⟩
            by_cases z : i = j
            · subst z
              have hl : i < e.length := (List.getElem?_eq_some_iff.mp hv).1
              rw [List.getElem?_set_self hl] at hj
              cases hj
              exact ⟨.ref a, h1, repW_dc.mpr (frz_rep o dk X1 dx e2)⟩
            · rw [List.getElem?_set_ne z] at hj
              exact er1.2 j w hj
      | some vs =>
        rw [e1] at q2
        cases e2 : pures vs with
        | none =>
          simp only [e2] at q2
          exact False.elim q2
        | some ds =>
          simp only [e2] at q2
          obtain ⟨a, xs, rfl, ha, hA, dx⟩ := entL_rep r h2 e1
          obtain ⟨o, I2⟩ := inv_frz I hA (.inl ⟨xs, rfl⟩)
          have X1 : Ext f H f (upd H a (.frz o (.lst xs))) := Ext.set ha hA (fun z => z)
          refine h.run pins s σ _ D I2 ⟨f, _, S.set k .dead, r.set ha hA (fun z => z) trivial, ?_, okS.ext (show okS X.K cA W f H (b (e.set i (some (.p (.list ds)))) (S.set k .dead)) D from q2) X1⟩
          have er1 := X1.envR er
          refine ⟨by rw [List.length_set]; exact er.1, fun j w hj => ?_⟩
          by_cases z : i = j
          · subst z
            have hl : i < e.length := (List.getElem?_eq_some_iff.mp hv).1
            rw [List.getElem?_set_self hl] at hj
            cases hj
            exact ⟨.ref a, h1, repW_p.mpr (repD_list.mpr ⟨a, xs, rfl, .inl ⟨o, upd_same⟩, X1.repDs (repWs_pures dx e2)⟩)⟩
          · rw [List.getElem?_set_ne z] at hj
            exact er1.2 j w hj
    | t ws => exact False.elim q'
    | x c n => exact False.elim q'
    | f k => exact False.elim q'
    | dc k => exact False.elim q'
  · exact h.run pins s σ H D I ⟨f, e, S, r, er, q'⟩⟩
/-- an expression's list is told to change no more -/
theorem e_fz {a : Expr} {m : M} (h : PE X a (tE X.K cA W m)) : PE X a (tE X.K cA W (m1 frzV m)) := ⟨fun pins s σ H Q I q => by
  obtain ⟨f, e, S, r, er, q⟩ := q
  have run := h.run pins s σ H (fun v H' => ∃ g S' w, Ext f H g H' ∧ Rel X.K cA g H' S' ∧ RepW X.K cA g H' w v ∧ okE X.K cA W g σ H' (frzV w S') Q) I
    ⟨f, e, S, r, er, okE.bind q fun g H1 w S1 v X1 r1 q1 h1 => ⟨g, S1, w, X1, r1, q1, h1⟩⟩
  refine thn run fun u s1 ⟨v, H1, I1, ru, g, S1, w, X1, r1, q1, h1⟩ => ?_
  cases w with
  | p d => exact ⟨v, H1, I1, ru, h1 g H1 v Ext.refl r1 q1⟩
  | r k =>
    unfold frzV at h1
    dsimp only at h1
    cases e1 : entL S1 k with
    | none =>
      rw [e1] at h1
      dsimp only at h1
      unfold frzD at h1
      cases e3 : entK S1 k with
      | none => rw [e3] at h1; exact False.elim h1
      | some kvs =>
        rw [e3] at h1
        cases e2 : pures (kvs.map (·.2)) with
        | none =>
          simp only [e2] at h1
          exact False.elim h1
        | some ds =>
          simp only [e2] at h1
          obtain ⟨a, xs, rfl, ha, hA, dk, dx⟩ := entK_rep r1 q1 e3
          obtain ⟨o, I2⟩ := inv_frz I1 hA (.inr ⟨xs, rfl⟩)
          have X2 : Ext g H1 g (upd H1 a (.frz o (.dK xs))) := Ext.set ha hA (fun z => z)
          exact ⟨.ref a, _, I2, ru, h1 g _ _ X2 (r1.set ha hA (fun z => z) trivial) (repW_dc.mpr (frz_rep o dk X2 dx e2))⟩
    | some vs =>
      rw [e1] at h1
      cases e2 : pures vs with
      | none =>
        simp only [e2] at h1
        exact False.elim h1
      | some ds =>
        simp only [e2] at h1
        obtain ⟨a, xs, rfl, ha, hA, dx⟩ := entL_rep r1 q1 e1
        obtain ⟨o, I2⟩ := inv_frz I1 hA (.inl ⟨xs, rfl⟩)
        have X2 : Ext g H1 g (upd H1 a (.frz o (.lst xs))) := Ext.set ha hA (fun z => z)
        exact ⟨.ref a, _, I2, ru, h1 g _ _ X2 (r1.set ha hA (fun z => z) trivial) (repW_p.mpr (repD_list.mpr ⟨a, xs, rfl, .inl ⟨o, upd_same⟩, X2.repDs (repWs_pures dx e2)⟩))⟩
  | t ws => exact False.elim h1
  | x c n => exact False.elim h1
  | f k => exact False.elim h1
  | dc k => exact False.elim h1⟩
end
end PV

/-! Loops, comprehensions. -/
namespace PV
open PySem L2 PySem.Spec PyProof.Rows
/-! ### what is walked -/
section
variable {K : PySem.W.Frag} {cA : Nat → Addr} {W : WX} {f g : Nat → Option Addr} {H H1 : Hp}
/-- J goes through vs while the heap goes on -/
def Src (K : PySem.W.Frag) (cA : Nat → Addr) (g : Nat → Option Addr) (H : Hp) (J : L2.It) (vs : List Vl) : Prop :=
  ∃ (n : Nat) (Gd : Hp → Prop) (Y : Nat → Hp → V → Hp → Prop), Walk J n Gd Y ∧ n = vs.length ∧ (∀ g2 H2, Ext g H g2 H2 → Gd H2) ∧
    ∀ (i : Nat) (x : V) (v : Vl) (g2 : Nat → Option Addr) (h h' : Hp) (S2 : Sto), Ext g H g2 h → Rel K cA g2 h S2 → Y i h x h' → vs[i]? = some v → Ext g2 h g2 h' ∧ Rel K cA g2 h' S2 ∧ RepW K cA g2 h' v x
def okI (K : PySem.W.Frag) (cA : Nat → Addr) (W : WX) (f : Nat → Option Addr) (σ : L2.St) (H : Hp) (r : R (List Vl)) (Q : L2.It → Hp → Prop) : Prop := match r with
  | .ok vs S' => ∀ g H' J, Ext f H g H' → Rel K cA g H' S' → Src K cA g H' J vs → Q J H'
  | .exc c n S' => ∀ g H' d, Ext f H g H' → Rel K cA g H' S' → ExD H' n d → W (.ref (cA c)) d σ H'
  | .bad => False
def tI (K : PySem.W.Frag) (cA : Nat → Addr) (W : WX) (m : PV.It) : TI := fun σ H Q => ∃ f e S, Rel K cA f H S ∧ EnvR K cA f H e σ ∧ okI K cA W f σ H (m e S) Q
theorem okI.ext {r : R (List Vl)} {σ : L2.St} {Q : L2.It → Hp → Prop} (h : okI K cA W f σ H r Q) (a : Ext f H g H1) : okI K cA W g σ H1 r Q := by
  cases r with
  | ok w S => exact fun h2 H2 v X => h h2 H2 v (a.trans X)
  | exc c n S => exact fun h2 H2 v X => h h2 H2 v (a.trans X)
  | bad => exact h
theorem okI.bind {ma : R Vl} {k : Vl → Sto → R (List Vl)} {σ : L2.St} {R' : VK} {Q : L2.It → Hp → Prop} (h : okI K cA W f σ H (ma.bind k) Q)
    (hk : ∀ g H1 w S1 v, Ext f H g H1 → Rel K cA g H1 S1 → RepW K cA g H1 w v → okI K cA W g σ H1 (k w S1) Q → R' v H1) : okE K cA W f σ H ma R' := by
  cases ma with
  | ok w S => exact fun g2 H2 v X r q => hk g2 H2 w S v X r q (okI.ext h X)
  | exc c n S => exact h
  | bad => exact h
theorem src_list {a : Addr} {xs : List V} {vs : List Vl} {ds : List D} (l : FzL K H a xs) (dx : RepDs K H ds xs) (e : vs = ds.map Vl.p) : Src K cA g H (Itl K a) vs := by
  subst e
  refine ⟨xs.length, _, _, walk_list, by rw [repDs_len dx, List.length_map], fun g2 H2 X => (X.fzL l).sq, fun i x v g2 h h' S2 X r y hv => ?_⟩
  obtain ⟨rfl, hx⟩ := y
  obtain ⟨x2, h1, h2⟩ := repWs_get (repWs_map.mpr dx) hv
  rw [h1] at hx
  cases hx
  exact ⟨Ext.refl, r, X.repW h2⟩
theorem src_tup {a : Addr} {xs : List V} {vs : List Vl} (l : SqT K H a xs) (dx : RepWs K cA g H vs xs) : Src K cA g H (Itt K a) vs := by
  refine ⟨xs.length, _, _, walk_tup, repWs_len dx, fun g2 H2 X => X.sqT l, fun i x v g2 h h' S2 X r y hv => ?_⟩
  obtain ⟨rfl, hx⟩ := y
  obtain ⟨x2, h1, h2⟩ := repWs_get dx hv
  rw [h1] at hx
  cases hx
  exact ⟨Ext.refl, r, X.repW h2⟩
theorem src_rng {lo hi : Int} : Src K cA g H (Itr lo (hi - lo).toNat) (rngV lo hi) := by
  refine ⟨(hi - lo).toNat, _, _, walk_range, by unfold rngV; simp, fun _ _ _ => trivial, fun i x v g2 h h' S2 X r y hv => ?_⟩
  obtain ⟨rfl, hx⟩ := y
  subst hx
  unfold rngV at hv
  rw [List.getElem?_map] at hv
  cases e : (List.range (hi - lo).toNat)[i]? with
  | none => rw [e] at hv; cases hv
  | some k =>
    rw [e] at hv
    cases hv
    have ek : k = i := by
      have := List.getElem?_eq_some_iff.mp e
      obtain ⟨h1, h2⟩ := this
      rw [List.getElem_range] at h2
      exact h2.symm
    subst ek
    exact ⟨Ext.refl, r, repW_p.mpr (repD_int.mpr rfl)⟩
theorem src_str {z : Str} : Src K cA g H (Its z) (signs z) := by
  refine ⟨z.cps.size, _, _, walk_str, by unfold signs; simp, fun _ _ _ => trivial, fun i x v g2 h h' S2 X r y hv => ?_⟩
  obtain ⟨rfl, c, hc, rfl⟩ := y
  unfold signs at hv
  rw [List.getElem?_map, Array.getElem?_toList, hc] at hv
  cases hv
  exact ⟨Ext.refl, r, repW_p.mpr (repD_str.mpr rfl)⟩
/-- a new pair -/
theorem pair_new {g2 : Nat → Option Addr} {h : Hp} {S2 : Sto} {T : Addr} {x y : V} {d e : D} (r : Rel K cA g2 h S2) (hT : h T = none) (hx : RepD K h d x) (hy : RepD K h e y) :
    Ext g2 h g2 (upd h T (.tup [x, y])) ∧ Rel K cA g2 (upd h T (.tup [x, y])) S2 ∧ RepW K cA g2 (upd h T (.tup [x, y])) (.p (.tuple [d, e])) (.ref T) := by
  have X : Ext g2 h g2 (upd h T (.tup [x, y])) := Ext.laid hT
  exact ⟨X, r.laid hT, repW_p.mpr (repD_tuple.mpr ⟨T, [x, y], rfl, SqT.of upd_same, repDs_cons.mpr ⟨x, [y], rfl, X.repD hx, repDs_cons.mpr ⟨y, [], rfl, X.repD hy, repDs_nil.mpr rfl⟩⟩⟩)⟩
theorem enumV_get : ∀ {ds : List D} {k i : Nat} {v : Vl}, (enumV k ds)[i]? = some v → ∃ d, ds[i]? = some d ∧ v = .p (.tuple [.int ((k + i : Nat) : Int), d])
  | [], k, i, v, h => by cases h
  | d :: ds, k, 0, v, h => by
    cases (show some (Vl.p (.tuple [.int (k : Nat), d])) = some v from h)
    exact ⟨d, rfl, rfl⟩
  | d :: ds, k, i + 1, v, h => by
    obtain ⟨e, h1, h2⟩ := enumV_get (ds := ds) (k := k + 1) (i := i) (v := v) h
    refine ⟨e, h1, ?_⟩
    rw [h2, show k + 1 + i = k + (i + 1) by omega]
theorem enumV_len : ∀ (ds : List D) (k : Nat), (enumV k ds).length = ds.length
  | [], _ => rfl
  | d :: ds, k => by
    show (enumV (k + 1) ds).length + 1 = ds.length + 1
    rw [enumV_len ds]
theorem repDs_get {ds : List D} {xs : List V} {i : Nat} {d : D} (dx : RepDs K H ds xs) (h : ds[i]? = some d) : ∃ x, xs[i]? = some x ∧ RepD K H d x := by
  obtain ⟨x, h1, h2⟩ := repWs_get (cA := fun _ => 0) (f := fun _ => none) (repWs_map.mpr dx) (i := i) (w := .p d) (by rw [List.getElem?_map, h] <;> rfl)
  exact ⟨x, h1, repW_p.mp h2⟩
theorem src_enum {a : Addr} {xs : List V} {ds : List D} (l : FzL K H a xs) (dx : RepDs K H ds xs) : Src K cA g H (Ite K a) (enumV 0 ds) := by
  refine ⟨xs.length, _, _, walk_enum, by rw [repDs_len dx, enumV_len], fun g2 H2 X => (X.fzL l).sq, fun i x v g2 h h' S2 X r y hv => ?_⟩
  obtain ⟨T, x1, y1, rfl, hT, rfl, e1, e2⟩ := y
  obtain ⟨d, hd, rfl⟩ := enumV_get hv
  obtain ⟨z, h1, h2⟩ := repDs_get dx hd
  dsimp only at e1 e2
  rw [h1] at e2
  cases e2
  cases e1
  rw [Nat.zero_add]
  exact pair_new r hT (repD_int.mpr rfl) (X.repD h2)
theorem zipV_get : ∀ {ds es : List D} {i : Nat} {v : Vl}, (zipV ds es)[i]? = some v → ∃ d e, ds[i]? = some d ∧ es[i]? = some e ∧ v = .p (.tuple [d, e])
  | [], es, i, v, h => by cases h
  | d :: ds, [], i, v, h => by cases h
  | d :: ds, e :: es, 0, v, h => by
    cases (show some (Vl.p (.tuple [d, e])) = some v from h)
    exact ⟨d, e, rfl, rfl, rfl⟩
  | d :: ds, e :: es, i + 1, v, h => zipV_get (ds := ds) (es := es) (i := i) (v := v) h
theorem zipV_len : ∀ (ds es : List D), (zipV ds es).length = min ds.length es.length
  | [], es => by simp [zipV]
  | d :: ds, [] => by simp [zipV]
  | d :: ds, e :: es => by
    show (zipV ds es).length + 1 = min (ds.length + 1) (es.length + 1)
    rw [zipV_len ds es]
    omega
theorem src_zip {a b : Addr} {xs ys : List V} {ds es : List D} (l : FzL K H a xs) (dx : RepDs K H ds xs) (l2 : FzL K H b ys) (dy : RepDs K H es ys) : Src K cA g H (Itz K a b) (zipV ds es) := by
  refine ⟨min xs.length ys.length, _, _, walk_zip rfl, by rw [repDs_len dx, repDs_len dy, zipV_len], fun g2 H2 X => ⟨(X.fzL l).sq, (X.fzL l2).sq⟩, fun i x v g2 h h' S2 X r y hv => ?_⟩
  obtain ⟨T, x1, y1, rfl, hT, rfl, e1, e2⟩ := y
  obtain ⟨d, e, hd, he, rfl⟩ := zipV_get hv
  obtain ⟨z, h1, h2⟩ := repDs_get dx hd
  obtain ⟨z2, h3, h4⟩ := repDs_get dy he
  dsimp only at e1 e2
  rw [h1] at e1
  rw [h3] at e2
  cases e1
  cases e2
  exact pair_new r hT (X.repD h2) (X.repD h4)
end
section
variable {X : Cx} {cA : Nat → Addr} {W : WX} {tg : Expr}
theorem pi_le {e : Expr} {t t' : TI} (h : PI X tg e t) (k : ∀ σ H Q, t' σ H Q → t σ H Q) : PI X tg e t' := ⟨fun pins s σ H Q I q => h.run pins s σ H Q I (k σ H Q q)⟩
theorem i_list {a : Expr} {m : M} (ha : PE X a (tE X.K cA W m)) : PI X tg a (tI X.K cA W (itL m)) := pi_le (pi_list ha) fun σ H Q h => by
  obtain ⟨f, e, S, r, er, q⟩ := h
  refine ⟨f, e, S, r, er, okI.bind q fun g H1 w S1 v X1 r1 q1 h1 => ?_⟩
  cases w with
  | p d =>
    cases d with
    | list ds =>
      obtain ⟨a, xs, rfl, l, dx⟩ := repD_list.mp (repW_p.mp q1)
      exact ⟨a, rfl, ⟨xs, l.sq⟩, h1 g H1 _ Ext.refl r1 (src_list l dx rfl)⟩
    | _ => exact False.elim h1
  | _ => exact False.elim h1
theorem i_tup {a : Expr} {m : M} (ha : PE X a (tE X.K cA W m)) : PI X tg a (tI X.K cA W (itT m)) := pi_le (pi_tup ha) fun σ H Q h => by
  obtain ⟨f, e, S, r, er, q⟩ := h
  refine ⟨f, e, S, r, er, okI.bind q fun g H1 w S1 v X1 r1 q1 h1 => ?_⟩
  split at h1
  · rename_i vs e1
    obtain ⟨a, xs, rfl, l, dx⟩ := asT_rep q1 e1
    exact ⟨a, rfl, ⟨xs, l⟩, h1 g H1 _ Ext.refl r1 (src_tup l dx)⟩
  · exact False.elim h1
theorem i_str {a : Expr} {m : M} (ha : PE X a (tE X.K cA W m)) : PI X tg a (tI X.K cA W (itS m)) := pi_le (pi_str ha) fun σ H Q h => by
  obtain ⟨f, e, S, r, er, q⟩ := h
  refine ⟨f, e, S, r, er, okI.bind q fun g H1 w S1 v X1 r1 q1 h1 => ?_⟩
  cases w with
  | p d =>
    cases d with
    | str z => exact ⟨z, repD_str.mp (repW_p.mp q1), h1 g H1 _ Ext.refl r1 src_str⟩
    | _ => exact False.elim h1
  | _ => exact False.elim h1
theorem i_r1 {a : Expr} {m : M} {p pos : Pos} (hg : Gl X "range") (hm : X.mg "range" = none) (ha : PE X a (tE X.K cA W m)) (hs : starEach [a] X.env = [(false, eval a X.env)] := by rfl) (hs2 : starEach (a :: []) X.env = (false, eval a X.env) :: starEach [] X.env := by rfl) :
    PI X tg (.Call (.Name "range" p) [a] [] pos) (tI X.K cA W (itR1 m)) := pi_le (pi_range1 hg hm (pa_cons ha pa_nil hs2) hs) fun σ H Q h => by
  obtain ⟨f, e, S, r, er, q⟩ := h
  refine ⟨f, e, S, r, er, okI.bind q fun g H1 w S1 v X1 r1 q1 h1 => ?_⟩
  cases w with
  | p d =>
    cases d with
    | int j =>
      have h2 : okI X.K cA W g σ H1 (if RgFits 0 j then .ok (rngV 0 j) S1 else .bad) Q := h1
      split at h2
      · rename_i hf
        obtain ⟨_, _, k1, k2⟩ := hf
        refine ⟨j, by rw [repD_int.mp (repW_p.mp q1)], k1, k2, ?_⟩
        have z := h2 g H1 _ Ext.refl r1 src_rng
        rw [Int.sub_zero] at z
        exact z
      · exact False.elim h2
    | _ => exact False.elim h1
  | _ => exact False.elim h1
theorem i_r2 {a b : Expr} {m n : M} {p pos : Pos} (hg : Gl X "range") (hm : X.mg "range" = none) (ha : PE X a (tE X.K cA W m)) (hb : PE X b (tE X.K cA W n)) (hs : starEach [a, b] X.env = [(false, eval a X.env), (false, eval b X.env)] := by rfl)
    (hs1 : starEach (a :: [b]) X.env = (false, eval a X.env) :: starEach [b] X.env := by rfl) (hs2 : starEach (b :: []) X.env = (false, eval b X.env) :: starEach [] X.env := by rfl) (hs3 : starEach [b] X.env = [(false, eval b X.env)] := by rfl) :
    PI X tg (.Call (.Name "range" p) [a, b] [] pos) (tI X.K cA W (itR2 m n)) := pi_le (pi_range2 hg hm (pa_cons ha (pa_cons hb pa_nil hs2) hs1) hs hs3) fun σ H Q h => by
  obtain ⟨f, e, S, r, er, q⟩ := h
  refine ⟨f, e, S, r, er, okI.bind q fun g H1 w S1 v X1 r1 q1 h1 => ?_⟩
  refine ⟨g, e, S1, r1, X1.envR er, okI.bind h1 fun g2 H2 w2 S2 v2 X2 r2 q2 h2 => ?_⟩
  cases w with
  | p d =>
    cases d with
    | int i =>
      cases w2 with
      | p d2 =>
        cases d2 with
        | int j =>
          have h3 : okI X.K cA W g2 σ H2 (if RgFits i j then .ok (rngV i j) S2 else .bad) Q := h2
          split at h3
          · rename_i hf
            exact ⟨i, j, by rw [repD_int.mp (repW_p.mp q1), repD_int.mp (repW_p.mp q2)], hf, h3 g2 H2 _ Ext.refl r2 src_rng⟩
          · exact False.elim h3
        | _ => exact False.elim h2
      | _ => exact False.elim h2
    | _ => exact False.elim h2
  | _ => exact False.elim h2
theorem i_enum {elts : List Expr} {kk : Nat} {tpos : Pos} {a : Expr} {m : M} {p pos : Pos} (hg : Gl X "enumerate") (hm : X.mg "enumerate" = none) (ha : PE X a (tE X.K cA W m)) (hs : starEach [a] X.env = [(false, eval a X.env)] := by rfl) (hs2 : starEach (a :: []) X.env = (false, eval a X.env) :: starEach [] X.env := by rfl) :
    PI X (.Tuple elts kk tpos) (.Call (.Name "enumerate" p) [a] [] pos) (tI X.K cA W (itE m)) := pi_le (pi_enum hg hm (pa_cons ha pa_nil hs2) hs) fun σ H Q h => by
  obtain ⟨f, e, S, r, er, q⟩ := h
  refine ⟨f, e, S, r, er, okI.bind q fun g H1 w S1 v X1 r1 q1 h1 => ?_⟩
  cases w with
  | p d =>
    cases d with
    | list ds =>
      obtain ⟨a, xs, rfl, l, dx⟩ := repD_list.mp (repW_p.mp q1)
      exact ⟨a, xs, rfl, l.sq, h1 g H1 _ Ext.refl r1 (src_enum l dx)⟩
    | _ => exact False.elim h1
  | _ => exact False.elim h1
theorem i_zip {elts : List Expr} {kk : Nat} {tpos : Pos} {a b : Expr} {m n : M} {p pos : Pos} (hg : Gl X "zip") (hm : X.mg "zip" = none) (ha : PE X a (tE X.K cA W m)) (hb : PE X b (tE X.K cA W n))
    (hs1 : starEach (a :: [b]) X.env = (false, eval a X.env) :: starEach [b] X.env := by rfl) (hs2 : starEach (b :: []) X.env = (false, eval b X.env) :: starEach [] X.env := by rfl) (hpl : (backTo pos (starEach [b] X.env)).any (·.1) = false := by rfl) :
    PI X (.Tuple elts kk tpos) (.Call (.Name "zip" p) [a, b] [] pos) (tI X.K cA W (itZ m n)) := pi_le (pi_zip hg hm (pa_cons ha (pa_cons hb pa_nil hs2) hs1) hs1 hpl) fun σ H Q h => by
  obtain ⟨f, e, S, r, er, q⟩ := h
  refine ⟨f, e, S, r, er, okI.bind q fun g H1 w S1 v X1 r1 q1 h1 => ?_⟩
  refine ⟨g, e, S1, r1, X1.envR er, okI.bind h1 fun g2 H2 w2 S2 v2 X2 r2 q2 h2 => ?_⟩
  cases w with
  | p d =>
    cases d with
    | list ds =>
      cases w2 with
      | p d2 =>
        cases d2 with
        | list es =>
          obtain ⟨a, xs, rfl, l, dx⟩ := repD_list.mp (repW_p.mp q1)
          obtain ⟨b, ys, rfl, l2, dy⟩ := repD_list.mp (repW_p.mp q2)
          exact ⟨a, b, xs, ys, rfl, (X2.fzL l).sq, l2.sq, h2 g2 H2 _ Ext.refl r2 (src_zip (X2.fzL l) (X2.repDs dx) l2 dy)⟩
        | _ => exact False.elim h2
      | _ => exact False.elim h2
    | _ => exact False.elim h2
  | _ => exact False.elim h2
/-! ### for -/
theorem s_for {iter : Expr} {body : List Stmt} {it : PV.It} {g : G} {b : MS} {pos : Pos} (hp : PassesOwn (model X.prog X.w) X.A X.env X.xe) (hc : X.calm = true) (hi : PI X tg iter (tI X.K cA W it)) (hg : PG X tg (tG X.K cA g)) (hb : PSs X body (tS X.K cA W b))
    (hs : ∀ x, foldedSetIterable iter X.env x = pure x := by intro _; rfl) : PS X (.For tg iter body [] pos) (tS X.K cA W (sFor g it b)) := ps_le (ps_for hp hc hi hg hb hs) fun D σ H h => by
  obtain ⟨f, e, S, r, er, q⟩ := h
  refine ⟨f, e, S, r, er, ?_⟩
  unfold sFor at q
  cases hv : it e S with
  | exc c n S1 =>
    rw [hv] at q
    exact fun g2 H2 d X r2 k => q g2 H2 σ d X r2 (X.envR er) k
  | bad =>
    rw [hv] at q
    exact q
  | ok vs S1 =>
    rw [hv] at q
    intro g1 H1 J X1 r1 src
    obtain ⟨n, Gd, Y, wk, hn, hst, hy⟩ := src
    have q1 : okS X.K cA W g1 H1 (loopG g b vs e S1) D := okS.ext q X1
    refine for_it wk (fun i σ' H' => ∃ g2 e2 S2, Ext g1 H1 g2 H' ∧ Rel X.K cA g2 H' S2 ∧ EnvR X.K cA g2 H' e2 σ' ∧ okS X.K cA W g2 H' (loopG g b (vs.drop i) e2 S2) D)
      ⟨g1, e, S1, Ext.refl, r1, X1.envR er, q1⟩ (fun i σ' H' _ ⟨g2, _, _, X2, _⟩ => hst g2 H' X2) ?_ ?_
    · rintro i x σ' H' H'' hi ⟨g2, e2, S2, X2, r2, er2, k2⟩ y
      have hlt : i < vs.length := by rw [← hn]; exact hi
      have hvi : vs[i]? = some vs[i] := List.getElem?_eq_getElem hlt
      obtain ⟨X3, r3, w3⟩ := hy i x vs[i] g2 H' H'' S2 X2 r2 y hvi
      rw [List.drop_eq_getElem_cons hlt] at k2
      have k3 : okS X.K cA W g2 H'' (loopG g b (vs[i] :: vs.drop (i + 1)) e2 S2) D := okS.ext k2 X3
      unfold loopG at k3
      refine ⟨g2, e2, S2, vs[i], r3, X3.envR er2, w3, ?_⟩
      cases hg1 : g vs[i] e2 S2 with
      | exc c n2 S3 => simp only [hg1] at k3; exact False.elim k3
      | bad => simp only [hg1] at k3; exact False.elim k3
      | ok e3 S3 =>
        simp only [hg1] at k3
        intro g3 H3 σ3 X4 r4 er4
        refine ⟨g3, e3, S3, r4, er4, ?_⟩
        have XX : Ext g1 H1 g3 H3 := X2.trans (X3.trans X4)
        have k4 := okS.ext k3 X4
        cases hb1 : b e3 S3 with
        | nx e4 S4 =>
          simp only [hb1] at k4
          exact fun g4 H4 σ4 X5 r5 er5 => ⟨g4, e4, S4, XX.trans X5, r5, er5, okS.ext k4 X5⟩
        | ct e4 S4 =>
          simp only [hb1] at k4
          exact fun g4 H4 σ4 X5 r5 er5 => ⟨g4, e4, S4, XX.trans X5, r5, er5, okS.ext k4 X5⟩
        | bk e4 S4 =>
          simp only [hb1] at k4
          exact k4
        | rt w S4 =>
          simp only [hb1] at k4
          exact k4
        | ex c n2 e4 S4 =>
          simp only [hb1] at k4
          exact k4
        | bad =>
          simp only [hb1] at k4
          exact False.elim k4
    · rintro σ' H' ⟨g2, e2, S2, X2, r2, er2, k2⟩
      rw [hn, List.drop_length] at k2
      exact k2 g2 H' σ' Ext.refl r2 er2
/-! ### while -/
theorem s_while {c : Expr} {body : List Stmt} {mc : M} {b : MS} {pos : Pos} (hp : PassesOwn (model X.prog X.w) X.A X.env X.xe) (hc : PT X c (tT X.K cA W mc)) (hb : PSs X body (tS X.K cA W b)) : PS X (.While c body [] pos) (tS X.K cA W (sWhile mc b)) := ps_le (ps_while hp hc hb) fun D σ H h => by
  obtain ⟨f, e, S, r, er, q⟩ := h
  unfold sWhile at q
  split at q
  · rename_i hx
    refine ⟨fun m σ' H' => ∃ g2 e2 S2, Rel X.K cA g2 H' S2 ∧ EnvR X.K cA g2 H' e2 σ' ∧ okS X.K cA W g2 H' (wStep mc b m e2 S2) D, ⟨_, f, e, S, r, er, q⟩, ?_⟩
    rintro m σ1 H1 ⟨g1, e1, S1, r1, er1, q1⟩
    cases m with
    | zero => exact False.elim q1
    | succ m =>
      unfold wStep at q1
      refine ⟨g1, e1, S1, r1, er1, okS.val er1 q1 fun g2 H2 w S2 v X2 r2 q2 er2 h2 => ?_⟩
      obtain ⟨⟨k, rfl⟩, ht, hf⟩ := onO_cases h2
      refine ⟨k, repD_bool.mp (repW_p.mp q2), ?_⟩
      cases k with
      | false =>
        rw [if_neg Bool.false_ne_true]
        exact hf rfl g2 H2 σ1 Ext.refl r2 er2
      | true =>
        rw [if_pos rfl]
        have h3 := ht rfl
        refine ⟨fun σ' H' => ∃ g2 e2 S2, Rel X.K cA g2 H' S2 ∧ EnvR X.K cA g2 H' e2 σ' ∧ okS X.K cA W g2 H' (wStep mc b m e2 S2) D, fun σ' H' z => ⟨m, Nat.lt_succ_self m, z⟩, g2, e1, S2, r2, er2, ?_⟩
        cases hb1 : b e1 S2 with
        | nx e4 S4 =>
          simp only [hb1] at h3
          exact fun g4 H4 σ4 X5 r5 er5 => ⟨g4, e4, S4, r5, er5, okS.ext h3 X5⟩
        | ct e4 S4 =>
          simp only [hb1] at h3
          exact fun g4 H4 σ4 X5 r5 er5 => ⟨g4, e4, S4, r5, er5, okS.ext h3 X5⟩
        | bk e4 S4 =>
          simp only [hb1] at h3
          exact h3
        | rt w S4 =>
          simp only [hb1] at h3
          exact h3
        | ex c n2 e4 S4 =>
          simp only [hb1] at h3
          exact h3
        | bad =>
          simp only [hb1] at h3
          exact False.elim h3
  · exact False.elim q
end
end PV

/-! Comprehensions, stores, methods, calls, the end of a def. -/
namespace PV
open PySem L2 PySem.Spec PyProof.Rows
/-! ### list comprehensions -/
/-- what a comprehension's target may be: a name, a tuple of names -/
inductive CT where
  | nm (i : Nat) | tp (is : List Nat)
def CT.g : CT → G
  | .nm i => gNm i
  | .tp is => gTp (is.map gNm)
def ctHs : List Nat → TGs
  | [] => gNil
  | i :: is => gCons (gName i) (ctHs is)
def CT.h (K : PySem.W.Frag) : CT → TG
  | .nm i => gName i
  | .tp is => gTup K is.length (ctHs is)
def CT.sl : CT → List Nat
  | .nm i => [i]
  | .tp is => is
theorem wipe_get {σ : L2.St} : ∀ {vs : List Nat} {j : Nat}, (wipe σ vs)[j]? = if j ∈ vs ∧ j < σ.length then some none else σ[j]?
  | [], j => by
    rw [if_neg (fun z => by cases z.1)]
    rfl
  | v :: vs, j => by
    unfold wipe
    by_cases hj : v = j
    · subst hj
      by_cases hl : v < σ.length
      · rw [List.getElem?_set_self (by rw [wipe_length]; exact hl), if_pos ⟨List.mem_cons_self, hl⟩]
      · rw [if_neg (fun z => hl z.2), List.getElem?_eq_none (by rw [List.length_set, wipe_length]; exact Nat.le_of_not_lt hl), List.getElem?_eq_none (Nat.le_of_not_lt hl)]
    · rw [List.getElem?_set_ne hj, wipe_get (vs := vs) (j := j)]
      by_cases hm : j ∈ vs
      · by_cases hl : j < σ.length
        · rw [if_pos ⟨hm, hl⟩, if_pos ⟨List.mem_cons_of_mem _ hm, hl⟩]
        · rw [if_neg (fun z => hl z.2), if_neg (fun z => hl z.2)]
      · rw [if_neg (fun z => hm z.1), if_neg (fun z => hm ((List.mem_cons.mp z.1).resolve_left (fun q => hj q.symm)))]
theorem wipe_set {σ : L2.St} {vs : List Nat} {i : Nat} {x : Option V} (h : i ∈ vs) : wipe (σ.set i x) vs = wipe σ vs := by
  apply List.ext_getElem?
  intro j
  rw [wipe_get, wipe_get, List.length_set]
  by_cases hm : j ∈ vs ∧ j < σ.length
  · rw [if_pos hm, if_pos hm]
  · rw [if_neg hm, if_neg hm]
    by_cases hj : i = j
    · subst hj
      have hl : ¬ i < σ.length := fun z => hm ⟨h, z⟩
      rw [List.getElem?_eq_none (by rw [List.length_set]; exact Nat.le_of_not_lt hl), List.getElem?_eq_none (Nat.le_of_not_lt hl)]
    · rw [List.getElem?_set_ne hj]
section
variable {K : PySem.W.Frag} {cA : Nat → Addr} {W : WX} {f g : Nat → Option Addr} {H H1 : Hp}
theorem EnvR.wipe {e : Env} {σ : L2.St} (h : EnvR K cA f H e σ) : ∀ vs : List Nat, EnvR K cA f H (wipeE e vs) (L2.wipe σ vs)
  | [] => h
  | v :: vs => by
    have ih := EnvR.wipe h vs
    refine ⟨by unfold wipeE L2.wipe; rw [List.length_set, List.length_set]; exact ih.1, fun i w q => ?_⟩
    unfold wipeE at q
    by_cases hi : v = i
    · subst hi
      by_cases hl : v < (wipeE e vs).length
      · rw [List.getElem?_set_self hl] at q
        cases q
      · rw [List.getElem?_eq_none (by rw [List.length_set]; exact Nat.le_of_not_lt hl)] at q
        cases q
    · rw [List.getElem?_set_ne hi] at q
      obtain ⟨x, h1, h2⟩ := ih.2 i w q
      refine ⟨x, ?_, h2⟩
      unfold L2.wipe
      rw [List.getElem?_set_ne hi]
      exact h1
theorem ctHs_run {vs : List Nat} {S : Sto} {Q : L2.St → Hp → Prop} : ∀ {is : List Nat} {ws : List Vl} {xs : List V} {e e1 : Env} {S1 : Sto} {σ : L2.St}, (∀ i ∈ is, i ∈ vs) → EnvR K cA f H e σ → RepWs K cA f H ws xs → gAll (is.map gNm) ws e S = .ok e1 S1 →
    (S1 = S → ∀ σ2, EnvR K cA f H e1 σ2 → wipe σ2 vs = wipe σ vs → Q σ2 H) → ctHs is xs σ H Q
  | [], [], xs, e, e1, S1, σ, _, er, rw', h, k => by
    cases h
    exact ⟨repWs_nil.mp rw', k rfl σ er rfl⟩
  | [], _ :: _, xs, e, e1, S1, σ, _, er, rw', h, k => by cases h
  | i :: is, [], xs, e, e1, S1, σ, _, er, rw', h, k => by cases h
  | i :: is, w :: ws, xs, e, e1, S1, σ, hm, er, rw', h, k => by
    obtain ⟨x, r, rfl, h1, h2⟩ := repWs_cons.mp rw'
    have h' : gAll (is.map gNm) ws (e.set i (some w)) S = .ok e1 S1 := h
    refine ⟨x, r, rfl, ctHs_run (fun j hj => hm j (List.mem_cons_of_mem _ hj)) (er.set i h1) h2 h' fun hS σ2 er2 hw => k hS σ2 er2 ?_⟩
    rw [hw, wipe_set (hm i List.mem_cons_self)]
theorem ct_run {t : CT} {vs : List Nat} {w : Vl} {x : V} {e e1 : Env} {S S1 : Sto} {σ : L2.St} {Q : L2.St → Hp → Prop} (hm : ∀ i ∈ t.sl, i ∈ vs) (er : EnvR K cA f H e σ) (rw' : RepW K cA f H w x) (h : t.g w e S = .ok e1 S1)
    (k : S1 = S → ∀ σ2, EnvR K cA f H e1 σ2 → wipe σ2 vs = wipe σ vs → Q σ2 H) : t.h K x σ H Q := by
  cases t with
  | nm i =>
    cases h
    exact k rfl _ (er.set i rw') (wipe_set (hm i List.mem_cons_self))
  | tp is =>
    have h' : (match asT w with
      | some vs => if vs.length = (is.map gNm).length then gAll (is.map gNm) vs e S else R.bad
      | none => R.bad) = .ok e1 S1 := h
    split at h'
    · rename_i ws e2
      split at h'
      · rename_i e3
        obtain ⟨a, xs, rfl, l, dx⟩ := asT_rep rw' e2
        refine ⟨a, xs, rfl, l, by rw [repWs_len dx, e3, List.length_map], ctHs_run hm er dx h' k⟩
      · cases h'
    · cases h'
/-- how the new list of a comprehension is told -/
structure MkOk (K : PySem.W.Frag) (cA : Nat → Addr) (mk : List Vl → Sto → R Vl) (Qf : VK → VK) : Prop where
  len : ∀ {W : WX} {f : Nat → Option Addr} {σ : L2.St} {H : Hp} {ws : List Vl} {S : Sto} {Q : VK}, okE K cA W f σ H (mk ws S) Q → ws.length ≤ sizeLine
  fin : ∀ {W : WX} {f g : Nat → Option Addr} {σ : L2.St} {H H1 : Hp} {ws : List Vl} {xs : List V} {S S0 : Sto} {D : Addr} {Q : VK}, Rel K cA f H S0 → Ext f H g H1 → Rel K cA g H1 S → H D = none → (∀ i, g i ≠ some D) → H1 D = some (.lst xs) → RepWs K cA g H1 ws xs → okE K cA W f σ H (mk ws S) Q → Qf Q (.ref D) H1
theorem mkOk_F : MkOk K cA lstF fzQ := by
  refine ⟨fun {W f σ H ws S Q} h => ?_, fun {W f g σ H H1 ws xs S S0 D Q} r0 X r hD hn hx q h => ?_⟩
  · unfold lstF at h
    split at h
    · assumption
    · exact False.elim h
  · refine ⟨D, xs, rfl, hx, fun o => ?_⟩
    unfold lstF at h
    split at h
    · cases e : pures ws with
      | none => rw [e] at h; exact False.elim h
      | some ds =>
        rw [e] at h
        have m : Mx g H1 g (upd H1 D (.frz o (.lst xs))) := Mx.other hx (fun z => z)
        exact h g _ _ (X.newer hD) (r.other hx (fun z => z) hn) (repW_p.mpr (repD_list.mpr ⟨D, xs, rfl, .inl ⟨o, upd_same⟩, m.repDs (repWs_pures q e)⟩))
    · exact False.elim h
theorem mkOk_M : MkOk K cA lstM (fun Q => Q) := by
  refine ⟨fun {W f σ H ws S Q} h => ?_, fun {W f g σ H H1 ws xs S S0 D Q} r0 X r hD hn hx q h => ?_⟩
  · unfold lstM at h
    split at h
    · assumption
    · exact False.elim h
  · unfold lstM at h
    split at h
    · have hne : ∀ i a, f i = some a → i ≠ S.length := fun i a e z => by
        have := r.dom i a (X.up i a e)
        omega
      have m : Mx g H1 (addF g S.length D) H1 := ⟨fun i a e => by rw [addF_ne (Nat.ne_of_lt (r.dom i a e))]; exact e, fun _ _ e _ => e⟩
      exact h _ _ _ (X.adopt hD hne) (r.adopt hx hn ⟨xs, hx, m.repWs q⟩) (repW_r.mpr ⟨D, rfl, addF_self⟩)
    · exact False.elim h
end
section
variable {X : Cx} {cA : Nat → Addr} {W : WX} {tg : Expr}
/-- nothing may be raised within a comprehension -/
abbrev W0 : WX := fun _ _ _ _ => False
theorem ts_nil : PTs X [] (tT X.K cA W0 mYes) := ⟨fun pins s σ H Q I h => by
  obtain ⟨f, e, S, r, er, q⟩ := h
  obtain ⟨b, e1, q2⟩ := q f H (.bl true) Ext.refl r (repW_p.mpr (repD_bool.mpr rfl))
  cases e1
  exact pts_nil.run pins s σ H Q I q2⟩
theorem ts_one {c : Expr} {m : M} (h : PT X c (tT X.K cA W0 m)) : PTs X [c] (tT X.K cA W0 m) := pts_one h
theorem wipe_wipe (σ : L2.St) (vs : List Nat) : wipe (wipe σ vs) vs = wipe σ vs := by
  apply List.ext_getElem?
  intro j
  rw [wipe_get, wipe_get, wipe_length]
  by_cases hm : j ∈ vs ∧ j < σ.length
  · rw [if_pos hm, if_pos hm]
  · rw [if_neg hm]
theorem w_lc {it : PV.It} {c a : M} {own : List Nat} {t : CT} {mk : List Vl → Sto → R Vl} {Qf : VK → VK} (hk : MkOk X.K cA mk Qf) (hm : ∀ i ∈ t.sl, i ∈ own) {σ : L2.St} {H : Hp} {Q : VK} (h : tE X.K cA W (mLc own t.g it c a mk) σ H Q) :
    tLc (tI X.K cA W it) (t.h X.K) (tT X.K cA W0 c) (tE X.K cA W0 a) own σ H (Qf Q) := by
  obtain ⟨f, e, S, r, er, q⟩ := h
  refine ⟨f, e, S, r, er, ?_⟩
  unfold mLc at q
  cases hv : it e S with
  | exc k n S1 =>
    rw [hv] at q
    exact q
  | bad =>
    rw [hv] at q
    exact q
  | ok vs S1 =>
    rw [hv] at q
    intro g1 H1 J X1 r1 src D hD
    obtain ⟨n, Gd, Y, wk, hn, hst, hy⟩ := src
    have q1 : okE X.K cA W g1 σ H1 (match lcG t.g c a vs (wipeE e own) S1 with
      | .ok ws S2 => mk ws S2
      | _ => .bad) Q := okE.ext (show okE X.K cA W f σ H (match lcG t.g c a vs (wipeE e own) S1 with
      | .ok ws S2 => mk ws S2
      | _ => .bad) Q from q) X1
    have er1 : EnvR X.K cA g1 H1 (wipeE e own) (wipe σ own) := (X1.envR er).wipe own
    refine lc_it wk (fun i H' => ∃ g2 S2 xs ws, Ext g1 H1 g2 H' ∧ Rel X.K cA g2 H' S2 ∧ (∀ k, g2 k ≠ some D) ∧ H' D = some (.lst xs) ∧ RepWs X.K cA g2 H' ws xs ∧
      okE X.K cA W g1 σ H1 (match lcG t.g c a (vs.drop i) (wipeE e own) S2 with
        | .ok ws' S3 => mk (ws ++ ws') S3
        | _ => .bad) Q) ?_ (fun i H' _ ⟨g2, S2, xs, ws, X2, _⟩ => hst g2 H' X2) ?_ ?_
    · refine ⟨g1, S1, [], [], Ext.laid hD, r1.laid hD, fun k z => ?_, upd_same, repWs_nil.mpr rfl, q1⟩
      obtain ⟨o, ho⟩ := r1.th k D z
      rw [hD] at ho
      cases ho
    · rintro i x H' H'' hi ⟨g2, S2, xs, ws, X2, r2, hnD, hxD, hws, k2⟩ y
      have hlt : i < vs.length := by rw [← hn]; exact hi
      have hvi : vs[i]? = some vs[i] := List.getElem?_eq_getElem hlt
      obtain ⟨X3, r3, w3⟩ := hy i x vs[i] g2 H' H'' S2 X2 r2 y hvi
      rw [List.drop_eq_getElem_cons hlt] at k2
      unfold lcG at k2
      have hD3 : H'' D = some (.lst xs) := X3.fr D _ hxD hnD
      cases hg1 : t.g vs[i] (wipeE e own) S2 with
      | exc k n2 S3 => simp only [hg1] at k2; exact False.elim k2
      | bad => simp only [hg1] at k2; exact False.elim k2
      | ok e3 S3 =>
        simp only [hg1] at k2
        refine ct_run hm (((X2.trans X3).envR er1)) w3 hg1 fun hS σ2 er2 hw => ⟨by rw [hw]; exact (wipe_wipe σ own), ?_⟩
        subst hS
        refine ⟨g2, e3, S3, r3, er2, ?_⟩
        cases hc1 : c e3 S3 with
        | exc k n2 S4 => simp only [hc1] at k2; exact False.elim k2
        | bad => simp only [hc1] at k2; exact False.elim k2
        | ok cv S4 =>
          simp only [hc1] at k2
          intro g3 H3 v3 X4 r4 w4
          cases cv with
          | p d =>
            cases d with
            | bool b =>
              refine ⟨b, repD_bool.mp (repW_p.mp w4), ?_⟩
              have hnD3 : ∀ k, g3 k ≠ some D := fun k z => (X4.nw k D z).elim (hnD k) fun z2 => by rw [hD3] at z2; cases z2
              have hD4 : H3 D = some (.lst xs) := X4.fr D _ hD3 hnD
              have XX : Ext g1 H1 g3 H3 := X2.trans (X3.trans X4)
              cases b with
              | false =>
                show (if false = true then _ else _)
                rw [if_neg Bool.false_ne_true]
                exact ⟨g3, S4, xs, ws, XX, r4, hnD3, hD4, (X3.trans X4).repWs hws, k2⟩
              | true =>
                show (if true = true then _ else _)
                rw [if_pos rfl]
                refine ⟨g3, e3, S4, r4, X4.envR er2, ?_⟩
                cases ha1 : a e3 S4 with
                | exc k n2 S5 => simp only [ha1] at k2; exact False.elim k2
                | bad => simp only [ha1] at k2; exact False.elim k2
                | ok w5 S5 =>
                  simp only [ha1] at k2
                  intro g4 H4 v5 X5 r5 w5'
                  have hnD4 : ∀ k, g4 k ≠ some D := fun k z => (X5.nw k D z).elim (hnD3 k) fun z2 => by rw [hD4] at z2; cases z2
                  have hD5 : H4 D = some (.lst xs) := X5.fr D _ hD4 hnD3
                  have XX2 : Ext g1 H1 g4 H4 := XX.trans X5
                  refine ⟨xs, hD5, ?_, g4, S5, xs ++ [v5], ws ++ [w5], XX2.newer hD, r5.other hD5 (fun z => z) hnD4, hnD4, upd_same, ?_, ?_⟩
                  · cases hl : lcG t.g c a (vs.drop (i + 1)) (wipeE e own) S5 with
                    | exc k n2 S6 => simp only [hl] at k2; exact False.elim k2
                    | bad => simp only [hl] at k2; exact False.elim k2
                    | ok ws' S6 =>
                      simp only [hl] at k2
                      have z := hk.len k2
                      rw [List.length_append, List.length_cons] at z
                      rw [repWs_len hws]
                      omega
                  · have m : Mx g4 H4 g4 (upd H4 D (.lst (xs ++ [v5]))) := Mx.other hD5 (fun z => z)
                    exact m.repWs (repWs_append ((X3.trans (X4.trans X5)).repWs hws) (repWs_cons.mpr ⟨v5, [], rfl, w5', repWs_nil.mpr rfl⟩))
                  · cases hl : lcG t.g c a (vs.drop (i + 1)) (wipeE e own) S5 with
                    | exc k n2 S6 => simp only [hl] at k2; exact False.elim k2
                    | bad => simp only [hl] at k2; exact False.elim k2
                    | ok ws' S6 =>
                      simp only [hl] at k2
                      show okE X.K cA W g1 σ H1 (mk (ws ++ [w5] ++ ws') S6) Q
                      rw [List.append_assoc]
                      exact k2
            | _ => exact False.elim k2
          | _ => exact False.elim k2
    · rintro H' ⟨g2, S2, xs, ws, X2, r2, hnD, hxD, hws, k2⟩
      rw [hn, List.drop_length] at k2
      have k3 : okE X.K cA W g1 σ H1 (mk (ws ++ []) S2) Q := k2
      rw [List.append_nil] at k3
      exact hk.fin r1 X2 r2 hD hnD hxD hws k3
end
end PV

/-! Comprehensions as expressions and stores, methods, calls, the end of a def. -/
namespace PV
open PySem L2 PySem.Spec PyProof.Rows
section
variable {X : Cx} {cA : Nat → Addr} {W : WX} {tg : Expr}
theorem e_lcF {elt iter : Expr} {ifs : List Expr} {scope : Scope} {own : List (Str × Nat)} {pos : Pos} {it : PV.It} {c a : M} {t : CT} (hc : X.calm = true) (hN : X.N.Nodup) (hi : PI X tg iter (tI X.K cA W it)) (ok : BlkOk X.N X.env.scope scope own)
    (hg : ∀ (s : Shared) (H : Hp) (C : Addr) (cl : List (Str × Addr)) (fp : List Addr), PG (X.blk s H scope (compEnvC scope cl C X.env) fp) tg (t.h X.K)) (ht : ∀ (s : Shared) (H : Hp) (C : Addr) (cl : List (Str × Addr)) (fp : List Addr), PTs (X.blk s H scope (compEnvC scope cl C X.env) fp) ifs (tT X.K cA W0 c))
    (he : ∀ (s : Shared) (H : Hp) (C : Addr) (cl : List (Str × Addr)) (fp : List Addr), PE (X.blk s H scope (compEnvC scope cl C X.env) fp) elt (tE X.K cA W0 a)) (hm : ∀ i ∈ t.sl, i ∈ own.map (·.2) := by decide) (hs : ∀ x, foldedSetIterable iter X.env x = pure x := by intro _; rfl) :
    PE X (.ListComp elt [⟨tg, iter, ifs, 0⟩] scope pos) (tE X.K cA W (mLc (own.map (·.2)) t.g it c a lstF)) :=
  pe_le (pe_fzE (pe_lc hc hN hi ok hg ht he hs)) fun σ H Q h => w_lc mkOk_F hm h
theorem e_lcM {elt iter : Expr} {ifs : List Expr} {scope : Scope} {own : List (Str × Nat)} {pos : Pos} {it : PV.It} {c a : M} {t : CT} (hc : X.calm = true) (hN : X.N.Nodup) (hi : PI X tg iter (tI X.K cA W it)) (ok : BlkOk X.N X.env.scope scope own)
    (hg : ∀ (s : Shared) (H : Hp) (C : Addr) (cl : List (Str × Addr)) (fp : List Addr), PG (X.blk s H scope (compEnvC scope cl C X.env) fp) tg (t.h X.K)) (ht : ∀ (s : Shared) (H : Hp) (C : Addr) (cl : List (Str × Addr)) (fp : List Addr), PTs (X.blk s H scope (compEnvC scope cl C X.env) fp) ifs (tT X.K cA W0 c))
    (he : ∀ (s : Shared) (H : Hp) (C : Addr) (cl : List (Str × Addr)) (fp : List Addr), PE (X.blk s H scope (compEnvC scope cl C X.env) fp) elt (tE X.K cA W0 a)) (hm : ∀ i ∈ t.sl, i ∈ own.map (·.2) := by decide) (hs : ∀ x, foldedSetIterable iter X.env x = pure x := by intro _; rfl) :
    PE X (.ListComp elt [⟨tg, iter, ifs, 0⟩] scope pos) (tE X.K cA W (mLc (own.map (·.2)) t.g it c a lstM)) :=
  pe_le (pe_lc hc hN hi ok hg ht he hs) fun σ H Q h => w_lc mkOk_M hm h
/-- y = [..]: the list is new and may change -/
theorem s_setLcM {i : Nat} {y : Str} {py : Pos} {elt iter : Expr} {ifs : List Expr} {scope : Scope} {own : List (Str × Nat)} {pos spos : Pos} {it : PV.It} {c a : M} {t : CT} (hc : X.calm = true) (hN : X.N.Nodup) (hy : X.N[i]? = some y) (hyl : X.env.scope.names.lookup y = some .local)
    (hsw : swapsWith (.ListComp elt [⟨tg, iter, ifs, 0⟩] scope pos) (some (.Name y py)) spos.line X.env = pure true) (hi : PI X tg iter (tI X.K cA W it)) (ok : BlkOk X.N X.env.scope scope own)
    (hg : ∀ (s : Shared) (H : Hp) (C : Addr) (cl : List (Str × Addr)) (fp : List Addr), PG (X.blk s H scope (compEnvC scope cl C X.env) fp) tg (t.h X.K)) (ht : ∀ (s : Shared) (H : Hp) (C : Addr) (cl : List (Str × Addr)) (fp : List Addr), PTs (X.blk s H scope (compEnvC scope cl C X.env) fp) ifs (tT X.K cA W0 c))
    (he : ∀ (s : Shared) (H : Hp) (C : Addr) (cl : List (Str × Addr)) (fp : List Addr), PE (X.blk s H scope (compEnvC scope cl C X.env) fp) elt (tE X.K cA W0 a)) (hm : ∀ i ∈ t.sl, i ∈ own.map (·.2) := by decide) (hs : ∀ x, foldedSetIterable iter X.env x = pure x := by intro _; rfl) :
    PS X (.Assign [.Name y py] (.ListComp elt [⟨tg, iter, ifs, 0⟩] scope pos) spos) (tS X.K cA W (sAsg (gNm i) (mLc (own.map (·.2)) t.g it c a lstM))) :=
  ps_le (ps_setLc hc hN hy hyl hsw hi ok hg ht he hs) fun D σ H h => by
    obtain ⟨f, e, S, r, er, q⟩ := h
    exact w_lc mkOk_M hm ⟨f, e, S, r, er, okS.val er q fun g2 H1 w S1 v X1 r1 q1 er1 h2 => h2 g2 H1 _ Ext.refl r1 (er1.set i q1)⟩
/-- .. the list changes no more -/
theorem ps_fzS {st : Stmt} {t : TS} (h : PS X st t) : PS X st (fun D σ H => t { D with nx := fun σ' H' => ∃ a xs, H' a = some (.lst xs) ∧ ∀ o, D.nx σ' (upd H' a (.frz o (.lst xs))) } σ H) := ⟨fun pins s σ H D I q => by
  refine thn (h.run pins s σ H _ I q) fun fl s1 z => ?_
  cases fl with
  | next =>
    obtain ⟨σ1, H1, I1, a, xs, hA, k⟩ := z
    obtain ⟨o, I2⟩ := inv_frz I1 hA (.inl ⟨xs, rfl⟩)
    exact ⟨σ1, _, I2, k o⟩
  | brk => exact z
  | cont => exact z
  | ret u => exact z⟩
theorem tI_mono {K : PySem.W.Frag} {it : PV.It} {σ : L2.St} {H : Hp} {Q Q' : L2.It → Hp → Prop} (h : tI K cA W it σ H Q) (k : ∀ J H, Q J H → Q' J H) : tI K cA W it σ H Q' := by
  obtain ⟨f, e, S, r, er, q⟩ := h
  refine ⟨f, e, S, r, er, ?_⟩
  cases hv : it e S with
  | ok vs S1 =>
    rw [hv] at q
    exact fun g H' J a b c => k _ _ (q g H' J a b c)
  | exc c n S1 =>
    rw [hv] at q
    exact q
  | bad =>
    rw [hv] at q
    exact q
theorem tLc_mono {K : PySem.W.Frag} {it : PV.It} {g : TG} {tt : TT} {te : TE} {vs : List Nat} {σ : L2.St} {H : Hp} {Q Q' : VK} (h : tLc (tI K cA W it) g tt te vs σ H Q) (k : ∀ v H, Q v H → Q' v H) : tLc (tI K cA W it) g tt te vs σ H Q' :=
  tI_mono h fun J H1 z D hD => by
    obtain ⟨Wd, h0, ht⟩ := z D hD
    exact ⟨Wd, h0, fun i m H hw => (ht i m H hw).imp (fun ⟨a, b⟩ => ⟨a, k _ _ b⟩) id⟩
theorem s_setLcF {i : Nat} {y : Str} {py : Pos} {elt iter : Expr} {ifs : List Expr} {scope : Scope} {own : List (Str × Nat)} {pos spos : Pos} {it : PV.It} {c a : M} {t : CT} (hc : X.calm = true) (hN : X.N.Nodup) (hy : X.N[i]? = some y) (hyl : X.env.scope.names.lookup y = some .local)
    (hsw : swapsWith (.ListComp elt [⟨tg, iter, ifs, 0⟩] scope pos) (some (.Name y py)) spos.line X.env = pure true) (hi : PI X tg iter (tI X.K cA W it)) (ok : BlkOk X.N X.env.scope scope own)
    (hg : ∀ (s : Shared) (H : Hp) (C : Addr) (cl : List (Str × Addr)) (fp : List Addr), PG (X.blk s H scope (compEnvC scope cl C X.env) fp) tg (t.h X.K)) (ht : ∀ (s : Shared) (H : Hp) (C : Addr) (cl : List (Str × Addr)) (fp : List Addr), PTs (X.blk s H scope (compEnvC scope cl C X.env) fp) ifs (tT X.K cA W0 c))
    (he : ∀ (s : Shared) (H : Hp) (C : Addr) (cl : List (Str × Addr)) (fp : List Addr), PE (X.blk s H scope (compEnvC scope cl C X.env) fp) elt (tE X.K cA W0 a)) (hm : ∀ i ∈ t.sl, i ∈ own.map (·.2) := by decide) (hs : ∀ x, foldedSetIterable iter X.env x = pure x := by intro _; rfl) :
    PS X (.Assign [.Name y py] (.ListComp elt [⟨tg, iter, ifs, 0⟩] scope pos) spos) (tS X.K cA W (sAsg (gNm i) (mLc (own.map (·.2)) t.g it c a lstF))) :=
  ps_le (ps_fzS (ps_setLc hc hN hy hyl hsw hi ok hg ht he hs)) fun D σ H h => by
    obtain ⟨f, e, S, r, er, q⟩ := h
    have z : tLc (tI X.K cA W it) (t.h X.K) (tT X.K cA W0 c) (tE X.K cA W0 a) (own.map (·.2)) σ H (fzQ fun v H' => D.nx (σ.set i (some v)) H') := by
      refine w_lc mkOk_F hm ⟨f, e, S, r, er, ?_⟩
      exact okS.val er q fun g2 H1 w S1 v X1 r1 q1 er1 h2 => h2 g2 H1 _ Ext.refl r1 (er1.set i q1)
    exact tLc_mono z fun v H1 ⟨a, xs, e1, hA, k⟩ => ⟨a, xs, hA, k⟩
/-! ### targets of a comprehension -/
theorem c_nm {i : Nat} {x : Str} {pos : Pos} (hN : X.N.Nodup) (hi : X.N[i]? = some x) (hx : Loc X.env.scope x) (hf : X.fn x = true ∨ X.env.scope.names.lookup x = some .local := by first | exact .inl rfl | exact .inr rfl | assumption) : PG X (.Name x pos) ((CT.nm i).h X.K) := pg_name hN hi hx hf
theorem cs_nil : PGs X [] (ctHs []) := pgs_nil
theorem cs_cons {i : Nat} {is : List Nat} {x : Str} {pos : Pos} {es : List Expr} (hN : X.N.Nodup) (hi : X.N[i]? = some x) (hx : Loc X.env.scope x) (h2 : PGs X es (ctHs is)) (hf : X.fn x = true ∨ X.env.scope.names.lookup x = some .local := by first | exact .inl rfl | exact .inr rfl | assumption)
    (hs : (assignEach (.Name x pos :: es) X.env).map (·.2) = assign (.Name x pos) X.env :: (assignEach es X.env).map (·.2) := by rfl) : PGs X (.Name x pos :: es) (ctHs (i :: is)) := pgs_cons (pg_name hN hi hx hf) h2 hs
theorem c_tp {es : List Expr} {k : Nat} {is : List Nat} {pos : Pos} (hc : X.calm = true) (h : PGs X es (ctHs is)) (hl : (assignEach es X.env).length = is.length := by rfl) (hst : (assignEach es X.env).findIdx? (·.1) = none := by rfl) :
    PG X (.Tuple es k pos) ((CT.tp is).h X.K) := pg_tup hc h hl hst
/-! ### o[i] = v of a list -/
theorem s_sub {o i a : Expr} {mo mi ma : M} {pos tpos : Pos} (he : PE X a (tE X.K cA W ma)) (ho : PE X o (tE X.K cA W mo)) (hi : PE X i (tE X.K cA W mi))
    (ha : ∀ v, assign (.Subscript o i tpos) X.env v = (do
      let ov ← holding [v] (eval o X.env)
      let iv ← holding [v, ov] (eval i X.env)
      standAt tpos
      holding [v, ov, iv] (setItem ov iv v)
      release [v, ov, iv] []) := by intro _; rfl) (hs : swapsWithSole [.Subscript o i tpos] a pos.line X.env = pure false := by rfl) (hw : swappedStores [.Subscript o i tpos] a X.env = pure none := by rfl)
    (h1 : (assignEach [.Subscript o i tpos] X.env).map (·.2) = [assign (.Subscript o i tpos) X.env] := by rfl) : PS X (.Assign [.Subscript o i tpos] a pos) (tS X.K cA W (sSub mo mi ma)) :=
  ps_le (ps_asg he (pg_sub ho hi set_list ha) hs hw h1) fun D σ H h => by
    obtain ⟨f, e, S, r, er, q⟩ := h
    refine ⟨f, e, S, r, er, okS.val er q fun g1 H1 w S1 v X1 r1 q1 er1 h1 => ?_⟩
    refine ⟨g1, e, S1, r1, er1, okS.val er1 h1 fun g2 H2 w2 S2 v2 X2 r2 q2 er2 h2 => ?_⟩
    refine ⟨g2, e, S2, r2, er2, okS.val er2 h2 fun g3 H3 w3 S3 v3 X3 r3 q3 er3 h3 => ?_⟩
    unfold setV at h3
    split at h3
    · rename_i k j
      cases e1 : entL S3 k with
      | none => simp only [e1] at h3; exact False.elim h3
      | some xs =>
        simp only [e1] at h3
        cases e2 : setIx xs j w with
        | none => simp only [e2] at h3; exact False.elim h3
        | some ys =>
          simp only [e2] at h3
          obtain ⟨p, zs, rfl, hp, hP, dx⟩ := entL_rep r3 (X3.repW q2) e1
          unfold setIx at e2
          cases e3 : ixN xs.length j with
          | none => rw [e3] at e2; cases e2
          | some n =>
            rw [e3] at e2
            cases e2
            have hl := repWs_len dx
            refine ⟨p, zs, j, n, rfl, repD_int.mp (repW_p.mp q3), hP, by rw [hl]; exact e3, ?_⟩
            have X4 : Ext g3 H3 g3 (upd H3 p (.lst (zs.set n v))) := Ext.set hp hP (fun z => z)
            exact h3 g3 _ σ X4 (r3.set hp hP (fun z => z) ⟨_, upd_same, X4.repWs (repWs_set n dx (X3.repW (X2.repW q1)))⟩) (X4.envR er3)
    · exact False.elim h3
/-! ### x op= e of ints -/
theorem s_aug {i : Nat} {x : Str} {a : Expr} {m : M} {k : Int → Int → Int} {op : Operator} {pos pos' : Pos} (hN : X.N.Nodup) (hi : X.N[i]? = some x) (hx : Loc X.env.scope x) (he : PE X a (tE X.K cA W m)) (ho : PIp X op (ipI k))
    (hf : X.fn x = true ∨ X.env.scope.names.lookup x = some .local := by first | exact .inl rfl | exact .inr rfl | assumption) : PS X (.AugAssign (.Name x pos') op a pos) (tS X.K cA W (sAug i (augI k) m)) := ps_le (ps_aug hN hi hx he ho hf) fun D σ H h => by
  obtain ⟨f, e, S, r, er, q⟩ := h
  unfold sAug at q
  split at q
  · rename_i u hu
    obtain ⟨x0, hx0, rx⟩ := er.2 i u hu
    refine ⟨x0, hx0, f, e, S, r, er, okS.val er q fun g1 H1 w S1 v X1 r1 q1 er1 h1 => ?_⟩
    unfold augI at h1
    split at h1
    · rename_i i1 j1
      exact ⟨i1, j1, repD_int.mp (repW_p.mp rx), repD_int.mp (repW_p.mp q1), h1 g1 H1 _ Ext.refl r1 (er1.set i (repW_p.mpr (repD_int.mpr rfl)))⟩
    · exact False.elim h1
  · exact False.elim q
/-! ### methods of lists and texts -/
def rM (K : PySem.W.Frag) (cA : Nat → Addr) (op : Vl → List Vl → Sto → R Vl) : V → List V → Hp → VK → Prop := fun x xs H Q => ∃ f S u ws, Rel K cA f H S ∧ RepW K cA f H u x ∧ RepWs K cA f H ws xs ∧ okO K cA f H (op u ws S) Q
structure MtB (X : Cx) (cA : Nat → Addr) (id : String) (op : Vl → List Vl → Sto → R Vl) : Prop where
  run : MtR X id (rM X.K cA op)
  nx : ∀ u ws S, NoX (op u ws S)
theorem e_mL {id : String} {name : Str} {o a : Expr} {es : List Expr} {mo : M} {ms : List M} {op : Vl → List Vl → Sto → R Vl} {apos cpos : Pos} (pa : PlainAttrs "list") (slot : Slot "list" name id) (hty : typeOf (.builtin id) = pure (.type "method_descriptor")) (hm : MtB X cA id op)
    (ho : PE X o (tE X.K cA W mo)) (ha : PA X (a :: es) (tA X.K cA W ms)) (hbase : attributeBase o name X.env (eval o X.env) = eval o X.env := by rfl)
    (hfew : ((backTo cpos (starEach (a :: es) X.env)).all (fun x => !x.1) && (backToKw cpos (keywordEach [] X.env)).all (fun x => x.1.isSome)
      && decide ((a :: es).length + ([] : List Keyword).length + (if ([] : List Keyword).isEmpty then 0 else 1) < 30)) = true := by rfl)
    (hline : (apos.endLine == cpos.line) = true := by rfl) (hs : starEach (a :: es) X.env = (false, eval a X.env) :: starEach es X.env := by rfl) (hplain : (backTo cpos (starEach es X.env)).any (·.1) = false := by rfl) :
    PE X (.Call (.Attribute o name apos) (a :: es) [] cpos) (tE X.K cA W (mML op mo ms)) := pe_le (pe_bm pa slot hty hm.run ho ha hbase hfew hline hs hplain) fun σ H Q h => by
  obtain ⟨f, e, S, r, er, q⟩ := h
  refine ⟨f, e, S, r, er, okE.bind q fun g H1 w S1 v X1 r1 q1 h1 => ?_⟩
  cases e1 : asL S1 w with
  | none => simp only [e1] at h1; exact False.elim h1
  | some vs =>
    simp only [e1] at h1
    obtain ⟨p, xs, rfl, l, _⟩ := asL_rep r1 q1 e1
    refine ⟨.inl ⟨rfl, xs, l⟩, g, e, S1, r1, X1.envR er, okA.bind h1 fun g2 H2 ws S2 us X2 r2 q2 h2 => ?_⟩
    exact ⟨g2, S2, w, ws, r2, X2.repW q1, q2, okO.of h2 (hm.nx _ _ _)⟩
theorem e_mL0 {id : String} {name : Str} {o : Expr} {mo : M} {op : Vl → List Vl → Sto → R Vl} {apos cpos : Pos} (pa : PlainAttrs "list") (slot : Slot "list" name id) (hty : typeOf (.builtin id) = pure (.type "method_descriptor")) (hm : MtB X cA id op)
    (ho : PE X o (tE X.K cA W mo)) (hbase : attributeBase o name X.env (eval o X.env) = eval o X.env := by rfl) (hline : (apos.endLine == cpos.line) = true := by rfl) : PE X (.Call (.Attribute o name apos) [] [] cpos) (tE X.K cA W (mML op mo [])) := pe_le (pe_bm0 pa slot hty hm.run ho hbase hline) fun σ H Q h => by
  obtain ⟨f, e, S, r, er, q⟩ := h
  refine ⟨f, e, S, r, er, okE.bind q fun g H1 w S1 v X1 r1 q1 h1 => ?_⟩
  cases e1 : asL S1 w with
  | none => simp only [e1] at h1; exact False.elim h1
  | some vs =>
    simp only [e1] at h1
    obtain ⟨p, xs, rfl, l, _⟩ := asL_rep r1 q1 e1
    exact ⟨.inl ⟨rfl, xs, l⟩, g, S1, w, [], r1, q1, repWs_nil.mpr rfl, okO.of h1 (hm.nx _ _ _)⟩
theorem e_mS {id : String} {name : Str} {o a : Expr} {es : List Expr} {mo : M} {ms : List M} {op : Vl → List Vl → Sto → R Vl} {apos cpos : Pos} (pa : PlainAttrs "str") (slot : Slot "str" name id) (hty : typeOf (.builtin id) = pure (.type "method_descriptor")) (hm : MtB X cA id op)
    (ho : PE X o (tE X.K cA W mo)) (ha : PA X (a :: es) (tA X.K cA W ms)) (hbase : attributeBase o name X.env (eval o X.env) = eval o X.env := by rfl)
    (hfew : ((backTo cpos (starEach (a :: es) X.env)).all (fun x => !x.1) && (backToKw cpos (keywordEach [] X.env)).all (fun x => x.1.isSome)
      && decide ((a :: es).length + ([] : List Keyword).length + (if ([] : List Keyword).isEmpty then 0 else 1) < 30)) = true := by rfl)
    (hline : (apos.endLine == cpos.line) = true := by rfl) (hs : starEach (a :: es) X.env = (false, eval a X.env) :: starEach es X.env := by rfl) (hplain : (backTo cpos (starEach es X.env)).any (·.1) = false := by rfl) :
    PE X (.Call (.Attribute o name apos) (a :: es) [] cpos) (tE X.K cA W (mMS op mo ms)) := pe_le (pe_bm pa slot hty hm.run ho ha hbase hfew hline hs hplain) fun σ H Q h => by
  obtain ⟨f, e, S, r, er, q⟩ := h
  refine ⟨f, e, S, r, er, okE.bind q fun g H1 w S1 v X1 r1 q1 h1 => ?_⟩
  cases w with
  | p d =>
    cases d with
    | str z =>
      obtain rfl : v = .str z := repD_str.mp (repW_p.mp q1)
      refine ⟨rfl, g, e, S1, r1, X1.envR er, okA.bind h1 fun g2 H2 ws S2 us X2 r2 q2 h2 => ?_⟩
      exact ⟨g2, S2, _, ws, r2, X2.repW q1, q2, okO.of h2 (hm.nx _ _ _)⟩
    | _ => exact False.elim h1
  | _ => exact False.elim h1
theorem mt_app : MtB X cA "list.append" oApp := ⟨fun pins s σ H x xs v us Q I rx rs h => by
  obtain ⟨f, S, u, ws, r, ru, rw', q⟩ := h
  unfold oApp at q
  split at q
  · rename_i w
    obtain ⟨y, t, rfl, h2, h3⟩ := repWs_cons.mp rw'
    obtain rfl := repWs_nil.mp h3
    unfold appV at q
    split at q
    · rename_i i
      cases e1 : entL S i with
      | none => simp only [e1] at q; exact False.elim q
      | some vs =>
        simp only [e1] at q
        split at q
        · rename_i hl
          obtain ⟨a, zs, rfl, ha, hA, dx⟩ := entL_rep r ru e1
          refine mt_append pins s σ H _ _ v us Q I rx rs ⟨a, zs, y, rfl, rfl, hA, by rw [repWs_len dx]; exact hl, ?_⟩
          exact okO.setL r ha hA (repWs_append dx (repWs_cons.mpr ⟨y, [], rfl, h2, repWs_nil.mpr rfl⟩)) (repW_p.mpr (repD_none.mpr rfl)) q
        · exact False.elim q
    · exact False.elim q
  · exact False.elim q, fun u ws S => by
  unfold oApp
  split
  · unfold appV
    split
    · split
      · exact nox_if nox_ok nox_bad
      · exact nox_bad
    · exact nox_bad
  · exact nox_bad⟩
end
end PV

/-! Calls of defs, raising, the end of a def. -/
namespace PV
open PySem L2 PySem.Spec PyProof.Rows
section
variable {K : PySem.W.Frag} {cA : Nat → Addr}
def okF (K : PySem.W.Frag) (cA : Nat → Addr) (f : Nat → Option Addr) (H : Hp) (r : R Vl) (Q : VK) (E : XK) : Prop := match r with
  | .ok w S' => ∀ g H' v, Ext f H g H' → Rel K cA g H' S' → RepW K cA g H' w v → Q v H'
  | .exc c n S' => ∀ g H' d, Ext f H g H' → Rel K cA g H' S' → ExD H' n d → E (.ref (cA c)) d H'
  | .bad => False
/-- what a def promises: what F tells of plain data -/
def spF (K : PySem.W.Frag) (cA : Nat → Addr) (np : Nat) (F : Fn) : Sp := fun vs H Q E => vs.length = np ∧ ∃ f S ws, Rel K cA f H S ∧ RepWs K cA f H ws vs ∧ okF K cA f H (F ws S) Q E
theorem mArgs_len : ∀ {ms : List M} {e : Env} {S S1 : Sto} {ws : List Vl}, mArgs ms e S = .ok ws S1 → ws.length = ms.length
  | [], e, S, S1, ws, h => by
    cases h
    rfl
  | m :: ms, e, S, S1, ws, h => by
    unfold mArgs at h
    cases hm : m e S with
    | ok v S2 =>
      rw [hm, R.bind_ok] at h
      cases hs : mArgs ms e S2 with
      | ok vs S3 =>
        rw [hs, R.bind_ok] at h
        cases h
        rw [List.length_cons, List.length_cons, mArgs_len hs]
      | exc c n S3 => rw [hs] at h; cases h
      | bad => rw [hs] at h; cases h
    | exc c n S2 => rw [hm] at h; cases h
    | bad => rw [hm] at h; cases h
end
section
variable {X : Cx} {cA : Nat → Addr} {W : WX}
/-- the arguments' number is carried -/
theorem tA_len {K : PySem.W.Frag} {ms : List M} {σ : L2.St} {H : Hp} {f : Nat → Option Addr} {e : Env} {S : Sto} {Q : List V → Hp → Prop} (h : okA K cA W f σ H (mArgs ms e S) fun vs H' => vs.length = ms.length → Q vs H') : okA K cA W f σ H (mArgs ms e S) Q := by
  cases hm : mArgs ms e S with
  | ok ws S1 =>
    rw [hm] at h
    exact fun g H' vs a b c => h g H' vs a b c (by rw [repWs_len c, mArgs_len hm])
  | exc c n S1 =>
    rw [hm] at h
    exact h
  | bad =>
    rw [hm] at h
    exact h
/-- f(e, ..), the def at a; dds: the defaults that fill up -/
theorem e_callD {x : Str} {p pos : Pos} {b : Expr} {es : List Expr} {a : Addr} {fd : FuncData} {ps : List Str} {k np : Nat} {F : Fn} {ms : List M} {dds : List D} {dvs : List V} {ds : List Value} (Fo : FnOk X.prog X.w X.K X.mg X.base (L2.CX X.prog X.w) k a fd ps (spF X.K cA np F)) (hr : Room k X.A) (hg : Gl X x) (hm : X.mg x = some (.ref a))
    (hk : PySem.W.keepIn X.K (.ref a) = true) (hb : Binds X.K fd ps ds) (hd : Vals dvs ds) (hdd : ∀ H, RepDs X.K H dds dvs) (tk : Takes X W) (ha : PA X (b :: es) (tA X.K cA W ms)) (hl : ms.length + dds.length = np) (hdb : (x == ("__debug__" : Str)) = false := by decide)
    (he : starEach (b :: es) X.env = (false, eval b X.env) :: starEach es X.env := by rfl) (hpl : (backTo pos (starEach es X.env)).any (·.1) = false := by rfl) : PE X (.Call (.Name x p) (b :: es) [] pos) (tE X.K cA W (mCall (fun vs => F (vs ++ dds.map Vl.p)) ms)) :=
  pe_le (pe_callSD Fo hr hg hm hk hb hd (fun σ => passAt tk σ) ha hdb he hpl) fun σ H Q h => by
    obtain ⟨f, e, S, r, er, q⟩ := h
    refine ⟨f, e, S, r, er, tA_len (okA.bind q fun g H1 ws S1 vs X1 r1 q1 h1 hlen => ?_)⟩
    refine ⟨?_, g, S1, ws ++ dds.map Vl.p, r1, repWs_append q1 (repWs_map.mpr (hdd H1)), ?_⟩
    · rw [List.length_append, hlen, repDs_len (hdd H1)]
      exact hl
    · cases hf : F (ws ++ dds.map Vl.p) S1 with
      | ok w S2 =>
        rw [hf] at h1
        exact h1
      | exc c n S2 =>
        rw [hf] at h1
        exact h1
      | bad =>
        rw [hf] at h1
        exact h1
theorem e_call {x : Str} {p pos : Pos} {b : Expr} {es : List Expr} {a : Addr} {fd : FuncData} {ps : List Str} {k np : Nat} {F : Fn} {ms : List M} (Fo : FnOk X.prog X.w X.K X.mg X.base (L2.CX X.prog X.w) k a fd ps (spF X.K cA np F)) (hr : Room k X.A) (hg : Gl X x) (hm : X.mg x = some (.ref a))
    (hk : PySem.W.keepIn X.K (.ref a) = true) (hb : Binds X.K fd ps []) (tk : Takes X W) (ha : PA X (b :: es) (tA X.K cA W ms)) (hl : ms.length = np) (hdb : (x == ("__debug__" : Str)) = false := by decide)
    (he : starEach (b :: es) X.env = (false, eval b X.env) :: starEach es X.env := by rfl) (hpl : (backTo pos (starEach es X.env)).any (·.1) = false := by rfl) : PE X (.Call (.Name x p) (b :: es) [] pos) (tE X.K cA W (mCall F ms)) :=
  pe_le (e_callD (dds := []) (dvs := []) (cA := cA) (W := W) Fo hr hg hm hk hb .nil (fun H => repDs_nil.mpr rfl) tk ha hl hdb he hpl) fun σ H Q h => by
    have e : (fun vs : List Vl => F (vs ++ ([] : List D).map Vl.p)) = F := funext fun vs => by rw [List.map_nil, List.append_nil]
    rw [e]
    exact h
/-- f() -/
theorem e_call0 {x : Str} {p pos : Pos} {a : Addr} {fd : FuncData} {ps : List Str} {k : Nat} {F : Fn} (Fo : FnOk X.prog X.w X.K X.mg X.base (L2.CX X.prog X.w) k a fd ps (spF X.K cA 0 F)) (hr : Room k X.A) (hg : Gl X x) (hm : X.mg x = some (.ref a))
    (hk : PySem.W.keepIn X.K (.ref a) = true) (hb : Binds X.K fd ps []) (tk : Takes X W) (hdb : (x == ("__debug__" : Str)) = false := by decide) : PE X (.Call (.Name x p) [] [] pos) (tE X.K cA W (mCall F [])) := ⟨fun pins s σ H Q I h => by
  refine wpAny_Call_Name_kw (ld_glob I hg hm ?_ hdb)
  refine PySem.W.callWith_K0 I.kIn hk (run_fnSD (us := []) (vs := []) (dvs := []) (E := WE W) Fo hr hb .nil (passAt tk σ) I .nil ?_)
  obtain ⟨f, e, S, r, er, q⟩ := h
  have q' : okE X.K cA W f σ H (F [] S) Q := q
  refine ⟨rfl, f, S, [], r, repWs_nil.mpr rfl, ?_⟩
  cases hf : F [] S with
  | ok w S2 =>
    rw [hf] at q'
    exact q'
  | exc c n S2 =>
    rw [hf] at q'
    exact q'
  | bad =>
    rw [hf] at q'
    exact q'⟩
/-! ### raise -/
theorem s_raise {x m : Str} {j : Nat} {p p2 pos pos2 : Pos} {c : Nat} (hc : X.calm = true) (tk : Takes X W) (q : PySem.W.excIn X.K (cA c) He.veBase "ValueError.__new__" = true) (gC : X.mg x = some (.ref (cA c))) (kC : PySem.W.keepIn X.K (.ref (cA c)) = true)
    (h1 : PySem.W.subIn X.K (.ref (cA c)) (.type "BaseException") = some true) (h2 : PySem.W.typeIn X.K (.ref (cA c)) = some (.type "type")) (hg : Gl X x) (hdb : (x == ("__debug__" : Str)) = false := by decide) :
    PS X (.Raise (some (.Call (.Name x p) [.Constant (.str m) j p2] [] pos)) none pos2) (tS X.K cA W (sRaise c)) :=
  ps_le (ps_raise hc tk (pmk_own PySem.F.excBase_ValueError q gC kC (raises_own h1 h2) hg hdb)) fun D σ H h => by
    obtain ⟨f, e, S, r, er, q⟩ := h
    exact q f H σ none Ext.refl r er rfl
end
/-! ### a def -/
section
variable {P : Program} {w : World} {K : PySem.W.Frag} {mg : Str → Option Value} {base : Heap} {cA : Nat → Addr} {x qual : Str} {params : Arguments} {body : List Stmt} {scope : Scope} {dvs : List V} {kws : List (Str × V)} {a : Addr} {fd : FuncData} {N ps : List Str} {k np ns : Nat} {b : MS}
theorem start_env {f : Nat → Option Addr} {H : Hp} {ws : List Vl} {vs : List V} (h : RepWs K cA f H ws vs) (hn : N.length = ns) : EnvR K cA f H (initE ns ws) (L2.start N vs) := by
  have hl := repWs_len h
  unfold initE L2.start
  rw [hn, hl]
  refine ⟨by simp [hl], fun i v q => ?_⟩
  by_cases hi : i < ws.length
  · rw [List.getElem?_append_left (by rw [List.length_map]; exact hi), List.getElem?_map] at q
    rw [List.getElem?_append_left (by rw [List.length_map, hl]; exact hi), List.getElem?_map]
    cases e : ws[i]? with
    | none => rw [e] at q; cases q
    | some u =>
      rw [e] at q
      cases q
      obtain ⟨y, h1, h2⟩ := repWs_get h e
      exact ⟨y, by rw [h1] <;> rfl, h2⟩
  · rw [List.getElem?_append_right (by rw [List.length_map]; exact Nat.le_of_not_lt hi), List.length_map, List.getElem?_replicate] at q
    split at q
    · cases q
    · cases q
theorem fn_ok (F : FunD K x qual params body scope dvs kws a fd) (S : FnScope N ps scope) (hn : N.length = ns) (hp : ps.length = np)
    (hbody : ∀ (cdv : Value) (A : Around) (outer : List PySem.Env) (s : Shared) (H : Hp) (E : XK), Room k (A.deeper (envOfC qual scope s.heap.objs.size a cdv)) →
      PSs (cxOf (L2.CX P w) P w K mg base N qual scope a cdv A outer s H E) body (tS K cA (fun cls d _ H => E cls d H) b)) : FnOk P w K mg base (L2.CX P w) (k + 1) a fd ps (spF K cA np (fnOf np ns b)) := by
  refine F.ok S (fun vs H Q E h => h.1.trans hp.symm) fun cdv A outer s H vs Q E hr hsp => ⟨_, hbody cdv A outer s H E hr, ?_⟩
  obtain ⟨hl, f, S0, ws, r, rw', q⟩ := hsp
  refine ⟨f, initE ns ws, S0, r, start_env rw' hn, ?_⟩
  have hw : ws.length = np := by rw [← repWs_len rw']; exact hl
  unfold fnOf at q
  rw [if_pos hw] at q
  have lv : ∀ (v : Vl) (S1 : Sto), okF K cA f H (leave S0 v S1) Q E → ∀ g H' y, Ext f H g H' → Rel K cA g H' S1 → RepW K cA g H' v y → Q y H' := fun v S1 h g H' y X1 r1 q1 => by
    unfold leave at h
    split at h
    · rename_i hc
      obtain ⟨X2, r2⟩ := r.cut X1 r1 hc.2
      exact h _ _ _ X2 r2 (repW_cut q1 hc.1)
    · exact False.elim h
  cases hb : b (initE ns ws) S0 with
  | nx e S1 =>
    rw [hb] at q
    exact fun g H' σ' X1 r1 er1 => lv _ _ q g H' .non X1 r1 (repW_p.mpr (repD_none.mpr rfl))
  | rt v S1 =>
    rw [hb] at q
    exact fun g H' y X1 r1 q1 => lv _ _ q g H' y X1 r1 q1
  | bk e S1 => rw [hb] at q; exact False.elim q
  | ct e S1 => rw [hb] at q; exact False.elim q
  | ex c n e S1 =>
    rw [hb] at q
    have q' : okF K cA f H (leaveX S0 c n S1) Q E := q
    intro g H' σ' d X1 r1 er1 hd
    unfold leaveX at q'
    split at q'
    · rename_i hc
      obtain ⟨X2, r2⟩ := r.cut X1 r1 hc
      exact q' _ _ _ X2 r2 hd
    · exact False.elim q'
  | bad => rw [hb] at q; exact False.elim q
theorem fn_okK (F : FunD K x qual params body scope dvs kws a fd) (S : FnScope N ps scope) (hn : N.length = ns) (hp : ps.length = np)
    (hbody : ∀ (cdv : Value) (A : Around) (outer : List PySem.Env) (s : Shared) (H : Hp) (E : XK), Room k (A.deeper (envOfC qual scope s.heap.objs.size a cdv)) →
      PSs (cxOf (L2.CX P w) P w K mg base N qual scope a cdv A outer s H E) body (tS K cA (fun cls d _ H => E cls d H) b)) : FnOk P w K mg base (L2.CX P w) (k + 1) a fd ps (spF K cA np (fnOfK np ns b)) := by
  refine F.ok S (fun vs H Q E h => h.1.trans hp.symm) fun cdv A outer s H vs Q E hr hsp => ⟨_, hbody cdv A outer s H E hr, ?_⟩
  obtain ⟨hl, f, S0, ws, r, rw', q⟩ := hsp
  refine ⟨f, initE ns ws, S0, r, start_env rw' hn, ?_⟩
  have hw : ws.length = np := by rw [← repWs_len rw']; exact hl
  unfold fnOfK at q
  rw [if_pos hw] at q
  cases hb : b (initE ns ws) S0 with
  | nx e S1 =>
    rw [hb] at q
    exact fun g H' σ' X1 r1 er1 => q g H' .non X1 r1 (repW_p.mpr (repD_none.mpr rfl))
  | rt v S1 =>
    rw [hb] at q
    exact q
  | bk e S1 => rw [hb] at q; exact False.elim q
  | ct e S1 => rw [hb] at q; exact False.elim q
  | ex c n e S1 =>
    rw [hb] at q
    exact fun g H' σ' d X1 r1 er1 hd => q g H' d X1 r1 hd
  | bad => rw [hb] at q; exact False.elim q
/-! ### the law -/
theorem fzL_of_only {H : Hp} {a : Addr} {xs : List V} (ho : Only H) (h : SqL K H a xs) : FzL K H a xs := by
  rcases h with (h | h) | h
  · rcases ho a with z | ⟨o, ys, z⟩
    · rw [z] at h
      cases h
    · rw [z] at h
      cases h
  · exact .inl h
  · exact .inr h
theorem law_end {F : Fn} {H : Hp} {a : Addr} {ns : List Int} (ho : Only H) (h : SqL K H a (ns.map V.int)) (hF : F [.p (.list (ns.map PyData.int))] [] = .ok (.p (.bool true)) []) : spF K cA 1 F [.ref a] H (fun v _ => v = .bl true) fun _ _ _ => False := by
  have r0 : Rel K cA (fun _ => none) H [] := ⟨fun i a e => (by cases e), fun i e h => (by cases h), fun i j a e _ => (by cases e), fun i a e => (by cases e)⟩
  refine ⟨rfl, fun _ => none, [], [.p (.list (ns.map PyData.int))], r0, repWs_cons.mpr ⟨.ref a, [], rfl, repW_p.mpr (repD_list.mpr ⟨a, _, rfl, fzL_of_only ho h, repDs_ofInts ns⟩), repWs_nil.mpr rfl⟩, ?_⟩
  rw [hF]
  exact fun g H' v X1 r1 q1 => repD_bool.mp (repW_p.mp q1)
theorem cx_end {P : Program} {w : World} (H : Hp) (s : Shared) (e : Value) (s' : Shared) (h : L2.CX P w [] H s (fun _ _ _ => False) e s') : False := by
  obtain ⟨_, _, _, _, _, _, _, _, _, _, _, _, z⟩ := h
  exact z
end
end PV

/-! Short forms for the printed terms. -/
namespace PV
open PySem L2 PySem.Spec PyProof.Rows
section
variable {X : Cx} {cA : Nat → Addr} {W : WX}
theorem ev (i : Nat) {x : Str} {pos : Pos} (hN : X.N[i]? = some x := by rfl) (hv : Vis X.env.scope x := by first | exact Or.inl rfl | exact Or.inr (Or.inl rfl) | exact Or.inr (Or.inr rfl)) (hd : (x == ("__debug__" : Str)) = false := by decide)
    (hcd : (x == ("__classdict__" : Str)) = false := by decide) : PE X (.Name x pos) (tE X.K cA W (mVar i)) := e_var hN hv hd hcd
/-- a def as its callers know it: its module name, its level -/
structure DefOk (P : Program) (w : World) (K : PySem.W.Frag) (mg : Str → Option Value) (base : Heap) (cA : Nat → Addr) (x : Str) (k np : Nat) (F : Fn) : Prop where
  ex : ∃ (a : Addr) (fd : FuncData) (ps : List Str), FnOk P w K mg base (L2.CX P w) k a fd ps (spF K cA np F) ∧ mg x = some (.ref a) ∧ PySem.W.keepIn K (.ref a) = true ∧ Binds K fd ps []
theorem e_cd {x : Str} {p pos : Pos} {b : Expr} {es : List Expr} {j k np : Nat} {F : Fn} {ms : List M} (d : DefOk X.prog X.w X.K X.mg X.base cA x j np F) (hr : Room k X.A) (tk : Takes X W) (ha : PA X (b :: es) (tA X.K cA W ms)) (hle : j ≤ k := by decide) (hl : ms.length = np := by rfl) (hg : Gl X x := by rfl)
    (hdb : (x == ("__debug__" : Str)) = false := by decide) (he : starEach (b :: es) X.env = (false, eval b X.env) :: starEach es X.env := by rfl) (hpl : (backTo pos (starEach es X.env)).any (·.1) = false := by rfl) : PE X (.Call (.Name x p) (b :: es) [] pos) (tE X.K cA W (mCall F ms)) := by
  obtain ⟨a, fd, ps, h1, h2, h3, h4⟩ := d.ex
  exact e_call h1 (hr.mono hle) hg h2 h3 h4 tk ha hl hdb he hpl
theorem e_cd0 {x : Str} {p pos : Pos} {j k : Nat} {F : Fn} (d : DefOk X.prog X.w X.K X.mg X.base cA x j 0 F) (hr : Room k X.A) (tk : Takes X W) (hle : j ≤ k := by decide) (hg : Gl X x := by rfl) (hdb : (x == ("__debug__" : Str)) = false := by decide) : PE X (.Call (.Name x p) [] [] pos) (tE X.K cA W (mCall F [])) := by
  obtain ⟨a, fd, ps, h1, h2, h3, h4⟩ := d.ex
  exact e_call0 h1 (hr.mono hle) hg h2 h3 h4 tk hdb
end
theorem bt_len : bootBuiltins "len" = some (.builtin "len") := by decide +kernel
theorem bt_abs : bootBuiltins "abs" = some (.builtin "abs") := by decide +kernel
theorem bt_min : bootBuiltins "min" = some (.builtin "min") := by decide +kernel
theorem bt_max : bootBuiltins "max" = some (.builtin "max") := by decide +kernel
theorem bt_sum : bootBuiltins "sum" = some (.builtin "sum") := by decide +kernel
theorem bt_all : bootBuiltins "all" = some (.builtin "all") := by decide +kernel
theorem bt_any : bootBuiltins "any" = some (.builtin "any") := by decide +kernel
theorem bt_int : bootBuiltins "int" = some (.type "int") := by decide +kernel
theorem bt_bool : bootBuiltins "bool" = some (.type "bool") := by decide +kernel
theorem bt_str : bootBuiltins "str" = some (.type "str") := by decide +kernel
theorem bt_list : bootBuiltins "list" = some (.type "list") := by decide +kernel
theorem bt_tuple : bootBuiltins "tuple" = some (.type "tuple") := by decide +kernel
theorem bt_dict : bootBuiltins "dict" = some (.type "dict") := by decide +kernel
/-! ### constants that are tuples or lists -/
def clsN : Nat → Str
  | 0 => "SpanError" | 1 => "NoDate" | 2 => "NoAmount" | 3 => "NoParts" | 4 => "NoSpan" | 5 => "TooLong" | 6 => "NoAccount" | 7 => "NoEntry" | 8 => "NoText" | 9 => "NoRow" | 20 => "Days" | 21 => "Months" | 22 => "Cycle" | 23 => "Ledger" | 24 => "Pots" | 25 => "Desk" | 100 => "day_of" | 101 => "date_of" | 102 => "begin_of" | 103 => "span_on" | _ => ""
def cAof (K : PySem.W.Frag) (c : Nat) : Addr := He.ga K (clsN c)
def shB (K : PySem.W.Frag) : Nat → D → Value → Bool
  | 0, _, _ => false
  | n + 1, d, u => match d, u with
    | .none, .none => true
    | .bool b, .bool c => b == c
    | .int i, .int j _ => decide (i = j)
    | .str x, .str y _ => decide (x = y)
    | .tuple ds, .ref a => (match K.lookup a with
      | some ⟨.type c, _, .seq its _, _⟩ => decide (c = "tuple") && (decide (its.size ≤ sizeLine) && (decide (ds.length = its.toList.length) && (ds.zip its.toList).all fun q => shB K n q.1 q.2))
      | _ => false)
    | .list ds, .ref a => (match K.lookup a with
      | some ⟨.type c, none, .seq its _, _⟩ => decide (c = "list") && (decide (its.size ≤ sizeLine) && (decide (ds.length = its.toList.length) && (ds.zip its.toList).all fun q => shB K n q.1 q.2))
      | _ => false)
    | _, _ => false
theorem shAll_ok {K : PySem.W.Frag} {n : Nat} (ih : ∀ {d : D} {u : Value}, shB K n d u = true → ∃ v, RelV v u ∧ ∀ H, RepD K H d v) : ∀ {ds : List D} {us : List Value}, ds.length = us.length → ((ds.zip us).all fun q => shB K n q.1 q.2) = true → ∃ vs, Vals vs us ∧ ∀ H, RepDs K H ds vs
  | [], [], _, _ => ⟨[], .nil, fun H => repDs_nil.mpr rfl⟩
  | [], _ :: _, h, _ => by cases h
  | _ :: _, [], h, _ => by cases h
  | d :: ds, u :: us, h, k => by
    rw [List.zip_cons_cons, List.all_cons] at k
    obtain ⟨k1, k2⟩ := Bool.and_eq_true_iff.mp k
    obtain ⟨v, h1, h2⟩ := ih k1
    obtain ⟨vs, h3, h4⟩ := shAll_ok ih (Nat.succ.inj h) k2
    exact ⟨v :: vs, .cons h1 h3, fun H => repDs_cons.mpr ⟨v, vs, rfl, h2 H, h4 H⟩⟩
theorem shB_ok {K : PySem.W.Frag} : ∀ {n : Nat} {d : D} {u : Value}, shB K n d u = true → ∃ v, RelV v u ∧ ∀ H, RepD K H d v
  | 0, d, u, h => by
    unfold shB at h
    cases h
  | n + 1, d, u, h => by
    unfold shB at h
    split at h
    · exact ⟨.non, rfl, fun H => repD_none.mpr rfl⟩
    · rename_i b c
      exact ⟨.bl b, by rw [show b = c from eq_of_beq h] <;> rfl, fun H => repD_bool.mpr rfl⟩
    · rename_i i j t
      exact ⟨.int i, ⟨t, by rw [show i = j from of_decide_eq_true h]⟩, fun H => repD_int.mpr rfl⟩
    · rename_i x y t
      exact ⟨.str x, ⟨t, by rw [show x = y from of_decide_eq_true h]⟩, fun H => repD_str.mpr rfl⟩
    · rename_i ds a
      split at h
      · rename_i c od its m osl q
        obtain ⟨h1, h2⟩ := Bool.and_eq_true_iff.mp h
        obtain ⟨h3, h4⟩ := Bool.and_eq_true_iff.mp h2
        obtain ⟨h5, h6⟩ := Bool.and_eq_true_iff.mp h4
        obtain ⟨vs, k1, k2⟩ := shAll_ok (n := n) (fun z => shB_ok z) (of_decide_eq_true h5) h6
        exact ⟨.ref a, rfl, fun H => repD_tuple.mpr ⟨a, vs, rfl, .inr ⟨_, its, m, q, congrArg Value.type (of_decide_eq_true h1), rfl, of_decide_eq_true h3, k1⟩, k2 H⟩⟩
      · cases h
    · rename_i ds a
      split at h
      · rename_i c its m osl q
        obtain ⟨h1, h2⟩ := Bool.and_eq_true_iff.mp h
        obtain ⟨h3, h4⟩ := Bool.and_eq_true_iff.mp h2
        obtain ⟨h5, h6⟩ := Bool.and_eq_true_iff.mp h4
        obtain ⟨vs, k1, k2⟩ := shAll_ok (n := n) (fun z => shB_ok z) (of_decide_eq_true h5) h6
        exact ⟨.ref a, rfl, fun H => repD_list.mpr ⟨a, vs, rfl, .inr ⟨_, its, m, q, congrArg Value.type (of_decide_eq_true h1), rfl, rfl, of_decide_eq_true h3, k1⟩, k2 H⟩⟩
      · cases h
    · cases h
/-- a constant of the module; any other check; a dict of the module with text keys -/
inductive Tb where
  | v (x : Str) (d : D) | k (f : PySem.W.Frag → Bool) | d (x : Str) (kvs : List (Str × D))
def tabB (K : PySem.W.Frag) : Tb → Bool
  | .v x d => (match PySem.W.nsIn K mainGlobals x with
    | some (some u) => shB K 8 d u
    | _ => false)
  | .k f => f K
  | .d x kvs => kvs.all fun q => (match PySem.W.nsIn K (He.ga K x) q.1 with
    | some (some u) => shB K 8 q.2 u
    | _ => false)
def tabD (K : PySem.W.Frag) : Tb → List (Option (List (Option (Str × Int))))
  | .d x _ => [He.dicW K (He.ga K x)]
  | _ => []
def tabV (w : World) : Tb → List (Option (List (Option (Str × Int))))
  | .d _ kvs => [some (He.keysIn w.params (kvs.map (·.1)))]
  | _ => []
theorem tab_len (K : PySem.W.Frag) (w : World) (q : Tb) : (tabD K q).length = (tabV w q).length := by cases q <;> rfl
theorem tab_all {K : PySem.W.Frag} {w : World} : ∀ {tb : List Tb}, tb.flatMap (tabD K) = tb.flatMap (tabV w) → ∀ q ∈ tb, tabD K q = tabV w q
  | t :: tb, h, q, hq => by
    rw [List.flatMap_cons, List.flatMap_cons] at h
    obtain ⟨h1, h2⟩ := List.append_inj h (tab_len K w t)
    rcases List.mem_cons.mp hq with rfl | hq
    · exact h1
    · exact tab_all h2 q hq
/-! ### the hook -/
abbrev AlP : Type := He.AlD × List (Option (List (Option (Str × Int))))
def obsP (fa : List He.Fa) (fn : List He.DefD) (tb : List Tb) (K : PySem.W.Frag) : AlP := (((He.obsD fa fn K).1 && tb.all fun q => tabB K q, (He.obsD fa fn K).2), tb.flatMap (tabD K))
def valP (fn : List He.DefD) (tb : List Tb) (w : World) : AlP := (He.valD fn, tb.flatMap (tabV w))
def SaysP (fa : List He.Fa) (fn : List He.DefD) (tb : List Tb) (w : World) (K : PySem.W.Frag) : Prop := obsP fa fn tb K = valP fn tb w
def obsPG (n : Nat) (fa : List He.Fa) (fn : List He.DefD) (tb : List Tb) (g : Addr → Option Obj) : AlP := obsP fa fn tb (He.frG g (cStatics :: He.asD g n))
def hookP (n : Nat) (fa : List He.Fa) (fn : List He.DefD) (tb : List Tb) : PySem.W.Hook where
  α := AlP
  obs := fun s => obsPG n fa fn tb s.heap.get?
  val := fun w => valP fn tb w
  says := fun w h => ∃ K : PySem.W.Frag, K.In h ∧ SaysP fa fn tb w K
  of := fun _ _ e => ⟨_, He.frG_in, e⟩
  keeps := fun _ _ _ ⟨K, hK, c⟩ k => ⟨K, PySem.W.Frag.In.keeps hK k, c⟩
theorem obsPG_eq {n : Nat} {fa : List He.Fa} {fn : List He.DefD} {tb : List Tb} {g : Addr → Option Obj} {s : Shared} (h : ∀ a, g a = s.heap.get? a) : obsPG n fa fn tb g = (hookP n fa fn tb).obs s := by
  have e : g = s.heap.get? := funext h
  rw [e] <;> rfl
theorem SaysP.two {fa : List He.Fa} {fn : List He.DefD} {tb : List Tb} {w : World} {K : PySem.W.Frag} (c : SaysP fa fn tb w K) : He.SaysD fa fn K ∧ (tb.all fun q => tabB K q) = true ∧ tb.flatMap (tabD K) = tb.flatMap (tabV w) := by
  have c0 : ((He.obsD fa fn K).1 && tb.all fun q => tabB K q, (He.obsD fa fn K).2) = He.valD fn := congrArg (fun z : AlP => z.1) c
  have c3 : tb.flatMap (tabD K) = tb.flatMap (tabV w) := congrArg (fun z : AlP => z.2) c
  have c1 : ((He.obsD fa fn K).1 && tb.all fun q => tabB K q) = true := by
    have z := congrArg Prod.fst c0
    exact z
  have c2 : (He.obsD fa fn K).2 = (He.valD fn).2 := by
    have z := congrArg Prod.snd c0
    exact z
  obtain ⟨h1, h2⟩ := Bool.and_eq_true_iff.mp c1
  exact ⟨Prod.ext h1 c2, h2, c3⟩
/-! ### what the head's facts say -/
structure Tx (fa : List He.Fa) (fn : List He.DefD) (tb : List Tb) (K : PySem.W.Frag) (mg : Str → Option Value) (w : World) : Prop where
  c : He.SaysD fa fn K
  t : (tb.all fun q => tabB K q) = true
  d : tb.flatMap (tabD K) = tb.flatMap (tabV w)
  ex : ∃ h : Heap, K.In h ∧ h.Ns mainGlobals mg
/-- an exception class as the raise rule asks for it -/
structure ClsR (K : PySem.W.Frag) (mg : Str → Option Value) (x : Str) : Prop where
  q : PySem.W.excIn K (He.ga K x) He.veBase "ValueError.__new__" = true
  g : mg x = some (.ref (He.ga K x))
  k : PySem.W.keepIn K (.ref (He.ga K x)) = true
  h1 : PySem.W.subIn K (.ref (He.ga K x)) (.type "BaseException") = some true
  h2 : PySem.W.typeIn K (.ref (He.ga K x)) = some (.type "type")
section
variable {fa : List He.Fa} {fn : List He.DefD} {tb : List Tb} {K : PySem.W.Frag} {mg : Str → Option Value} {P : Program} {w : World} {base : Heap} {cA : Nat → Addr}
theorem Tx.free (T : Tx fa fn tb K mg w) (i : Nat) {x : Str} (h : fa[i]? = some (.free x) := by rfl) : mg x = none := by
  obtain ⟨hp, X, G⟩ := T.ex
  exact He.free_ok X G (T.c.fact i h)
theorem Tx.glo (T : Tx fa fn tb K mg w) (i : Nat) {x : Str} (h : fa[i]? = some (.glo x) := by rfl) : mg x = some (.ref (He.ga K x)) := by
  obtain ⟨hp, X, G⟩ := T.ex
  exact He.glo_ok X G (T.c.fact i h)
theorem Tx.int (T : Tx fa fn tb K mg w) (i : Nat) {x : Str} {j : Int} (h : fa[i]? = some (.int x j) := by rfl) : ∃ u v, mg x = some u ∧ RelV v u ∧ ∀ H, RepD K H (.int j) v := by
  obtain ⟨hp, X, G⟩ := T.ex
  obtain ⟨t, e⟩ := He.int_ok X G (T.c.fact i h)
  exact ⟨_, .int j, e, ⟨t, rfl⟩, fun H => repD_int.mpr rfl⟩
theorem Tx.str (T : Tx fa fn tb K mg w) (i : Nat) {x z : Str} (h : fa[i]? = some (.str x z) := by rfl) : ∃ u v, mg x = some u ∧ RelV v u ∧ ∀ H, RepD K H (.str z) v := by
  obtain ⟨hp, X, G⟩ := T.ex
  obtain ⟨t, e⟩ := He.str_ok X G (T.c.fact i h)
  exact ⟨_, .str z, e, ⟨t, rfl⟩, fun H => repD_str.mpr rfl⟩
theorem Tx.tab (T : Tx fa fn tb K mg w) (i : Nat) {x : Str} {d : D} (h : tb[i]? = some (.v x d) := by rfl) : ∃ u v, mg x = some u ∧ RelV v u ∧ ∀ H, RepD K H d v := by
  obtain ⟨hp, X, G⟩ := T.ex
  have z : (match PySem.W.nsIn K mainGlobals x with
    | some (some u) => shB K 8 d u
    | _ => false) = true := List.all_eq_true.mp T.t _ (List.mem_of_getElem? h)
  split at z
  · rename_i u e
    obtain ⟨v, h1, h2⟩ := shB_ok z
    exact ⟨u, v, PySem.W.mg_of X G e, h1, h2⟩
  · cases z
theorem Tx.chk (T : Tx fa fn tb K mg w) (i : Nat) {f : PySem.W.Frag → Bool} (h : tb[i]? = some (.k f) := by rfl) : f K = true := List.all_eq_true.mp T.t _ (List.mem_of_getElem? h)
theorem Tx.cls (T : Tx fa fn tb K mg w) (i j : Nat) {x : Str} (h : fa[i]? = some (.glo x) := by rfl) (h2 : fa[j]? = some (.exc x) := by rfl) : ClsR K mg x := by
  obtain ⟨a, b, c, d⟩ := He.exc_ok (T.c.fact j h2)
  exact ⟨a, T.glo i h, b, c, d⟩
/-- a def from the head's facts -/
theorem Tx.defOk (T : Tx fa fn tb K mg w) (i j : Nat) {x : Str} {d : He.DefD} {k np : Nat} {F : Fn} {ps : List Str} (h : fn[i]? = some d) (hj : fa[j]? = some (.glo x)) (hat : d.at_ = (x, none)) (h0 : d.dfl = []) (h1 : d.kwd = [])
    (hb : ∀ (kV doc pm : Value) (an : Option Addr) (cdv ct : Value) (us : List Value), us.length = ps.length → bindArgs (PySem.W.fnOf d.name d.qual d.params d.body d.scope .none kV doc pm an cdv ct) ⟨us, []⟩ = pure (ps.zip us))
    (ok : ∀ (a : Addr) (fd : FuncData), FunD K d.name d.qual d.params d.body d.scope [] [] a fd → FnOk P w K mg base (L2.CX P w) k a fd ps (spF K cA np F)) : DefOk P w K mg base cA x k np F := by
  obtain ⟨fd, Fd⟩ := T.c.def_ i h
  have e0 : d.dvs K = [] := by unfold He.DefD.dvs; rw [h0]; rfl
  have e1 : d.kws K = [] := by unfold He.DefD.kws; rw [h1]; rfl
  rw [e0, e1] at Fd
  have ea : He.fAd K d.at_ = He.ga K x := by rw [hat]; rfl
  rw [ea] at Fd
  exact ⟨_, fd, ps, ok _ _ Fd, T.glo j hj, Fd.kp, Fd.bindsN hb⟩
end
section
variable {X : Cx} {cA : Nat → Addr} {W : WX}
theorem e_gt {x : Str} {d : D} {pos : Pos} (h : ∃ u v, X.mg x = some u ∧ RelV v u ∧ ∀ H, RepD X.K H d v) (hg : Gl X x := by rfl) (hdb : (x == ("__debug__" : Str)) = false := by decide) : PE X (.Name x pos) (tE X.K cA W (mC d)) := by
  obtain ⟨u, v, h1, h2, h3⟩ := h
  exact e_glob hg h1 h2 h3 hdb
/-- raise C("..") -/
theorem s_rc {x m : Str} {j : Nat} {p p2 pos pos2 : Pos} {c : Nat} (h : ClsR X.K X.mg x) (tk : Takes X W) (hx : clsN c = x := by rfl) (hc : X.calm = true := by rfl) (hg : Gl X x := by rfl) (hdb : (x == ("__debug__" : Str)) = false := by decide) :
    PS X (.Raise (some (.Call (.Name x p) [.Constant (.str m) j p2] [] pos)) none pos2) (tS X.K (cAof X.K) W (sRaise c)) := by
  have e : cAof X.K c = He.ga X.K x := by unfold cAof; rw [hx]
  exact s_raise hc tk (by rw [e]; exact h.q) (by rw [e]; exact h.g) (by rw [e]; exact h.k) (by rw [e]; exact h.h1) (by rw [e]; exact h.h2) hg hdb
end
/-! ### the end -/
open PySem.W in
theorem walk_end {l : PySem.W.OpenLaw} {n k : Nat} {q : Program} {loose : List Str} {XP : (Str → Option Value) → Heap → Prop} {YP : World → Heap → Prop} {d : DefRec} {x : Str} {F : Fn}
    (hn : l.most = some n) (hn2 : n ≤ sizeLine) (hdf : d.params.defaults = []) (hr : Room k callerA)
    (G : ∀ (w : World) (mg : Str → Option Value) (fa : Addr) (h : Heap), YP w h → h.Ns mainGlobals mg → mg d.name = some (.ref fa) →
      ∃ (K : PySem.W.Frag) (fd : FuncData), K.In h ∧ (∀ (s : Shared) (u : Value), BindsTo s fd ⟨[u], []⟩ [(x, u)]) ∧
        ∀ base : Heap, K.In base → base.Ns mainGlobals mg → FnOk l.prog w K mg base (L2.CX l.prog w) k fa fd [x] (spF K (cAof K) 1 F))
    (hF : ∀ ns : List Int, ns.length ≤ n → (∀ z ∈ ns, Builtin.Int.intBits z ≤ 1048576) → F [.p (.list (ns.map PyData.int))] [] = .ok (.p (.bool true)) []) :
    PySem.W.WalkO q loose XP YP l.row.toRowW d [] (fun f vs => PySem.call f vs) := by
  refine Att.attach_callB hn hdf fun w s₀ s₁ mg mb fa o pm cd doc a vs ns Gr Y ho hd hcd hmg hobj hints hlen hbits hg => ?_
  obtain ⟨K, fd, KX, hb, hG⟩ := G w mg fa _ Y Gr.T.g hmg
  exact L2.law_call KX Gr.T.g Gr.T.b Gr.T.builtins Gr.T.nolimit hg hobj hints (Nat.le_trans hlen hn2) hr hG hb (fun H hO hS => law_end hO hS (hF ns hlen hbits)) fun H e s' => cx_end H s₁ e s'
theorem Tx.end_ {fa : List He.Fa} {fn : List He.DefD} {tb : List Tb} {K : PySem.W.Frag} {mg : Str → Option Value} {h : Heap} {P : Program} {w : World} {f : Addr} {F : Fn} {k j : Nat} {x : Str} (d : He.DefD) (c : SaysP fa fn tb w K) (KX : K.In h) (G : h.Ns mainGlobals mg) (hmg : mg ("law" : Str) = some (.ref f))
    (i : Nat) (hi : fn[i]? = some d) (hj : fa[j]? = some (.glo "law")) (hat : d.at_ = (("law" : Str), none)) (h0 : d.dfl = []) (h1 : d.kwd = [])
    (hb : ∀ (kV doc pm : Value) (an : Option Addr) (cdv ct : Value) (us : List Value), us.length = [x].length → bindArgs (PySem.W.fnOf d.name d.qual d.params d.body d.scope .none kV doc pm an cdv ct) ⟨us, []⟩ = pure ([x].zip us))
    (D0 : ∀ (base : Heap), Tx fa fn tb K mg w → ∀ (a : Addr) (fd : FuncData), FunD K d.name d.qual d.params d.body d.scope [] [] a fd → FnOk P w K mg base (L2.CX P w) k a fd [x] (spF K (cAof K) 1 F)) :
    ∃ (K : PySem.W.Frag) (fd : FuncData), K.In h ∧ (∀ (s : Shared) (u : Value), BindsTo s fd ⟨[u], []⟩ [(x, u)]) ∧
        ∀ base : Heap, K.In base → base.Ns mainGlobals mg → FnOk P w K mg base (L2.CX P w) k f fd [x] (spF K (cAof K) 1 F) := by
  obtain ⟨c1, c2, c3⟩ := c.two
  have T : Tx fa fn tb K mg w := ⟨c1, c2, c3, h, KX, G⟩
  obtain ⟨fd, Fd⟩ := T.c.def_ i hi
  have e0 : d.dvs K = [] := by unfold He.DefD.dvs; rw [h0]; rfl
  have e1 : d.kws K = [] := by unfold He.DefD.kws; rw [h1]; rfl
  rw [e0, e1] at Fd
  have ea : He.fAd K d.at_ = f := by
    rw [hat]
    have z := hmg.symm.trans (T.glo j hj)
    cases z
    rfl
  rw [ea] at Fd
  exact ⟨K, fd, KX, fun s u => FunD.bindsA (ps := [x]) Fd hb s [u] rfl, fun base _ _ => D0 base T f fd Fd⟩
end PV

/-! try .. except C as e. -/
namespace PV
open PySem L2 PySem.Spec PyProof.Rows
/-- what is kept of a caught exception -/
abbrev exH (C : Addr) (d : Option Addr) (a : Addr) : HO := .ext fun h => ∃ (oe : Obj) (vs : Array Value), h.get? a = some oe ∧ Zc (.ref C) d oe ∧ oe.data = .fields vs
theorem inv_trackX {X : Cx} {pins : List (Addr × Obj)} {σ : L2.St} {H : Hp} {s : Shared} {a C : Addr} {oe : Obj} {vs : Array Value} {d : Option Addr} (I : Inv X pins σ H s) (he : s.heap.get? a = some oe) (hz : Zc (.ref C) d oe) (hd : oe.data = .fields vs) (hn : H a = none)
    (n0 : X.s_0.heap.get? a = none) (nL : a ≠ X.env.locals) (np : ∀ p ∈ X.pn ++ pins, p.1 ≠ a) : Inv X pins σ (upd H a (exH C d a)) s := by
  have nc : ∀ x c, X.env.cells.lookup x = some c → c ≠ a := fun x c e z => by
    obtain ⟨v, o, h1, h2⟩ := I.cell x c e
    subst z
    rw [he] at h1
    cases h1
    rw [hd] at h2
    cases h2
  refine ⟨I.ok, I.os, I.bare, ⟨I.base.keep, I.base.slot, fun b o e n hb => ?_, I.base.there, fun b xs e => ?_, fun b o xs e => ?_, fun b ps e => ?_⟩, I.loc, I.cell, ?_, fun x c e => ?_, fun p hp => ?_, ?_, I.len⟩
  · rw [upd_ne (fun z => by rw [z, n0] at e; cases e)]
    exact I.base.free b o e n hb
  · rw [upd_ne (ne_of_none (I.base.tups b xs e) hn)]
    exact I.base.tups b xs e
  · rw [upd_ne (ne_of_none (I.base.frzs b o xs e) hn)]
    exact I.base.frzs b o xs e
  · obtain ⟨m, z⟩ := I.base.tbls b ps e
    exact ⟨m, by rw [upd_ne (ne_of_none z hn)]; exact z⟩
  · rw [upd_ne (Ne.symm nL)]
    exact I.free
  · rw [upd_ne (nc x c e)]
    exact I.freeC x c e
  · obtain ⟨h1, h2, h3⟩ := I.pin p hp
    exact ⟨h1, by rw [upd_ne (np p hp)]; exact h2, h3⟩
  · exact I.hok.laidN (fun b u q => q) hn ⟨⟨oe, vs, he, hz, hd⟩, ⟨oe, he⟩, fun _ _ ⟨o, v, q, r⟩ k => ⟨o, v, k o q, r⟩⟩
theorem inv_suiteX {X : Cx} {pins : List (Addr × Obj)} {σ : L2.St} {H : Hp} {s : Shared} (I : Inv X pins σ H s) (a : Addr) : Inv (X.suite a (X.pn ++ pins)) [] σ H s :=
  ⟨I.ok.suite _ _, I.os, I.bare, I.base, I.loc, I.cell, I.free, I.freeC, fun p hp => I.pin p (by rw [List.append_nil] at hp; exact hp), I.hok, I.len⟩
theorem inv_unsuiteX {X : Cx} {pins : List (Addr × Obj)} {σ : L2.St} {H : Hp} {s : Shared} {a : Addr} {pn' : List (Addr × Obj)} (I : Inv (X.suite a (X.pn ++ pins)) pn' σ H s) (ok : X.Ok) : Inv X pins σ H s :=
  ⟨ok, I.os, I.bare, I.base, I.loc, I.cell, I.free, I.freeC, fun p hp => I.pin p (List.mem_append_left _ hp), I.hok, I.len⟩
theorem EnvR.wipe1 {K : PySem.W.Frag} {cA : Nat → Addr} {f : Nat → Option Addr} {H : Hp} {e : Env} {σ : L2.St} (h : EnvR K cA f H e σ) (i : Nat) : EnvR K cA f H (e.set i none) (σ.set i none) := by
  refine ⟨by rw [List.length_set, List.length_set]; exact h.1, fun j u q => ?_⟩
  by_cases z : i = j
  · subst z
    by_cases hl : i < e.length
    · rw [List.getElem?_set_self hl] at q
      cases q
    · rw [List.getElem?_eq_none (by rw [List.length_set]; exact Nat.le_of_not_lt hl)] at q
      cases q
  · rw [List.getElem?_set_ne z] at q
    obtain ⟨v, h1, h2⟩ := h.2 j u q
    exact ⟨v, by rw [List.getElem?_set_ne z]; exact h1, h2⟩
def wAsX (K : PySem.W.Frag) (c : Value) (i : Nat) (ts : TS) (Wout : WX) (D : Ends) : WX := fun cls d σ H =>
  ∃ b, PySem.W.exmOne K cls c = some b ∧ (b = true → ∃ C, cls = .ref C ∧ ∀ a, H a = none → ts { nx := fun σ' H' => D.nx (σ'.set i none) H', rt := D.rt, bk := fun σ' H' => D.bk (σ'.set i none) H', ct := fun σ' H' => D.ct (σ'.set i none) H' } (σ.set i (some (.ref a))) (upd H a (exH C d a))) ∧
    (b = false → Wout cls d σ H)
section
variable {X : Cx} {x n : Str} {c : Value} {i : Nat} {body suite : List Stmt} {b₀ : Stmt} {np pos pos' : Pos} {tb : WX → TS} {ts : TS} {Wout : WX}
theorem ps_tryX (hs : X.stack = X.env :: X.outer) (hf : X.env.frame = some X.env.locals) (hex : X.ex = []) (hN : X.N.Nodup) (hi : X.N[i]? = some n) (hln : X.env.kindOf n = some .local) (hc : Names X x c) (tk : Takes X Wout)
    (hb : ∀ (W : WX) (pn : List (Addr × Obj)) (xe : Value → Shared → Prop), Takes (X.tr pn xe) W → PassesOwn (model X.prog X.w) X.A X.env xe → PSs (X.tr pn xe) body (tb W))
    (hsu : ∀ (a : Addr) (pn : List (Addr × Obj)), PSs (X.suite a pn) (b₀ :: suite) ts) :
    PS X (.Try body [.ExceptHandler (some (.Name x np)) (some n) (b₀ :: suite) pos'] [] [] pos) (fun D σ H => tb (wAsX X.K c i ts Wout D) D σ H) := by
  refine ⟨fun pins s σ H D I h => ?_⟩
  have ok := I.ok
  have hfr : X.A.frames = some (X.env :: X.outer) := by rw [ok.frames, hs]
  have hloc : Loc X.env.scope n := .inl hln
  refine wpAny_Try_except ?_
  refine wpAny_mono ((hb (wAsX X.K c i ts Wout D) (X.pn ++ pins) (fun e s₁ => wpAny (model X.prog X.w) X.A (noteFrame e X.env) (fun _ s₂ => wpAny (model X.prog X.w) X.A (setFlight e none) (fun _ s₃ =>
    wpAny (model X.prog X.w) X.A (handleBy e X.env [.ExceptHandler (some (.Name x np)) (some n) (b₀ :: suite) pos']) (SP X pins D) X.xe s₃) X.xe s₂) X.xe s₁) (fun u s' xx => ?_) PassesOwn.looking).run [] s σ H D (I.toTry _) h) (fun f s1 hsp => ?_) (fun e s1 he => he)
  · -- the catch
    obtain ⟨a, B, sI, pins', σ', H', cls, d, rfl, J', nb, up, sky, na, os, ag, b, hb1, hyes, hno⟩ := xx
    have J : Inv X pins σ' H' sI := J'.ofTry ok
    have sky' : Sky B (X.env :: X.outer) a (Zc cls d) X.env.locals s'.heap := by rw [← hs]; exact sky
    show wpAny (model X.prog X.w) X.A (noteFrame (.ref a) X.env) _ _ _
    refine Sky.land Zc.steady hfr hf sky' fun h3 fl3 up3 => ?_
    have J3 : Inv X pins σ' H' { s' with heap := h3 } := J.landed nb fl3.1 (up.trans up3) os ag
    obtain ⟨oe3, vs3, he3, hz3, hd3⟩ := fl3.there
    have notFr : ∀ {h : Heap} {o : Obj} {vs : Array Value}, h.FunFrames B (X.env :: X.outer) → h.get? a = some o → o.data = .fields vs → a ∉ frs (X.env :: X.outer) := fun {h o vs} ff e dd hm => by
      obtain ⟨_, o', e', hnf⟩ := ff.mem hm
      rw [e] at e'; cases e'
      exact hnf _ dd
    have nfr := notFr fl3.2.2.1 he3 hd3
    have nL : a ≠ X.env.locals := fun z => nfr (List.mem_filterMap.mpr ⟨X.env, List.mem_cons_self, by rw [hf, z]⟩)
    have nF : a ∉ X.fs := fun hm => by
      obtain ⟨e, he, q⟩ := List.mem_filterMap.mp hm
      exact nfr (List.mem_filterMap.mpr ⟨e, List.mem_cons_of_mem _ he, q⟩)
    have S3 := J3.suite he3 hd3 na nL nF
    refine wpAny_handleBy_cons (codeAny_handlers_test ?_) (by intro q; cases q)
    have LT : PySem.W.Looks (model X.prog X.w) h3 (typeOf (.ref a)) cls := fun A Q E s k q => wpAny_typeOf_ref (k _ _ he3) (by rw [hz3.1]; exact q)
    have LM := PySem.W.exm_one (M := model X.prog X.w) (J3.kIn) LT hb1
    have test : ∀ {Q : Value → Shared → Prop} {E : Value → Shared → Prop}, Q c { s' with heap := h3 } → wpAny (model X.prog X.w) (X.A.mark (some (.ref a))) (eval (.Name x np) X.env) Q E { s' with heap := h3 } := fun {Q E} q => by
      obtain ⟨hg, hdbg, hm | ⟨hm, hv, hnn⟩⟩ := hc
      · exact ld_glob (X := X.suite a ((a, oe3) :: (X.pn ++ pins))) S3 hg hm q hdbg
      · exact ld_blt (X := X.suite a ((a, oe3) :: (X.pn ++ pins))) S3 hg hm hv q hnn hdbg
    refine test (LM.here ?_)
    have hB : ∀ o, sI.heap.get? a ≠ some o := fun o e => by
      have z := nb a o e (by rw [hs]; exact nfr)
      rw [fl3.2.1] at z
      cases z
    have n0 : X.s_0.heap.get? a = none := by
      cases e : X.s_0.heap.get? a with
      | none => rfl
      | some o =>
        obtain ⟨o', e'⟩ := J.base.there a o e (by rw [hex]; exact fun z => nomatch z)
        exact absurd e' (hB o')
    have npn : ∀ p ∈ X.pn ++ pins, p.1 ≠ a := fun p hp z => hB p.2 (by rw [← z]; exact (J.pin p hp).1)
    cases b with
    | true =>
      obtain ⟨C, rfl, hyes2⟩ := hyes rfl
      refine codeAny_handlers_suite_as ?_
      refine HandSPX.lands_againZ fl3 fun h4 fl4 up4 => ?_
      have J4 : Inv X pins σ' H' { s' with heap := h4 } := J.landed nb fl4.1 ((up.trans up3).trans up4) os ag
      obtain ⟨oe4, vs4, he4, hz4, hd4⟩ := fl4.there
      have S4 := inv_suiteX (inv_trackX J4 he4 hz4 hd4 na n0 nL npn) a
      refine store_ok (X := X.suite a (X.pn ++ pins)) (v := .ref a) S4 hN hi hloc rfl (fun s5 S5 => ?_) (.inr hln)
      refine wpAny_mono ((hsu a (X.pn ++ pins)).run [] s5 _ _ _ S5 (hyes2 a na)) (fun f s6 hsp => ?_) (fun _ _ z => False.elim z)
      have end_ : ∀ {σ6 : L2.St} {H6 : Hp} {Q : Shared → Prop}, Inv (X.suite a (X.pn ++ pins)) [] σ6 H6 s6 → (∀ s7, Inv X pins (σ6.set i none) H6 s7 → Q s7) →
          wpAny (model X.prog X.w) X.A (do bindName X.env n .none; unbindBehindTheSuite X.env n pos') (fun _ s7 => Q s7) X.xe s6 := fun {σ6 H6 Q} S6 hq => gone_ok (inv_unsuiteX S6 ok) hN hi hln hq
      cases f with
      | next =>
        obtain ⟨σ6, H6, S6, q6⟩ := hsp
        exact end_ S6 fun s7 J7 => ⟨_, _, J7, q6⟩
      | brk =>
        obtain ⟨σ6, H6, S6, q6⟩ := hsp
        exact end_ S6 fun s7 J7 => ⟨_, _, J7, q6⟩
      | cont =>
        obtain ⟨σ6, H6, S6, q6⟩ := hsp
        exact end_ S6 fun s7 J7 => ⟨_, _, J7, q6⟩
      | ret u =>
        obtain ⟨v6, σ6, H6, S6, r6, q6⟩ := hsp
        exact end_ S6 fun s7 J7 => ⟨_, _, _, J7, r6, q6⟩
    | false =>
      show wpAny _ X.A (handleBy (.ref a) X.env []) _ _ _
      refine wpAny_handleBy_nil ?_
      obtain ⟨k1, k2, k3, oe, vs, T, oT, ts', he, hz, hd, h1, hr⟩ := id fl3
      unfold PySem.passOn
      refine wpAny_bind (wpAny_field he hd h1 ?_)
      rw [if_neg (show ¬ ((Value.ref T == Value.none) = true) from by simp)]
      have fin : wpAny (model X.prog X.w) X.A (setFlight (.ref a) X.env.frame) (fun _ s4 => wpAny (model X.prog X.w) X.A (throw (.ref a) : Sem Flow) (SP X pins D) X.xe s4) X.xe { s' with heap := h3 } := by
        rw [hf]
        refine HandSPX.setFlight_upZ fl3 fun h4 hh4 up4 => wpAny_throw (tk _ _ ?_)
        exact ⟨a, B, sI, pins, σ', H', cls, d, rfl, J, nb, (up.trans up3).trans up4, .inr (.inr (by rw [hs]; exact hh4)), na, os, ag, hno rfl⟩
      first
        | exact wpAny_bind (wpAny_pure (wpAny_bind fin))
        | exact wpAny_bind fin
  · cases f with
    | next =>
      obtain ⟨σ', H', J', q⟩ := hsp
      exact wpAny_execs_nil ⟨σ', H', J'.ofTry ok, q⟩
    | brk =>
      obtain ⟨σ', H', J', q⟩ := hsp
      exact ⟨σ', H', J'.ofTry ok, q⟩
    | cont =>
      obtain ⟨σ', H', J', q⟩ := hsp
      exact ⟨σ', H', J'.ofTry ok, q⟩
    | ret u =>
      obtain ⟨v, σ', H', J', r, q⟩ := hsp
      exact ⟨v, σ', H', J'.ofTry ok, r, q⟩
end
section
variable {X : Cx} {cA : Nat → Addr} {W : WX} {x n : Str} {c : Value} {i : Nat} {body suite : List Stmt} {b₀ : Stmt} {np pos pos' : Pos}
theorem s_try {sub : Nat → Option Bool} {mb mh : MS} (hs : X.stack = X.env :: X.outer) (hf : X.env.frame = some X.env.locals) (hex : X.ex = []) (hN : X.N.Nodup) (hi : X.N[i]? = some n) (hln : X.env.kindOf n = some .local) (hc : Names X x c) (tk : Takes X W)
    (hsub : ∀ k b, sub k = some b → PySem.W.exmOne X.K (.ref (cA k)) c = some b)
    (hb : ∀ (W : WX) (pn : List (Addr × Obj)) (xe : Value → Shared → Prop), Takes (X.tr pn xe) W → PassesOwn (model X.prog X.w) X.A X.env xe → PSs (X.tr pn xe) body (tS X.K cA W mb))
    (hsu : ∀ (a : Addr) (pn : List (Addr × Obj)), PSs (X.suite a pn) (b₀ :: suite) (tS X.K cA W0 mh)) :
    PS X (.Try body [.ExceptHandler (some (.Name x np)) (some n) (b₀ :: suite) pos'] [] [] pos) (tS X.K cA W (sTry i sub mb mh)) :=
  ps_le (ps_tryX (tb := fun W => tS X.K cA W mb) (ts := tS X.K cA W0 mh) (Wout := W) hs hf hex hN hi hln hc tk hb hsu) fun D σ H h => by
    obtain ⟨f, e, S, r, er, q⟩ := h
    refine ⟨f, e, S, r, er, ?_⟩
    unfold sTry at q
    cases hm : mb e S with
    | nx e1 S1 => rw [hm] at q; exact q
    | bk e1 S1 => rw [hm] at q; exact q
    | ct e1 S1 => rw [hm] at q; exact q
    | rt v S1 => rw [hm] at q; exact q
    | bad => rw [hm] at q; exact False.elim q
    | ex k m e1 S1 =>
      rw [hm] at q
      intro g H1 σ1 d X1 r1 er1 hd
      have q1 := okS.ext q X1
      cases hk : sub k with
      | none => simp only [hk] at q1; exact False.elim q1
      | some b =>
        refine ⟨b, hsub k b hk, fun hb1 => ?_, fun hb1 => ?_⟩
        · subst hb1
          simp only [hk] at q1
          refine ⟨cA k, rfl, fun a na => ?_⟩
          have X2 : Ext g H1 g (upd H1 a (exH (cA k) d a)) := Ext.laid na
          refine ⟨g, e1.set i (some (.x k m)), S1, r1.laid na, (X2.envR er1).set i (repW_x.mpr ⟨a, d, rfl, upd_same, X2.exD hd⟩), ?_⟩
          have q2 := okS.ext q1 X2
          cases hh : mh (e1.set i (some (.x k m))) S1 with
          | nx e2 S2 =>
            simp only [hh] at q2
            exact fun g3 H3 σ3 X3 r3 er3 => q2 g3 H3 _ X3 r3 (er3.wipe1 i)
          | bk e2 S2 =>
            simp only [hh] at q2
            exact fun g3 H3 σ3 X3 r3 er3 => q2 g3 H3 _ X3 r3 (er3.wipe1 i)
          | ct e2 S2 =>
            simp only [hh] at q2
            exact fun g3 H3 σ3 X3 r3 er3 => q2 g3 H3 _ X3 r3 (er3.wipe1 i)
          | rt v S2 =>
            simp only [hh] at q2
            exact q2
          | ex k2 m2 e2 S2 => simp only [hh] at q2; exact False.elim q2
          | bad => simp only [hh] at q2; exact False.elim q2
        · subst hb1
          simp only [hk] at q1
          exact q1 g H1 σ1 d Ext.refl r1 er1 hd
end
end PV

/-! isinstance of caught exceptions. -/
namespace PV
open PySem L2 PySem.Spec PyProof.Rows
/-- what isinstance asks of an exception class of the program -/
def xkB (K : PySem.W.Frag) (C : Addr) : Bool := (PySem.W.clsIn K C).isSome && (decide (PySem.W.findIn K (.ref C) "__getattribute__" = some (some (.builtin "BaseException.__getattribute__"))) && ((PySem.W.findIn K (.ref C) "__getattr__").isSome &&
  (decide (PySem.W.subIn K (.ref C) (.type "BaseException") = some true) && (decide (PySem.W.findIn K (.ref C) "__class__" = some (some (.builtin "object.__class__"))) && (decide (PySem.W.specialIn K (.builtin "object.__class__") "__get__" = some (some (.builtin "getset_descriptor.__get__"))) &&
  (decide (PySem.W.takesIn K (.builtin "object.__class__") = some true) && decide (PySem.W.mroIn K C (.type "object") = some true)))))))
theorem kit_exc {K : PySem.W.Frag} {C x : Addr} {ox : Obj} {od : Option Obj} (h : xkB K C = true) : PySem.W.KitX K (.ref x) (.ref C) (fun h => PySem.W.InstAt h x ox C od) := by
  unfold xkB at h
  obtain ⟨h1, h⟩ := Bool.and_eq_true_iff.mp h
  obtain ⟨h2, h⟩ := Bool.and_eq_true_iff.mp h
  obtain ⟨h3, h⟩ := Bool.and_eq_true_iff.mp h
  obtain ⟨h4, h⟩ := Bool.and_eq_true_iff.mp h
  obtain ⟨h5, h⟩ := Bool.and_eq_true_iff.mp h
  obtain ⟨h6, h⟩ := Bool.and_eq_true_iff.mp h
  obtain ⟨h7, h8⟩ := Bool.and_eq_true_iff.mp h
  obtain ⟨gt, h3⟩ := Option.isSome_iff_exists.mp h3
  exact PySem.W.kitx_exc h1 (of_decide_eq_true h2) h3 (of_decide_eq_true h4) (of_decide_eq_true h5) (of_decide_eq_true h6) (of_decide_eq_true h7) (of_decide_eq_true h8)
def rIsx (K : PySem.W.Frag) : List V → Hp → VK → Prop := fun xs H Q => ∃ (a C : Addr) (d : Option Addr) (n : Option Int) (c : V) (u : Value) (b : Bool), xs = [.ref a, c] ∧ ClsV c u ∧ ExAt H a C d ∧ ExD H n d ∧ xkB K C = true ∧ PySem.W.kitOne K (.ref C) u = some b ∧ Q (.bl b) H
theorem call_isx {X : Cx} : CallR X (.builtin "isinstance") (rIsx X.K) := by
  intro pins s σ H xs us Q I r h
  obtain ⟨a, C, d, n, c, u, b, rfl, k, ha, hx, hc, e, q⟩ := h
  obtain ⟨u1, u2, rfl, r1, r2⟩ := vals2 r
  have e2 := k.eq r2
  subst e2
  cases (show u1 = Value.ref a from r1)
  obtain ⟨⟨oe, vs, h1, hz, hd⟩, _, _⟩ := I.hok a _ ha
  have nc : PySem.W.notCls oe = true := by unfold PySem.W.notCls; rw [hd]
  have p : ∃ od, PySem.W.InstAt s.heap a oe C od := by
    cases n with
    | none =>
      have hx' : d = none := hx
      subst hx'
      exact ⟨none, h1, hz.1, nc, by rw [hz.2]; trivial⟩
    | some m =>
      obtain ⟨dx, rfl, e3⟩ := hx
      cases g : s.heap.get? dx with
      | none =>
        have z := I.hok.gone g
        rw [e3] at z
        cases z
      | some o => exact ⟨some o, h1, hz.1, nc, by rw [hz.2]; exact g⟩
  obtain ⟨od, p⟩ := p
  exact PySem.W.kia_one (kit_exc hc) I.kIn p e (fun z => nomatch z) fun tk => ⟨.bl b, H, I.tok tk, rfl, q⟩
section
variable {X : Cx} {cA : Nat → Addr} {W : WX}
theorem e_isx {sub : Nat → Option Bool} {a b : Expr} {m : M} {c : V} {u : Value} {p pos : Pos} (hg : Gl X "isinstance") (hm : X.mg "isinstance" = none) (ha : PE X a (tE X.K cA W m)) (hb : PE X b (tC c)) (hk : ClsV c u)
    (hsub : ∀ k b, sub k = some b → xkB X.K (cA k) = true ∧ PySem.W.kitOne X.K (.ref (cA k)) u = some b) (hs : starEach (a :: [b]) X.env = (false, eval a X.env) :: starEach [b] X.env := by rfl)
    (hs2 : starEach (b :: []) X.env = (false, eval b X.env) :: starEach [] X.env := by rfl) (hpl : (backTo pos (starEach [b] X.env)).any (·.1) = false := by rfl) : PE X (.Call (.Name "isinstance" p) [a, b] [] pos) (tE X.K cA W (m1 (isxV sub) m)) :=
  pe_le (pe_callB call_isx hg hm boot_isinstance (pa_cons ha (pa_cons hb pa_nil hs2) hs) (by decide) (by decide) hs hpl) fun σ H Q h => by
    obtain ⟨f, e, S, r, er, q⟩ := h
    refine ⟨f, e, S, r, er, okE.bind q fun g H1 w S1 v X1 r1 q1 h1 => ?_⟩
    unfold isxV at h1
    split at h1
    · rename_i k n
      obtain ⟨x, d, rfl, h2, h3⟩ := repW_x.mp q1
      cases hk2 : sub k with
      | none => rw [hk2] at h1; exact False.elim h1
      | some b =>
        rw [hk2] at h1
        obtain ⟨g1, g2⟩ := hsub k b hk2
        exact ⟨x, cA k, d, n, c, u, b, rfl, hk, h2, h3, g1, g2, h1 g H1 _ Ext.refl r1 (repW_p.mpr (repD_bool.mpr rfl))⟩
    · exact False.elim h1
end
theorem bt_ValueError : bootBuiltins "ValueError" = some (.type "ValueError") := by decide +kernel
theorem lk_nil {P : Nat → Bool → Prop} : ∀ k b, lk [] k = some b → P k b := fun k b h => by cases h
theorem lk_cons {P : Nat → Bool → Prop} {j : Nat} {c : Bool} {l : List (Nat × Bool)} (h : P j c) (r : ∀ k b, lk l k = some b → P k b) : ∀ k b, lk ((j, c) :: l) k = some b → P k b := fun k b z => by
  unfold lk at z
  by_cases e : k = j
  · subst e
    rw [List.lookup_cons_self] at z
    cases z
    exact h
  · rw [List.lookup_cons, beq_false_of_ne e] at z
    exact r k b z
theorem Tx.exm {fa : List He.Fa} {fn : List He.DefD} {tb : List Tb} {K : PySem.W.Frag} {mg : Str → Option Value} {w : World} (T : Tx fa fn tb K mg w) (i : Nat) {x y : Str} {b : Bool} (h : fa[i]? = some (.exm x y b) := by rfl) : PySem.W.exmOne K (.ref (He.ga K x)) (.ref (He.ga K y)) = some b := He.exm_ok (T.c.fact i h)
end PV

/-! Names forgotten. -/
namespace PV
open PySem L2 PySem.Spec PyProof.Rows
theorem EnvR.wipeS {K : PySem.W.Frag} {cA : Nat → Addr} {f : Nat → Option Addr} {H : Hp} {e : Env} {σ : L2.St} (h : EnvR K cA f H e σ) (i : Nat) : EnvR K cA f H (e.set i none) σ := by
  refine ⟨by rw [List.length_set]; exact h.1, fun j u q => ?_⟩
  by_cases z : i = j
  · subst z
    by_cases hl : i < e.length
    · rw [List.getElem?_set_self hl] at q
      cases q
    · rw [List.getElem?_eq_none (by rw [List.length_set]; exact Nat.le_of_not_lt hl)] at q
      cases q
  · rw [List.getElem?_set_ne z] at q
    exact h.2 j u q
theorem EnvR.kl {K : PySem.W.Frag} {cA : Nat → Addr} {f : Nat → Option Addr} {H : Hp} {e : Env} {σ : L2.St} (h : EnvR K cA f H e σ) : ∀ ks : List Nat, EnvR K cA f H (wipeE e ks) σ
  | [] => h
  | k :: ks => (EnvR.kl h ks).wipeS k
theorem okS.kl {K : PySem.W.Frag} {cA : Nat → Addr} {W : WX} {f : Nat → Option Addr} {H : Hp} {o : O} {D : Ends} {ks : List Nat} (h : okS K cA W f H (o.kl ks) D) : okS K cA W f H o D := by
  cases o with
  | nx e S => exact fun g H' σ' X r er => h g H' σ' X r (er.kl ks)
  | bk e S => exact fun g H' σ' X r er => h g H' σ' X r (er.kl ks)
  | ct e S => exact fun g H' σ' X r er => h g H' σ' X r (er.kl ks)
  | rt e S => exact h
  | ex c n e S => exact h
  | bad => exact h
section
variable {X : Cx} {cA : Nat → Addr} {W : WX} {b : MS} {ks : List Nat}
theorem s_kl {st : Stmt} (h : PS X st (tS X.K cA W b)) : PS X st (tS X.K cA W (sKl ks b)) := ps_le h fun D σ H q => by
  obtain ⟨f, e, S, r, er, q⟩ := q
  exact ⟨f, e, S, r, er, okS.kl q⟩
theorem s_ek {st : Stmt} (h : PS X st (tS X.K cA W b)) : PS X st (tS X.K cA W (sEk ks b)) := ps_le h fun D σ H q => by
  obtain ⟨f, e, S, r, er, q⟩ := q
  exact ⟨f, _, S, r, er.kl ks, q⟩
theorem s_klb {st : List Stmt} (h : PSs X st (tS X.K cA W b)) : PSs X st (tS X.K cA W (sKl ks b)) := pss_le h fun D σ H q => by
  obtain ⟨f, e, S, r, er, q⟩ := q
  exact ⟨f, e, S, r, er, okS.kl q⟩
end
end PV

/-! More methods and built-in functions. -/
namespace PV
open PySem L2 PySem.Spec PyProof.Rows
theorem bt_divmod : bootBuiltins "divmod" = some (.builtin "divmod") := by decide +kernel
theorem bt_ord : bootBuiltins "ord" = some (.builtin "ord") := by decide +kernel
section
variable {X : Cx} {cA : Nat → Addr}
theorem b_divmod : CallB X cA (.builtin "divmod") (f2 dvmV) := callB_two (fun pins s σ H x y u u2 Q f S w w2 I ru ru2 r rw1 rw2 q => by
  unfold dvmV at q
  split at q
  · rename_i i j
    rw [repD_int.mp (repW_p.mp rw1)] at ru
    rw [repD_int.mp (repW_p.mp rw2)] at ru2
    split at q
    · rename_i hc
      refine call_divmod pins s σ H _ _ Q I (.cons ru (.cons ru2 .nil)) ⟨i, j, rfl, hc, fun p hp => ?_⟩
      exact okO.newT (vs := [.p (.int (i / j)), .p (.int (i % j))]) r (repWs_cons.mpr ⟨_, _, rfl, repW_p.mpr (repD_int.mpr rfl), repWs_cons.mpr ⟨_, _, rfl, repW_p.mpr (repD_int.mpr rfl), repWs_nil.mpr rfl⟩⟩) q hp
    · exact q.elim
  · exact q.elim) fun u v S => by
  unfold dvmV
  split
  · exact nox_if nox_ok nox_bad
  · exact nox_bad
theorem b_ord : CallB X cA (.builtin "ord") (f1 ordV) := callB_one (fun pins s σ H x u Q f S w I ru r rw' q => by
  unfold ordV at q
  split at q
  · rename_i z
    rw [repD_str.mp (repW_p.mp rw')] at ru
    split at q
    · rename_i hl
      exact call_ord pins s σ H _ _ Q I (.cons ru .nil) ⟨z, rfl, hl, okO.here q r (repW_p.mpr (repD_int.mpr rfl))⟩
    · exact q.elim
  · exact q.elim) fun u S => by
  unfold ordV
  split
  · exact nox_if nox_ok nox_bad
  · exact nox_bad
theorem b_tupOf : CallB X cA (.type "tuple") (f1 tupOf) := callB_one (fun pins s σ H x u Q f S w I ru r rw' q => by
  unfold tupOf at q
  split at q
  · rename_i vs e1
    obtain ⟨p, xs, rfl, l, dx⟩ := asL_rep r rw' e1
    split at q
    · exact call_tuple_of pins s σ H _ _ Q I (.cons ru .nil) ⟨p, xs, rfl, .inl ⟨l, fun p2 hp => okO.newT r dx q hp⟩⟩
    · exact q.elim
  · exact q.elim) fun u S => by
  unfold tupOf
  split
  · exact nox_if nox_ok nox_bad
  · exact nox_bad
theorem repDs_strs {K : PySem.W.Frag} {H : Hp} : ∀ {ds : List D} {ns : List Str} {xs : List V}, RepDs K H ds xs → strsOf ds = some ns → xs = ns.map V.str := by
  intro ds ns xs h e
  rw [strsOf_some e] at h
  clear e
  induction ns generalizing xs with
  | nil => rw [List.map_nil] at h; rw [repDs_nil.mp h] <;> rfl
  | cons n r ih =>
    rw [List.map_cons] at h
    obtain ⟨x, q, rfl, h1, h2⟩ := repDs_cons.mp h
    rw [repD_str.mp h1, List.map_cons, ih h2]
theorem strsV_rep {K : PySem.W.Frag} {f : Nat → Option Addr} {H : Hp} {S : Sto} {w : Vl} {x : V} {ns : List Str} (r : Rel K cA f H S) (h : RepW K cA f H w x) (e : strsV S w = some ns) : ∃ a, x = .ref a ∧ (SqL K H a (ns.map V.str) ∨ SqT K H a (ns.map V.str)) := by
  unfold strsV at e
  split at e
  · rename_i vs e1
    split at e
    · rename_i ds e2
      obtain ⟨a, xs, rfl, l, dx⟩ := asQ_rep r h e1
      rw [repDs_strs (repWs_pures dx e2) e] at l
      exact ⟨a, rfl, l⟩
    · cases e
  · cases e
theorem repWs_one {K : PySem.W.Frag} {f : Nat → Option Addr} {H : Hp} {w : Vl} {xs : List V} (h : RepWs K cA f H [w] xs) : ∃ x, xs = [x] ∧ RepW K cA f H w x := by
  obtain ⟨x, t, rfl, h1, h2⟩ := repWs_cons.mp h
  obtain rfl := repWs_nil.mp h2
  exact ⟨x, rfl, h1⟩
theorem repWs_ofStrs {K : PySem.W.Frag} {f : Nat → Option Addr} {H : Hp} (ns : List Str) : RepWs K cA f H (ns.map fun x => Vl.p (.str x)) (ns.map V.str) := by
  have : (ns.map fun x => Vl.p (.str x)) = (ns.map PyData.str).map Vl.p := by rw [List.map_map]; rfl
  rw [this]
  exact repWs_map.mpr (repDs_ofStrs ns)
theorem repWs_ofInts {K : PySem.W.Frag} {f : Nat → Option Addr} {H : Hp} (ns : List Int) : RepWs K cA f H (ns.map fun x => Vl.p (.int x)) (ns.map V.int) := by
  have : (ns.map fun x => Vl.p (.int x)) = (ns.map PyData.int).map Vl.p := by rw [List.map_map]; rfl
  rw [this]
  exact repWs_map.mpr (repDs_ofInts ns)
theorem lenNe {n : Nat} (h : n ≠ 0) : (n == 0) = false := beq_false_of_ne h
theorem mt_oJoin : MtB X cA "str.join" oJoin := ⟨fun pins s σ H x xs v us Q I rx rs h => by
  obtain ⟨f, S, u, ws, r, ru, rw', q⟩ := h
  unfold oJoin at q
  split at q
  · rename_i a w
    obtain ⟨y, rfl, h1⟩ := repWs_one rw'
    split at q
    · rename_i ys e1
      obtain ⟨p, rfl, l⟩ := strsV_rep r h1 e1
      rw [repD_str.mp (repW_p.mp ru)] at rx
      split at q
      · rename_i hl
        exact mt_join pins s σ H _ _ v us Q I rx rs ⟨a, p, ys, rfl, rfl, l, hl, okO.here q r (repW_p.mpr (repD_str.mpr rfl))⟩
      · exact q.elim
    · exact q.elim
  · exact q.elim, fun u ws S => by
  unfold oJoin
  split
  · split
    · exact nox_if nox_ok nox_bad
    · exact nox_bad
  · exact nox_bad⟩
theorem mt_oSplit : MtB X cA "str.split" oSplit := ⟨fun pins s σ H x xs v us Q I rx rs h => by
  obtain ⟨f, S, u, ws, r, ru, rw', q⟩ := h
  unfold oSplit at q
  split at q
  · rename_i a b
    obtain ⟨y, rfl, h1⟩ := repWs_one rw'
    rw [repD_str.mp (repW_p.mp ru)] at rx
    obtain rfl := repD_str.mp (repW_p.mp h1)
    split at q
    · rename_i hl
      exact mt_fz mt_split pins s σ H _ _ v us Q I rx rs ⟨a, b, rfl, rfl, lenNe hl.1, hl.2, fun p hp => (okO.newF r (repWs_ofStrs _) q hp).2⟩
    · exact q.elim
  · exact q.elim, fun u ws S => by
  unfold oSplit
  split
  · exact nox_if (nox_lstF _ _) nox_bad
  · exact nox_bad⟩
theorem mt_oPart : MtB X cA "str.partition" oPart := ⟨fun pins s σ H x xs v us Q I rx rs h => by
  obtain ⟨f, S, u, ws, r, ru, rw', q⟩ := h
  unfold oPart at q
  split at q
  · rename_i a b
    obtain ⟨y, rfl, h1⟩ := repWs_one rw'
    rw [repD_str.mp (repW_p.mp ru)] at rx
    obtain rfl := repD_str.mp (repW_p.mp h1)
    split at q
    · rename_i hl
      refine mt_partition pins s σ H _ _ v us Q I rx rs ⟨a, b, rfl, rfl, lenNe hl.1, hl.2, fun p hp => ?_⟩
      exact okO.newT r (repWs_cons.mpr ⟨_, _, rfl, repW_p.mpr (repD_str.mpr rfl), repWs_cons.mpr ⟨_, _, rfl, repW_p.mpr (repD_str.mpr rfl), repWs_cons.mpr ⟨_, _, rfl, repW_p.mpr (repD_str.mpr rfl), repWs_nil.mpr rfl⟩⟩⟩) q hp
    · exact q.elim
  · exact q.elim, fun u ws S => by
  unfold oPart
  split
  · exact nox_if nox_ok nox_bad
  · exact nox_bad⟩
theorem mt_oStarts : MtB X cA "str.startswith" oStarts := ⟨fun pins s σ H x xs v us Q I rx rs h => by
  obtain ⟨f, S, u, ws, r, ru, rw', q⟩ := h
  unfold oStarts at q
  split at q
  · rename_i a b
    obtain ⟨y, rfl, h1⟩ := repWs_one rw'
    rw [repD_str.mp (repW_p.mp ru)] at rx
    obtain rfl := repD_str.mp (repW_p.mp h1)
    exact mt_startswith pins s σ H _ _ v us Q I rx rs ⟨a, b, rfl, rfl, okO.here q r (repW_p.mpr (repD_bool.mpr rfl))⟩
  · exact q.elim, fun u ws S => by
  unfold oStarts
  split
  · exact nox_ok
  · exact nox_bad⟩
theorem mt_oCount : MtB X cA "str.count" oCount := ⟨fun pins s σ H x xs v us Q I rx rs h => by
  obtain ⟨f, S, u, ws, r, ru, rw', q⟩ := h
  unfold oCount at q
  split at q
  · rename_i a b
    obtain ⟨y, rfl, h1⟩ := repWs_one rw'
    rw [repD_str.mp (repW_p.mp ru)] at rx
    obtain rfl := repD_str.mp (repW_p.mp h1)
    exact mt_count pins s σ H _ _ v us Q I rx rs ⟨a, b, rfl, rfl, okO.here q r (repW_p.mpr (repD_int.mpr rfl))⟩
  · exact q.elim, fun u ws S => by
  unfold oCount
  split
  · exact nox_ok
  · exact nox_bad⟩
theorem mt_oIndex : MtB X cA "str.index" oIndex := ⟨fun pins s σ H x xs v us Q I rx rs h => by
  obtain ⟨f, S, u, ws, r, ru, rw', q⟩ := h
  unfold oIndex at q
  split at q
  · rename_i a b
    obtain ⟨y, rfl, h1⟩ := repWs_one rw'
    rw [repD_str.mp (repW_p.mp ru)] at rx
    obtain rfl := repD_str.mp (repW_p.mp h1)
    split at q
    · rename_i i rest e1
      exact mt_sindex pins s σ H _ _ v us Q I rx rs ⟨a, b, i, rest, rfl, rfl, e1, okO.here q r (repW_p.mpr (repD_int.mpr rfl))⟩
    · exact q.elim
  · exact q.elim, fun u ws S => by
  unfold oIndex
  split
  · split
    · exact nox_ok
    · exact nox_bad
  · exact nox_bad⟩
theorem mt_oExt : MtB X cA "list.extend" oExt := ⟨fun pins s σ H x xs v us Q I rx rs h => by
  obtain ⟨f, S, u, ws, r, ru, rw', q⟩ := h
  unfold oExt at q
  split at q
  · rename_i i j
    obtain ⟨y, rfl, h1⟩ := repWs_one rw'
    split at q
    · rename_i as e1
      split at q
      · rename_i bs e2
        obtain ⟨a, zs, rfl, ha, hA, dx⟩ := entL_rep r ru e1
        obtain ⟨b, zs2, rfl, hb, hB, dx2⟩ := entL_rep r h1 e2
        split at q
        · rename_i hl
          refine mt_extend pins s σ H _ _ v us Q I rx rs ⟨a, b, zs, zs2, rfl, rfl, hA, hB, by rw [repWs_len dx, repWs_len dx2]; exact hl, ?_⟩
          exact okO.setL r ha hA (repWs_append dx dx2) (repW_p.mpr (repD_none.mpr rfl)) q
        · exact q.elim
      · exact q.elim
    · exact q.elim
  · exact q.elim, fun u ws S => by
  unfold oExt
  split
  · split
    · split
      · exact nox_if nox_ok nox_bad
      · exact nox_bad
    · exact nox_bad
  · exact nox_bad⟩
theorem mt_oClear : MtB X cA "list.clear" oClear := ⟨fun pins s σ H x xs v us Q I rx rs h => by
  obtain ⟨f, S, u, ws, r, ru, rw', q⟩ := h
  unfold oClear at q
  split at q
  · rename_i i
    obtain rfl := repWs_nil.mp rw'
    split at q
    · rename_i as e1
      obtain ⟨a, zs, rfl, ha, hA, dx⟩ := entL_rep r ru e1
      exact mt_clear pins s σ H _ _ v us Q I rx rs ⟨a, zs, rfl, rfl, hA, okO.setL r ha hA (repWs_nil.mpr rfl) (repW_p.mpr (repD_none.mpr rfl)) q⟩
    · exact q.elim
  · exact q.elim, fun u ws S => by
  unfold oClear
  split
  · split
    · exact nox_ok
    · exact nox_bad
  · exact nox_bad⟩
theorem repWs_reverse {K : PySem.W.Frag} {f : Nat → Option Addr} {H : Hp} : ∀ {ds : List Vl} {xs : List V}, RepWs K cA f H ds xs → RepWs K cA f H ds.reverse xs.reverse
  | [], xs, h => by rw [repWs_nil.mp h]; exact repWs_nil.mpr rfl
  | d :: ds, xs, h => by
    obtain ⟨x, r, rfl, h1, h2⟩ := repWs_cons.mp h
    rw [List.reverse_cons, List.reverse_cons]
    exact repWs_append (repWs_reverse h2) (repWs_cons.mpr ⟨x, [], rfl, h1, repWs_nil.mpr rfl⟩)
theorem repWs_erase {K : PySem.W.Frag} {f : Nat → Option Addr} {H : Hp} : ∀ {ds : List Vl} {xs : List V} (n : Nat), RepWs K cA f H ds xs → RepWs K cA f H (ds.eraseIdx n) (xs.eraseIdx n)
  | [], xs, n, h => by rw [repWs_nil.mp h]; exact repWs_nil.mpr rfl
  | d :: ds, xs, 0, h => by
    obtain ⟨x, r, rfl, h1, h2⟩ := repWs_cons.mp h
    exact h2
  | d :: ds, xs, n + 1, h => by
    obtain ⟨x, r, rfl, h1, h2⟩ := repWs_cons.mp h
    exact repWs_cons.mpr ⟨x, r.eraseIdx n, rfl, h1, repWs_erase n h2⟩
theorem mt_oRev : MtB X cA "list.reverse" oRev := ⟨fun pins s σ H x xs v us Q I rx rs h => by
  obtain ⟨f, S, u, ws, r, ru, rw', q⟩ := h
  unfold oRev at q
  split at q
  · rename_i i
    obtain rfl := repWs_nil.mp rw'
    split at q
    · rename_i as e1
      obtain ⟨a, zs, rfl, ha, hA, dx⟩ := entL_rep r ru e1
      exact mt_reverse pins s σ H _ _ v us Q I rx rs ⟨a, zs, rfl, rfl, hA, okO.setL r ha hA (repWs_reverse dx) (repW_p.mpr (repD_none.mpr rfl)) q⟩
    · exact q.elim
  · exact q.elim, fun u ws S => by
  unfold oRev
  split
  · split
    · exact nox_ok
    · exact nox_bad
  · exact nox_bad⟩
theorem mt_oPop : MtB X cA "list.pop" oPop := ⟨fun pins s σ H x xs v us Q I rx rs h => by
  obtain ⟨f, S, u, ws, r, ru, rw', q⟩ := h
  unfold oPop at q
  split at q
  · rename_i i j
    obtain ⟨y, rfl, h1⟩ := repWs_one rw'
    obtain rfl := repD_int.mp (repW_p.mp h1)
    split at q
    · rename_i as e1
      obtain ⟨a, zs, rfl, ha, hA, dx⟩ := entL_rep r ru e1
      split at q
      · rename_i k e2
        split at q
        · rename_i w e3
          split at q
          · rename_i hl
            obtain ⟨z, h3, h4⟩ := repWs_get dx e3
            exact mt_popAt pins s σ H _ _ v us Q I rx rs ⟨a, zs, j, k, z, rfl, rfl, hA, hl.1, hl.2, by rw [repWs_len dx]; exact e2, h3, okO.setL r ha hA (repWs_erase k dx) h4 q⟩
          · exact q.elim
        · exact q.elim
      · exact q.elim
    · exact q.elim
  · exact q.elim, fun u ws S => by
  unfold oPop
  split
  · split
    · split
      · split
        · exact nox_if nox_ok nox_bad
        · exact nox_bad
      · exact nox_bad
    · exact nox_bad
  · exact nox_bad⟩
theorem mt_oIns : MtB X cA "list.insert" oIns := ⟨fun pins s σ H x xs v us Q I rx rs h => by
  obtain ⟨f, S, u, ws, r, ru, rw', q⟩ := h
  unfold oIns at q
  split at q
  · rename_i i j w
    obtain ⟨y, t, rfl, h1, h2⟩ := repWs_cons.mp rw'
    obtain ⟨z, rfl, h3⟩ := repWs_one h2
    obtain rfl := repD_int.mp (repW_p.mp h1)
    split at q
    · rename_i as e1
      obtain ⟨a, zs, rfl, ha, hA, dx⟩ := entL_rep r ru e1
      split at q
      · rename_i hl
        exact mt_insert pins s σ H _ _ v us Q I rx rs ⟨a, zs, j, z, rfl, rfl, hA, by rw [repWs_len dx]; exact hl.1, hl.2.1, hl.2.2.2, okO.setL r ha hA (repWs_append (repWs_append (repWs_take _ dx) (repWs_cons.mpr ⟨z, [], rfl, h3, repWs_nil.mpr rfl⟩)) (repWs_drop _ dx)) (repW_p.mpr (repD_none.mpr rfl)) q⟩
      · exact q.elim
    · exact q.elim
  · exact q.elim, fun u ws S => by
  unfold oIns
  split
  · split
    · exact nox_if nox_ok nox_bad
    · exact nox_bad
  · exact nox_bad⟩
theorem findIdx_first {k : Int} : ∀ {ns : List Int} {j : Nat}, ns.findIdx? (· == k) = some j → ns[j]? = some k ∧ ∀ m : Nat, m < j → ns[m]? ≠ some k := fun {ns j} h => by
  obtain ⟨h1, h2, h3⟩ := List.findIdx?_eq_some_iff_getElem.mp h
  refine ⟨by rw [List.getElem?_eq_getElem h1, eq_of_beq h2], fun m hm z => ?_⟩
  obtain ⟨z1, z2⟩ := List.getElem?_eq_some_iff.mp z
  have := h3 m hm
  rw [z2] at this
  exact this (beq_self_eq_true k)
theorem mt_oRem : MtB X cA "list.remove" oRem := ⟨fun pins s σ H x xs v us Q I rx rs h => by
  obtain ⟨f, S, u, ws, r, ru, rw', q⟩ := h
  unfold oRem at q
  split at q
  · rename_i i k
    obtain ⟨y, rfl, h1⟩ := repWs_one rw'
    obtain rfl := repD_int.mp (repW_p.mp h1)
    split at q
    · rename_i ns e1
      split at q
      · rename_i j e2
        obtain ⟨h3, h4⟩ := findIdx_first e2
        unfold intsV at e1
        split at e1
        · rename_i vs e4
          split at e1
          · rename_i ds e5
            obtain ⟨a, zs, rfl, ha, hA, dx⟩ := entL_rep r ru e4
            have e6 := repDs_ints (repWs_pures dx e5) e1
            subst e6
            exact mt_remove pins s σ H _ _ v us Q I rx rs ⟨a, ns, k, j, rfl, rfl, hA, h3, h4, okO.setL r ha hA (repWs_ofInts _) (repW_p.mpr (repD_none.mpr rfl)) q⟩
          · cases e1
        · cases e1
      · exact q.elim
    · exact q.elim
  · exact q.elim, fun u ws S => by
  unfold oRem
  split
  · split
    · split
      · exact nox_ok
      · exact nox_bad
    · exact nox_bad
  · exact nox_bad⟩
theorem op2_repL : Op2 X cA (binaryOp .Mult) repL := by
  refine ⟨fun pins s σ H x y v u Q I rx ry h => ?_, fun u v S => ?_⟩
  · obtain ⟨f, S, a, b, r, ra, rb, q⟩ := h
    unfold repL at q
    split at q
    · rename_i i k
      obtain rfl := repD_int.mp (repW_p.mp rb)
      split at q
      · rename_i as e1
        obtain ⟨a, zs, rfl, ha, hA, dx⟩ := entL_rep r ra e1
        split at q
        · rename_i hk
          have dz : RepWs X.K cA f H (List.replicate k.toNat as).flatten (List.replicate k.toNat zs).flatten := by
            generalize k.toNat = n
            induction n with
            | zero => exact repWs_nil.mpr rfl
            | succ n ih =>
              rw [List.replicate_succ, List.replicate_succ, List.flatten_cons, List.flatten_cons]
              exact repWs_append dx ih
          have hl := okO.newFl dz q
          refine op_fz op_rep pins s σ H _ _ v u Q I rx ry ⟨a, k, zs, rfl, rfl, hA, hk.1, hk.2, ?_, fun p hp => (okO.newF r dz q hp).2⟩
          have e3 : ∀ n : Nat, (List.replicate n zs).flatten.length = zs.length * n := fun n => by
            induction n with
            | zero => rfl
            | succ n ih => rw [List.replicate_succ, List.flatten_cons, List.length_append, ih, Nat.mul_succ, Nat.add_comm]
          rw [e3] at hl
          exact hl
        · exact q.elim
      · exact q.elim
    · exact q.elim
  · unfold repL
    split
    · split
      · exact nox_if (nox_lstF _ _) nox_bad
      · exact nox_bad
    · exact nox_bad
end
end PV

/-! Defs handed on; defaults. -/
namespace PV
open PySem L2 PySem.Spec PyProof.Rows
section
variable {X : Cx} {W : WX}
theorem e_fn {x : Str} {k : Nat} {pos : Pos} (hx : clsN (100 + k) = x) (h : X.mg x = some (.ref (He.ga X.K x))) (hg : Gl X x := by rfl) (hdb : (x == ("__debug__" : Str)) = false := by decide) : PE X (.Name x pos) (tE X.K (cAof X.K) W (mFn k)) :=
  pe_le (pe_glob (v := V.ref (He.ga X.K x)) hg h rfl hdb) fun σ H Q h => by
    obtain ⟨f, e, S, r, er, q⟩ := h
    refine q f H _ Ext.refl r (repW_f.mpr ?_)
    unfold cAof
    rw [hx]
/-- what a name that is called may hold -/
structure HeldF (X : Cx) (k : Nat) (tab : List (Nat × Nat × Fn)) : Prop where
  ok : ∀ j np F, tab.lookup j = some (np, F) → DefOk X.prog X.w X.K X.mg X.base (cAof X.K) (clsN (100 + j)) k np F ∧ X.mg (clsN (100 + j)) = some (.ref (He.ga X.K (clsN (100 + j))))
theorem held_nil {k : Nat} : HeldF X k [] := ⟨fun _ _ _ h => by cases h⟩
theorem held_cons {k l j np : Nat} {F : Fn} {x : Str} {tab : List (Nat × Nat × Fn)} (hx : clsN (100 + j) = x) (d : DefOk X.prog X.w X.K X.mg X.base (cAof X.K) x l np F) (hm : X.mg x = some (.ref (He.ga X.K x))) (h : HeldF X k tab) (hl : l ≤ k := by decide) : HeldF X k ((j, np, F) :: tab) := ⟨fun i np' G e => by
  by_cases hij : i = j
  · subst hij
    rw [List.lookup_cons_self] at e
    cases e
    rw [hx]
    refine ⟨⟨?_⟩, hm⟩
    obtain ⟨a, fd, ps, h1, h2, h3, h4⟩ := d.ex
    exact ⟨a, fd, ps, h1.mono hl, h2, h3, h4⟩
  · rw [List.lookup_cons, beq_false_of_ne hij] at e
    exact h.ok i np' G e⟩
theorem e_callF {i k : Nat} {tab : List (Nat × Nat × Fn)} {x : Str} {p pos : Pos} {b : Expr} {es : List Expr} {ms : List M} (hT : HeldF X k tab) (hr : Room k X.A) (hN : X.N[i]? = some x) (hv : Vis X.env.scope x) (tk : Takes X W) (ha : PA X (b :: es) (tA X.K (cAof X.K) W ms))
    (hdb : (x == ("__debug__" : Str)) = false := by decide) (hcd : (x == ("__classdict__" : Str)) = false := by decide)
    (he : starEach (b :: es) X.env = (false, eval b X.env) :: starEach es X.env := by rfl) (hpl : (backTo pos (starEach es X.env)).any (·.1) = false := by rfl) : PE X (.Call (.Name x p) (b :: es) [] pos) (tE X.K (cAof X.K) W (mCallF i tab ms)) := ⟨fun pins s σ H Q I h => by
  obtain ⟨f, e, S, r, er, q⟩ := h
  unfold mCallF at q
  split at q
  · rename_i j hj
    split at q
    · rename_i np F hF
      split at q
      case isFalse => exact q.elim
      rename_i hnp
      obtain ⟨d, hm⟩ := hT.ok j np F hF
      obtain ⟨a, fd, ps, h1, h2, h3, h4⟩ := d.ex
      obtain ⟨v, hs, rv⟩ := er.2 i _ hj
      have rv' := repW_f.mp rv
      subst rv'
      have ea : a = cAof X.K (100 + j) := by
        have z := h2.symm.trans hm
        cases z
        rfl
      subst ea
      refine wpAny_Call_Name_kw (thn ((pe_var (pos := p) hN hv hdb hcd).run pins s σ H (fun v H1 => v = .ref (cAof X.K (100 + j)) ∧ H1 = H) I ⟨_, hs, rfl, rfl⟩) fun u s1 ⟨v, H1, I1, r1, q1⟩ => ?_)
      obtain ⟨rfl, rfl⟩ := q1
      cases r1
      have ht : tA X.K (cAof X.K) W ms σ H1 (fun vs H1 => spF X.K (cAof X.K) np F vs H1 Q (WE W σ)) := by
        refine ⟨f, e, S, r, er, tA_len ?_⟩
        refine okA.bind q fun g H1 ws S1 vs X1 r1 q1 h1 hlen => ⟨hlen.trans hnp, g, S1, ws, r1, q1, ?_⟩
        cases hf : F ws S1 with
        | ok w S2 => rw [hf] at h1; exact h1
        | exc c n S2 => rw [hf] at h1; exact h1
        | bad => rw [hf] at h1; exact h1
      refine PySem.W.callWith_K (h₀ := X.base) I.ok.mod.kin h3 (thn (ha.run pos pins s1 σ H1 _ I1 ht) fun us s2 ⟨vs, H2, I2, r, q⟩ => ⟨I2.kIn, ?_⟩) he hpl
      have q' : spF X.K (cAof X.K) np F (vs ++ []) H2 Q (WE W σ) := by rw [List.append_nil]; exact q
      exact run_fnSD (dvs := []) (ds := []) h1 hr h4 .nil (passAt tk σ) I2 r q'
    · exact q.elim
  · exact q.elim⟩
end
end PV

/-! Objects of own classes. -/
namespace PV
open PySem L2 PySem.Spec PyProof.Rows
section
variable {K : PySem.W.Frag} {cA : Nat → Addr} {f : Nat → Option Addr} {H : Hp}
theorem repK_look {g : Str} : ∀ {fs : List (Str × Vl)} {ys : List (Str × V)}, RepK K cA f H fs ys → (∀ v, fs.lookup g = some v → ∃ y, ys.lookup g = some y ∧ RepW K cA f H v y) ∧ (fs.lookup g = none → ys.lookup g = none)
  | [], ys, h => by
    have e : ys = [] := List.map_eq_nil_iff.mp h.1
    subst e
    exact ⟨fun v q => (by cases q), fun _ => rfl⟩
  | (k, v) :: fs, [], h => by cases h.1
  | (k, v) :: fs, (k2, y) :: ys, h => by
    have h1 : k2 = k ∧ ys.map (·.1) = fs.map (·.1) := by
      have z := h.1
      rw [List.map_cons, List.map_cons, List.cons.injEq] at z
      exact z
    have h2 : RepWs K cA f H (v :: fs.map (·.2)) (y :: ys.map (·.2)) := h.2
    obtain ⟨x, r, e, h3, h4⟩ := repWs_cons.mp h2
    cases e
    obtain ⟨rfl, h1⟩ := h1
    obtain ⟨i1, i2⟩ := repK_look (g := g) (fs := fs) (ys := ys) ⟨h1, h4⟩
    rw [List.lookup_cons, List.lookup_cons]
    by_cases q : g = k2
    · subst q
      simp only [beq_self_eq_true]
      exact ⟨fun w z => by cases z; exact ⟨y, rfl, h3⟩, fun z => by cases z⟩
    · simp only [beq_false_of_ne q]
      exact ⟨i1, i2⟩
theorem repK_len {α : Type} {fs : List (α × Vl)} {ys : List (α × V)} (h : RepK K cA f H fs ys) : ys.length = fs.length := by
  have := congrArg List.length h.1
  rwa [List.length_map, List.length_map] at this
theorem repK_put {g : Str} {v : Vl} {y : V} (hv : RepW K cA f H v y) : ∀ {fs : List (Str × Vl)} {ys : List (Str × V)}, RepK K cA f H fs ys → RepK K cA f H (putV g v fs) (putF g y ys)
  | [], ys, h => by
    have e : ys = [] := List.map_eq_nil_iff.mp h.1
    subst e
    exact ⟨rfl, repWs_cons.mpr ⟨y, [], rfl, hv, repWs_nil.mpr rfl⟩⟩
  | (k, w) :: fs, [], h => by cases h.1
  | (k, w) :: fs, (k2, z) :: ys, h => by
    have h1 : k2 = k ∧ ys.map (·.1) = fs.map (·.1) := by
      have q := h.1
      rw [List.map_cons, List.map_cons, List.cons.injEq] at q
      exact q
    have h2 : RepWs K cA f H (w :: fs.map (·.2)) (z :: ys.map (·.2)) := h.2
    obtain ⟨x, r, e, h3, h4⟩ := repWs_cons.mp h2
    cases e
    obtain ⟨rfl, h1⟩ := h1
    have ih := repK_put (g := g) hv (fs := fs) (ys := ys) ⟨h1, h4⟩
    unfold putV putF
    by_cases q : k2 = g
    · rw [if_pos q, if_pos q]
      exact ⟨by rw [List.map_cons, List.map_cons, h1], repWs_cons.mpr ⟨y, _, rfl, hv, h4⟩⟩
    · rw [if_neg q, if_neg q]
      exact ⟨by rw [List.map_cons, List.map_cons, ih.1], repWs_cons.mpr ⟨z, _, rfl, h3, ih.2⟩⟩
theorem obj_rep {S : Sto} {u : Vl} {x : V} {i c : Nat} {fs : List (Str × Vl)} (r : Rel K cA f H S) (h : RepW K cA f H u x) (e : objAt S u = some (i, c, fs)) : u = .r i ∧ ∃ a dx ys, x = .ref a ∧ f i = some a ∧ H a = some (.ins (cA c) dx ys) ∧ RepK K cA f H fs ys := by
  cases u with
  | r j =>
    unfold objAt at e
    simp only at e
    split at e
    · rename_i c' fs' hs
      cases e
      obtain ⟨a, rfl, ha⟩ := repW_r.mp h
      obtain ⟨a2, h1, dx, ys, h2, h3⟩ := r.ent i _ hs (fun q => by cases q)
      rw [ha] at h1
      cases h1
      exact ⟨rfl, a, dx, ys, rfl, ha, h2, h3⟩
    · cases e
  | _ => cases e
end
/-- the classes that may be met have their fields as usual -/
def ClsOk (K : PySem.W.Frag) (cA : Nat → Addr) (cs : List Nat) (f : Str) : Prop := ∀ c ∈ cs, Cls K (cA c) ∧ NoAttr K (cA c) f
theorem clsOk_nil {K : PySem.W.Frag} {cA : Nat → Addr} {f : Str} : ClsOk K cA [] f := fun c h => by cases h
theorem clsOk_cons {K : PySem.W.Frag} {cA : Nat → Addr} {c : Nat} {cs : List Nat} {f : Str} (h1 : Cls K (cA c)) (h2 : NoAttr K (cA c) f) (h : ClsOk K cA cs f) : ClsOk K cA (c :: cs) f := fun d hd => by
  rcases List.mem_cons.mp hd with rfl | hd
  · exact ⟨h1, h2⟩
  · exact h d hd
section
variable {X : Cx} {cA : Nat → Addr} {W : WX}
theorem e_attr {cs : List Nat} {f : Str} {o : Expr} {mo : M} {pos : Pos} (hc : ClsOk X.K cA cs f) (ho : PE X o (tE X.K cA W mo)) (hb : attributeBase o f X.env (eval o X.env) = eval o X.env := by rfl) : PE X (.Attribute o f pos) (tE X.K cA W (mAttr cs f mo)) :=
  pe_le (pe_fld ho hb) fun σ H Q h => by
    obtain ⟨g, e, S, r, er, q⟩ := h
    refine ⟨g, e, S, r, er, okE.bind q fun g1 H1 w S1 v X1 r1 q1 h1 => ?_⟩
    cases e1 : objAt S1 w with
    | none => simp only [e1] at h1; exact False.elim h1
    | some p =>
      obtain ⟨i, c, fs⟩ := p
      simp only [e1] at h1
      obtain ⟨rfl, a, dx, ys, rfl, ha, hA, dk⟩ := obj_rep r1 q1 e1
      split at h1
      · rename_i hm
        obtain ⟨k1, k2⟩ := hc c hm
        cases e2 : fs.lookup f with
        | none => simp only [e2] at h1; exact False.elim h1
        | some z =>
          simp only [e2] at h1
          obtain ⟨y, e3, rz⟩ := (repK_look dk).1 z e2
          exact ⟨a, cA c, dx, ys, y, rfl, hA, k1, k2, e3, h1 g1 H1 y Ext.refl r1 rz⟩
      · exact False.elim h1
theorem obj_set {K : PySem.W.Frag} {f : Nat → Option Addr} {H : Hp} {S : Sto} {i c : Nat} {a dx : Addr} {fs : List (Str × Vl)} {ys : List (Str × V)} {g : Str} {v : Vl} {y : V} (r : Rel K cA f H S) (hi : f i = some a) (hA : H a = some (.ins (cA c) dx ys)) (dk : RepK K cA f H fs ys) (rv : RepW K cA f H v y) :
    Ext f H f (upd H a (.ins (cA c) dx (putF g y ys))) ∧ Rel K cA f (upd H a (.ins (cA c) dx (putF g y ys))) (S.set i (.obj c (putV g v fs))) := by
  have X1 : Ext f H f (upd H a (.ins (cA c) dx (putF g y ys))) := Ext.set hi hA (fun z => z)
  exact ⟨X1, r.set hi hA (fun z => z) ⟨dx, _, upd_same, X1.repK (repK_put rv dk)⟩⟩
theorem s_attr {cs : List Nat} {f : Str} {o a : Expr} {mo ma : M} {pos pos' : Pos} (hc : ClsOk X.K cA cs f) (ho : PE X o (tE X.K cA W mo)) (ha : PE X a (tE X.K cA W ma)) (hs : swapsWith a (some (.Attribute o f pos')) pos.line X.env = pure false := by rfl) :
    PS X (.Assign [.Attribute o f pos'] a pos) (tS X.K cA W (sAttr cs f mo ma)) := ps_le (ps_fld ho ha hs) fun D σ H h => by
  obtain ⟨g, e, S, r, er, q⟩ := h
  refine ⟨g, e, S, r, er, okS.val er q fun g1 H1 w S1 v X1 r1 q1 er1 h1 => ?_⟩
  refine ⟨g1, e, S1, r1, er1, okS.val er1 h1 fun g2 H2 w2 S2 v2 X2 r2 q2 er2 h2 => ?_⟩
  cases e1 : objAt S2 w2 with
  | none => simp only [e1] at h2; exact False.elim h2
  | some p =>
    obtain ⟨i, c, fs⟩ := p
    simp only [e1] at h2
    obtain ⟨rfl, b, dx, ys, rfl, hb, hB, dk⟩ := obj_rep r2 q2 e1
    split at h2
    · rename_i hm
      obtain ⟨k1, k2⟩ := hc c hm.1
      obtain ⟨X3, r3⟩ := obj_set (g := f) r2 hb hB dk (X2.repW q1)
      exact ⟨b, cA c, dx, ys, rfl, hB, k1, k2, by rw [repK_len dk]; exact hm.2, h2 g2 _ σ X3 r3 (X3.envR er2)⟩
    · exact False.elim h2
/-- what += and -= of ints ask -/
def AugOp (X : Cx) (op : Operator) (k : Int → Int → Int) : Prop := InOp X op (fun x y H Q => ∃ i j, x = .int i ∧ y = .int j ∧ Q (.int (k i j)) H)
theorem augop_add : AugOp X .Add (· + ·) := in_add
theorem augop_sub : AugOp X .Sub (· - ·) := in_sub
theorem s_attrAug {cs : List Nat} {f : Str} {k : Int → Int → Int} {op : Operator} {o a : Expr} {mo ma : M} {pos pos' : Pos} (hk : AugOp X op k) (hc : ClsOk X.K cA cs f) (ho : PE X o (tE X.K cA W mo)) (ha : PE X a (tE X.K cA W ma)) :
    PS X (.AugAssign (.Attribute o f pos') op a pos) (tS X.K cA W (sAttrAug cs f k mo ma)) := ps_le (ps_fldaug ho ha hk) fun D σ H h => by
  obtain ⟨g, e, S, r, er, q⟩ := h
  refine ⟨g, e, S, r, er, okS.val er q fun g1 H1 w S1 v X1 r1 q1 er1 h1 => ?_⟩
  cases e1 : objAt S1 w with
  | none => simp only [e1] at h1; exact False.elim h1
  | some p =>
    obtain ⟨i, c, fs⟩ := p
    simp only [e1] at h1
    obtain ⟨rfl, b, dx, ys, rfl, hb, hB, dk⟩ := obj_rep r1 q1 e1
    split at h1
    · rename_i hm
      obtain ⟨k1, k2⟩ := hc c hm
      cases e2 : fs.lookup f with
      | none => simp only [e2] at h1; exact False.elim h1
      | some x =>
        simp only [e2] at h1
        obtain ⟨x0, e3, rx⟩ := (repK_look dk).1 x e2
        refine ⟨b, cA c, dx, ys, x0, rfl, hB, k1, k2, e3, g1, e, S1, r1, er1, okS.val er1 h1 fun g2 H2 y S2 y0 X2 r2 q2 er2 h2 => ?_⟩
        unfold augI at h2
        split at h2
        · rename_i n m
          rw [ofR_ok] at h2
          refine ⟨n, m, repD_int.mp (repW_p.mp rx), repD_int.mp (repW_p.mp q2), ?_⟩
          cases e4 : objAt S2 (.r i) with
          | none => simp only [e4] at h2; exact False.elim h2
          | some p2 =>
            obtain ⟨i2, c2, fs2⟩ := p2
            simp only [e4] at h2
            obtain ⟨z, b2, dx2, ys2, e5, hb2, hB2, dk2⟩ := obj_rep r2 (repW_r.mpr ⟨b, rfl, X2.up i b hb⟩) e4
            cases z
            cases e5
            split at h2
            · rename_i hm2
              obtain ⟨rfl, hl⟩ := hm2
              obtain ⟨X3, r3⟩ := obj_set (g := f) (v := .p (.int (k n m))) (y := .int (k n m)) r2 hb2 hB2 dk2 (repW_p.mpr (repD_int.mpr rfl))
              exact ⟨dx2, ys2, hB2, by rw [repK_len dk2]; exact hl, h2 g2 _ σ X3 r3 (X3.envR er2)⟩
            · exact False.elim h2
        · exact False.elim h2
    · exact False.elim h1
end
section
variable {X : Cx} {W : WX}
/-- an object is made: mkA the class's address, F what __init__ computes -/
theorem make_rel {K : PySem.W.Frag} {cA : Nat → Addr} {f : Nat → Option Addr} {H : Hp} {S : Sto} {x dx : Addr} {c : Nat} (r : Rel K cA f H S) (hx : H x = none) (hd : H dx = none) (ne : dx ≠ x) :
    Ext f H (addF f S.length x) (upd (upd H dx (.own x)) x (.ins (cA c) dx [])) ∧ Rel K cA (addF f S.length x) (upd (upd H dx (.own x)) x (.ins (cA c) dx [])) (S ++ [.obj c []]) := by
  have X1 : Ext f H f (upd H dx (.own x)) := Ext.laid hd
  have r1 := r.laid (o := .own x) hd
  have hx1 : upd H dx (.own x) x = none := by rw [upd_ne (Ne.symm ne)]; exact hx
  exact ⟨X1.trans (Ext.add r1 hx1), r1.add hx1 ⟨dx, [], upd_same, rfl, repWs_nil.mpr rfl⟩⟩
/-- what making asks: the class, its __init__ -/
structure MakeOk (P : Program) (w : World) (K : PySem.W.Frag) (mg : Str → Option Value) (base : Heap) (c k np : Nat) (x : Str) (F : Fn) : Prop where
  ex : ∃ (f : Addr) (fd : FuncData) (ps : List Str), Mk K (cAof K c) f ∧ FnOk P w K mg base (L2.CX P w) k f fd ps (spF K (cAof K) np F) ∧ mg x = some (.ref (cAof K c)) ∧ Binds K fd ps []
theorem init_run {K : PySem.W.Frag} {np c : Nat} {F : Fn} {f : Nat → Option Addr} {H : Hp} {S : Sto} {ws : List Vl} {vs : List V} {Q : VK} {W : WX} {σ : L2.St} (r : Rel K (cAof K) f H S) (rw' : RepWs K (cAof K) f H ws vs) (hl : vs.length + 1 = np)
    (q : okE K (cAof K) W f σ H (match F (.r S.length :: ws) (S ++ [.obj c []]) with
      | .ok (.p .none) S2 => .ok (.r S.length) S2
      | _ => .bad) Q) (x dx : Addr) (hx : H x = none) (hd : H dx = none) (ne : dx ≠ x) :
    spF K (cAof K) np F (.ref x :: (vs ++ [])) (upd (upd H dx (.own x)) x (.ins (cAof K c) dx [])) (fun v H2 => v = .non ∧ Q (.ref x) H2) (fun _ _ _ => False) := by
  obtain ⟨X1, r1⟩ := make_rel (c := c) r hx hd ne
  refine ⟨by rw [List.length_cons, List.append_nil]; exact hl, addF f S.length x, S ++ [.obj c []], .r S.length :: ws, r1, ?_, ?_⟩
  · rw [List.append_nil]
    exact repWs_cons.mpr ⟨.ref x, vs, rfl, repW_r.mpr ⟨x, rfl, addF_self⟩, X1.repWs rw'⟩
  · cases hF : F (.r S.length :: ws) (S ++ [.obj c []]) with
    | ok w S2 =>
      rw [hF] at q
      cases w with
      | p d =>
        cases d with
        | none =>
          intro g H' v X2 r2 q2
          refine ⟨repD_none.mp (repW_p.mp q2), q g H' (.ref x) (X1.trans X2) r2 (repW_r.mpr ⟨x, rfl, X2.up _ _ addF_self⟩)⟩
        | _ => exact False.elim q
      | _ => exact False.elim q
    | exc a b S2 => rw [hF] at q; exact False.elim q
    | bad => rw [hF] at q; exact False.elim q
theorem noPass {CX : CXT} {X : Cx} (h : ∀ st H s e s', CX st H s (fun _ _ _ => False) e s' → False) : Passes CX X (fun _ _ _ => False) := fun _ _ _ _ _ _ _ z => (h _ _ _ _ _ z).elim
theorem cx_false {P : Program} {w : World} (st : List PySem.Env) (H : Hp) (s : Shared) (e : Value) (s' : Shared) (h : L2.CX P w st H s (fun _ _ _ => False) e s') : False := by
  obtain ⟨_, _, _, _, _, _, _, _, _, _, _, _, z⟩ := h
  exact z
theorem e_make {c j k np : Nat} {x : Str} {F : Fn} {p pos : Pos} {b : Expr} {es : List Expr} {ms : List M} (d : MakeOk X.prog X.w X.K X.mg X.base c j np x F) (hr : Room k X.A) (ha : PA X (b :: es) (tA X.K (cAof X.K) W ms)) (hle : j + 1 ≤ k := by decide) (hl : ms.length + 1 = np := by rfl) (hg : Gl X x := by rfl)
    (hdb : (x == ("__debug__" : Str)) = false := by decide) (he : starEach (b :: es) X.env = (false, eval b X.env) :: starEach es X.env := by rfl) (hpl : (backTo pos (starEach es X.env)).any (·.1) = false := by rfl) :
    PE X (.Call (.Name x p) (b :: es) [] pos) (tE X.K (cAof X.K) W (mMake c F ms)) := by
  obtain ⟨f, fd, ps, h1, h2, h3, h4⟩ := d.ex
  exact pe_le (pe_make h1 h2 (hr.mono hle) hg h3 h4 .nil (noPass cx_false) ha hdb he hpl) fun σ H Q h => by
    obtain ⟨g, e, S, r, er, q⟩ := h
    refine ⟨g, e, S, r, er, tA_len (okA.bind q fun g1 H1 ws S1 vs X1 r1 q1 k1 hlen => ?_)⟩
    exact fun x dx hx hd ne => init_run r1 q1 (by rw [hlen]; exact hl) k1 x dx hx hd ne
theorem e_make0 {c j k : Nat} {x : Str} {F : Fn} {p pos : Pos} (d : MakeOk X.prog X.w X.K X.mg X.base c j 1 x F) (hr : Room k X.A) (hle : j + 1 ≤ k := by decide) (hg : Gl X x := by rfl) (hdb : (x == ("__debug__" : Str)) = false := by decide) :
    PE X (.Call (.Name x p) [] [] pos) (tE X.K (cAof X.K) W (mMake c F [])) := by
  obtain ⟨f, fd, ps, h1, h2, h3, h4⟩ := d.ex
  exact pe_le (pe_make0 h1 h2 (hr.mono hle) hg h3 h4 .nil (noPass cx_false) hdb) fun σ H Q h => by
    obtain ⟨g, e, S, r, er, q⟩ := h
    exact fun x dx hx hd ne => init_run (vs := []) r (repWs_nil.mpr rfl) rfl q x dx hx hd ne
/-- the methods that a name may mean, by class -/
structure MethF (P : Program) (w : World) (K : PySem.W.Frag) (mg : Str → Option Value) (base : Heap) (k : Nat) (m : Str) (tab : List (Nat × Nat × Fn)) : Prop where
  ok : ∀ c np F, tab.lookup c = some (np, F) → Cls K (cAof K c) ∧ ∃ (f : Addr) (fd : FuncData) (ps : List Str), Meth K (cAof K c) m f ∧ FnOk P w K mg base (L2.CX P w) k f fd ps (spF K (cAof K) np F) ∧ Binds K fd ps []
variable {P : Program} {w : World} {K : PySem.W.Frag} {mg : Str → Option Value} {base : Heap}
theorem meth_nil {k : Nat} {m : Str} : MethF P w K mg base k m [] := ⟨fun _ _ _ h => by cases h⟩
structure MethOk (P : Program) (w : World) (K : PySem.W.Frag) (mg : Str → Option Value) (base : Heap) (c k np : Nat) (m : Str) (F : Fn) : Prop where
  cl : Cls K (cAof K c)
  ex : ∃ (f : Addr) (fd : FuncData) (ps : List Str), Meth K (cAof K c) m f ∧ FnOk P w K mg base (L2.CX P w) k f fd ps (spF K (cAof K) np F) ∧ Binds K fd ps []
theorem meth_cons {c l k np : Nat} {m : Str} {F : Fn} {tab : List (Nat × Nat × Fn)} (d : MethOk P w K mg base c l np m F) (h : MethF P w K mg base k m tab) (hl : l ≤ k := by decide) : MethF P w K mg base k m ((c, np, F) :: tab) := ⟨fun i np' G e => by
  by_cases hij : i = c
  · subst hij
    rw [List.lookup_cons_self] at e
    cases e
    obtain ⟨f, fd, ps, h1, h2, h3⟩ := d.ex
    exact ⟨d.cl, f, fd, ps, h1, h2.mono hl, h3⟩
  · rw [List.lookup_cons, beq_false_of_ne hij] at e
    exact h.ok i np' G e⟩
theorem meth_call {np : Nat} {F : Fn} {f : Nat → Option Addr} {H : Hp} {S : Sto} {ws : List Vl} {vs : List V} {i : Nat} {a : Addr} {Q : VK} {σ : L2.St} (r : Rel X.K (cAof X.K) f H S) (hi : f i = some a) (rw' : RepWs X.K (cAof X.K) f H ws vs) (hl : vs.length + 1 = np) (q : okE X.K (cAof X.K) W f σ H (F (.r i :: ws) S) Q) :
    spF X.K (cAof X.K) np F (.ref a :: vs) H Q (WE W σ) := by
  refine ⟨by rw [List.length_cons]; exact hl, f, S, .r i :: ws, r, repWs_cons.mpr ⟨.ref a, vs, rfl, repW_r.mpr ⟨a, rfl, hi⟩, rw'⟩, ?_⟩
  cases hF : F (.r i :: ws) S with
  | ok w S2 => rw [hF] at q; exact q
  | exc c n S2 => rw [hF] at q; exact q
  | bad => rw [hF] at q; exact q
theorem e_meth {k : Nat} {m : Str} {tab : List (Nat × Nat × Fn)} {o b : Expr} {es : List Expr} {mo : M} {ms : List M} {apos pos : Pos} {pl : Sem Bool} (hT : MethF X.prog X.w X.K X.mg X.base k m tab) (hr : Room k X.A) (tk : Takes X W) (ho : PE X o (tE X.K (cAof X.K) W mo)) (ha : PA X (b :: es) (tA X.K (cAof X.K) W ms))
    (he : starEach (b :: es) X.env = (false, eval b X.env) :: starEach es X.env := by rfl) (hpl : (backTo pos (starEach es X.env)).any (·.1) = false := by rfl)
    (ht : eval (.Call (.Attribute o m apos) (b :: es) [] pos) X.env = (eval o X.env >>= fun ov => standAt apos.atName >>= fun _ => holding [ov] (getMethod ov m pl) >>= fun q => callWith pos q.1 q.2 (backTo pos (starEach (b :: es) X.env)) (backToKw pos (keywordEach [] X.env))) := by rfl) :
    PE X (.Call (.Attribute o m apos) (b :: es) [] pos) (tE X.K (cAof X.K) W (mMeth m tab mo ms)) := ⟨fun pins s σ H Q I h => by
  have run := ho.run pins s σ H (fun x H1 => ∃ g S1 w, Rel X.K (cAof X.K) g H1 S1 ∧ EnvR X.K (cAof X.K) g H1 h.choose_spec.choose σ ∧ RepW X.K (cAof X.K) g H1 w x ∧ okE X.K (cAof X.K) W g σ H1 (match objAt S1 w with
    | some (i, c, fs) => (match tab.lookup c with
      | some (np, F) => if ms.length + 1 = np ∧ fs.lookup m = none then (mArgs ms h.choose_spec.choose S1).bind fun vs S2 => F (.r i :: vs) S2 else .bad
      | none => .bad)
    | none => .bad) Q) I (by
      obtain ⟨S, r, er, q⟩ := h.choose_spec.choose_spec
      exact ⟨_, _, S, r, er, okE.bind q fun g H1 w S1 v X1 r1 q1 h1 => ⟨g, S1, w, r1, X1.envR er, q1, h1⟩⟩)
  generalize h.choose_spec.choose = e at run
  refine PySem.W.methodCall_KW (pl := pl) (thn run fun u s1 ⟨x, H1, I1, rx, g, S1, w, r1, er1, q1, h1⟩ => ?_) ht
  cases e1 : objAt S1 w with
  | none => simp only [e1] at h1; exact False.elim h1
  | some p =>
    obtain ⟨i, c, fs⟩ := p
    simp only [e1] at h1
    obtain ⟨rfl, a, dx, ys, rfl, hi, hA, dk⟩ := obj_rep r1 q1 e1
    cases e2 : tab.lookup c with
    | none => simp only [e2] at h1; exact False.elim h1
    | some q =>
      obtain ⟨np, F⟩ := q
      simp only [e2] at h1
      split at h1
      case isFalse => exact False.elim h1
      rename_i hc
      obtain ⟨cl, f, fd, ps, k1, k2, k3⟩ := hT.ok c np F e2
      obtain rfl : u = Value.ref a := rx
      refine getmeth_ok I1 hA cl k1 ((repK_look dk).2 hc.2) ?_
      have ht2 : tA X.K (cAof X.K) W ms σ H1 (fun vs H2 => spF X.K (cAof X.K) np F (.ref a :: vs) H2 Q (WE W σ)) := by
        refine ⟨g, e, S1, r1, er1, tA_len (okA.bind h1 fun g2 H2 ws S2 vs X2 r2 q2 h2 hlen => ?_)⟩
        exact meth_call r2 (X2.up i a hi) q2 (by rw [hlen]; exact hc.1) h2
      refine PySem.W.callWith_K (first := [.ref a]) (h₀ := X.base) I.ok.mod.kin k1.kp (thn (ha.run pos pins s1 σ H1 _ I1 ht2) fun us s2 ⟨vs, H2, I2, r, q3⟩ => ⟨I2.kIn, ?_⟩) he hpl
      have q4 : spF X.K (cAof X.K) np F ((.ref a :: vs) ++ []) H2 Q (WE W σ) := by rw [List.append_nil]; exact q3
      exact run_fnSD (us := .ref a :: us) (vs := .ref a :: vs) (dvs := []) (ds := []) k2 hr k3 .nil (passAt tk σ) I2 (.cons rfl r) q4⟩
theorem e_meth0 {k : Nat} {m : Str} {tab : List (Nat × Nat × Fn)} {o : Expr} {mo : M} {apos pos : Pos} {pl : Sem Bool} (hT : MethF X.prog X.w X.K X.mg X.base k m tab) (hr : Room k X.A) (tk : Takes X W) (ho : PE X o (tE X.K (cAof X.K) W mo))
    (ht : eval (.Call (.Attribute o m apos) [] [] pos) X.env = (eval o X.env >>= fun ov => standAt apos.atName >>= fun _ => holding [ov] (getMethod ov m pl) >>= fun q => callWith pos q.1 q.2 (backTo pos (starEach [] X.env)) (backToKw pos (keywordEach [] X.env))) := by rfl) :
    PE X (.Call (.Attribute o m apos) [] [] pos) (tE X.K (cAof X.K) W (mMeth m tab mo [])) := ⟨fun pins s σ H Q I h => by
  have run := ho.run pins s σ H (fun x H1 => ∃ g S1 w, Rel X.K (cAof X.K) g H1 S1 ∧ RepW X.K (cAof X.K) g H1 w x ∧ okE X.K (cAof X.K) W g σ H1 (match objAt S1 w with
    | some (i, c, fs) => (match tab.lookup c with
      | some (np, F) => if ([] : List M).length + 1 = np ∧ fs.lookup m = none then F (.r i :: []) S1 else .bad
      | none => .bad)
    | none => .bad) Q) I (by
      obtain ⟨g, e, S, r, er, q⟩ := h
      exact ⟨_, _, S, r, er, okE.bind q fun g H1 w S1 v X1 r1 q1 h1 => ⟨g, S1, w, r1, q1, h1⟩⟩)
  refine PySem.W.methodCall_KW (pl := pl) (thn run fun u s1 ⟨x, H1, I1, rx, g, S1, w, r1, q1, h1⟩ => ?_) ht
  cases e1 : objAt S1 w with
  | none => simp only [e1] at h1; exact False.elim h1
  | some p =>
    obtain ⟨i, c, fs⟩ := p
    simp only [e1] at h1
    obtain ⟨rfl, a, dx, ys, rfl, hi, hA, dk⟩ := obj_rep r1 q1 e1
    cases e2 : tab.lookup c with
    | none => simp only [e2] at h1; exact False.elim h1
    | some q =>
      obtain ⟨np, F⟩ := q
      simp only [e2] at h1
      split at h1
      case isFalse => exact False.elim h1
      rename_i hc
      obtain ⟨cl, f, fd, ps, k1, k2, k3⟩ := hT.ok c np F e2
      obtain rfl : u = Value.ref a := rx
      refine getmeth_ok I1 hA cl k1 ((repK_look dk).2 hc.2) ?_
      have q4 : spF X.K (cAof X.K) np F ([.ref a] ++ []) H1 Q (WE W σ) := meth_call (vs := []) r1 hi (repWs_nil.mpr rfl) hc.1 h1
      exact PySem.W.callWith_K0 (first := [.ref a]) I1.kIn k1.kp (run_fnSD (us := [.ref a]) (vs := [.ref a]) (dvs := []) (ds := []) k2 hr k3 .nil (passAt tk σ) I1 (.cons rfl .nil) q4)⟩
end
section
variable {fa : List He.Fa} {fn : List He.DefD} {tb : List Tb} {K : PySem.W.Frag} {mg : Str → Option Value} {P : Program} {w : World} {base : Heap}
theorem Tx.clsO (T : Tx fa fn tb K mg w) (i : Nat) {x : Str} {c : Nat} (h : fa[i]? = some (.cls x) := by rfl) (hx : clsN c = x := by rfl) : Cls K (cAof K c) := by
  unfold cAof
  rw [hx]
  exact He.cls_ok (T.c.fact i h)
theorem Tx.noat (T : Tx fa fn tb K mg w) (i : Nat) {x f : Str} {c : Nat} (h : fa[i]? = some (.noat x f) := by rfl) (hx : clsN c = x := by rfl) : NoAttr K (cAof K c) f := by
  unfold cAof
  rw [hx]
  exact He.noat_ok (T.c.fact i h)
theorem Tx.fnO (T : Tx fa fn tb K mg w) (i : Nat) {x m : Str} {d : He.DefD} {k np : Nat} {F : Fn} {ps : List Str} (h : fn[i]? = some d) (hat : d.at_ = (x, some m)) (h0 : d.dfl = []) (h1 : d.kwd = [])
    (hb : ∀ (kV doc pm : Value) (an : Option Addr) (cdv ct : Value) (us : List Value), us.length = ps.length → bindArgs (PySem.W.fnOf d.name d.qual d.params d.body d.scope .none kV doc pm an cdv ct) ⟨us, []⟩ = pure (ps.zip us))
    (ok : ∀ (a : Addr) (fd : FuncData), FunD K d.name d.qual d.params d.body d.scope [] [] a fd → FnOk P w K mg base (L2.CX P w) k a fd ps (spF K (cAof K) np F)) : ∃ fd, FnOk P w K mg base (L2.CX P w) k (He.ma K (He.ga K x) m) fd ps (spF K (cAof K) np F) ∧ Binds K fd ps [] := by
  obtain ⟨fd, Fd⟩ := T.c.def_ i h
  have e0 : d.dvs K = [] := by unfold He.DefD.dvs; rw [h0]; rfl
  have e1 : d.kws K = [] := by unfold He.DefD.kws; rw [h1]; rfl
  rw [e0, e1] at Fd
  have ea : He.fAd K d.at_ = He.ma K (He.ga K x) m := by rw [hat]; rfl
  rw [ea] at Fd
  exact ⟨fd, ok _ _ Fd, Fd.bindsN hb⟩
theorem Tx.methO (T : Tx fa fn tb K mg w) (i jc jm : Nat) {x m : Str} {c : Nat} {d : He.DefD} {k np : Nat} {F : Fn} {ps : List Str} (h : fn[i]? = some d) (hat : d.at_ = (x, some m)) (h0 : d.dfl = []) (h1 : d.kwd = [])
    (hb : ∀ (kV doc pm : Value) (an : Option Addr) (cdv ct : Value) (us : List Value), us.length = ps.length → bindArgs (PySem.W.fnOf d.name d.qual d.params d.body d.scope .none kV doc pm an cdv ct) ⟨us, []⟩ = pure (ps.zip us))
    (ok : ∀ (a : Addr) (fd : FuncData), FunD K d.name d.qual d.params d.body d.scope [] [] a fd → FnOk P w K mg base (L2.CX P w) k a fd ps (spF K (cAof K) np F))
    (hc : fa[jc]? = some (.cls x) := by rfl) (hm : fa[jm]? = some (.meth x m) := by rfl) (hx : clsN c = x := by rfl) : MethOk P w K mg base c k np m F := by
  obtain ⟨fd, k1, k2⟩ := T.fnO i h hat h0 h1 hb ok
  refine ⟨T.clsO jc hc hx, _, fd, ps, ?_, k1, k2⟩
  unfold cAof
  rw [hx]
  exact He.meth_ok (T.c.fact jm hm)
theorem Tx.makeO (T : Tx fa fn tb K mg w) (i jg jm : Nat) {x : Str} {c : Nat} {d : He.DefD} {k np : Nat} {F : Fn} {ps : List Str} (h : fn[i]? = some d) (hat : d.at_ = (x, some ("__init__" : Str))) (h0 : d.dfl = []) (h1 : d.kwd = [])
    (hb : ∀ (kV doc pm : Value) (an : Option Addr) (cdv ct : Value) (us : List Value), us.length = ps.length → bindArgs (PySem.W.fnOf d.name d.qual d.params d.body d.scope .none kV doc pm an cdv ct) ⟨us, []⟩ = pure (ps.zip us))
    (ok : ∀ (a : Addr) (fd : FuncData), FunD K d.name d.qual d.params d.body d.scope [] [] a fd → FnOk P w K mg base (L2.CX P w) k a fd ps (spF K (cAof K) np F))
    (hg : fa[jg]? = some (.glo x) := by rfl) (hm : fa[jm]? = some (.mkr x) := by rfl) (hx : clsN c = x := by rfl) : MakeOk P w K mg base c k np x F := by
  obtain ⟨fd, k1, k2⟩ := T.fnO i h hat h0 h1 hb ok
  refine ⟨_, fd, ps, ?_, k1, ?_, k2⟩
  · unfold cAof
    rw [hx]
    exact He.mkr_ok (T.c.fact jm hm)
  · unfold cAof
    rw [hx]
    exact T.glo jg hg
end
end PV

/-! isinstance with a tuple of classes. -/
namespace PV
open PySem L2 PySem.Spec PyProof.Rows
def tCL (cs : List V) : TA := fun _ H Q => Q cs H
structure ClL (X : Cx) (bs : List Expr) (cs : List V) (us : List Value) : Prop where
  pa : PA X bs (tCL cs)
  cl : Paired ClsV cs us
theorem cl_nil {X : Cx} : ClL X [] [] [] := ⟨pa_nil, .nil⟩
theorem cl_cons {X : Cx} {b : Expr} {bs : List Expr} {c : V} {u : Value} {cs : List V} {us : List Value} (hb : PE X b (tC c)) (hk : ClsV c u) (h : ClL X bs cs us) (hs : starEach (b :: bs) X.env = (false, eval b X.env) :: starEach bs X.env := by rfl) : ClL X (b :: bs) (c :: cs) (u :: us) :=
  ⟨pa_cons hb h.pa hs, .cons hk h.cl⟩
def rIsxT (K : PySem.W.Frag) : List V → Hp → VK → Prop := fun xs H Q => ∃ (a C tp : Addr) (d : Option Addr) (n : Option Int) (cs : List V) (us : List Value) (b : Bool), xs = [.ref a, .ref tp] ∧ H tp = some (.tup cs) ∧ Paired ClsV cs us ∧ ExAt H a C d ∧ ExD H n d ∧ xkB K C = true ∧ PySem.W.kitAny K (.ref C) us = some b ∧ Q (.bl b) H
theorem call_isxT {X : Cx} : CallR X (.builtin "isinstance") (rIsxT X.K) := by
  intro pins s σ H xs us Q I r h
  obtain ⟨a, C, tp, d, n, cs, ws, b, rfl, hT, k, ha, hx, hc, e, q⟩ := h
  obtain ⟨u1, u2, rfl, r1, r2⟩ := vals2 r
  cases (show u2 = Value.ref tp from r2)
  cases (show u1 = Value.ref a from r1)
  obtain ⟨⟨oe, vs, h1, hz, hd⟩, _, _⟩ := I.hok a _ ha
  have nc : PySem.W.notCls oe = true := by unfold PySem.W.notCls; rw [hd]
  have p : ∃ od, PySem.W.InstAt s.heap a oe C od := by
    cases n with
    | none =>
      have hx' : d = none := hx
      subst hx'
      exact ⟨none, h1, hz.1, nc, by rw [hz.2]; trivial⟩
    | some m =>
      obtain ⟨dx, rfl, e3⟩ := hx
      cases g : s.heap.get? dx with
      | none =>
        have z := I.hok.gone g
        rw [e3] at z
        cases z
      | some o => exact ⟨some o, h1, hz.1, nc, by rw [hz.2]; exact g⟩
  obtain ⟨od, p⟩ := p
  obtain ⟨_, its, rv, o, g1, g2, m, g3⟩ := (show ObjOk X.prog X.w H s.heap tp (.tup cs) from I.hok tp _ hT)
  have e3 := ClsV.all k rv
  subst e3
  obtain ⟨oc, od2, dt, sl⟩ := o
  simp only at g2 g3
  subst g2 g3
  exact PySem.W.kia_tup (kit_exc hc) I.kIn p g1 e (fun z => nomatch z) fun tk => ⟨.bl b, H, I.tok tk, rfl, q⟩
section
variable {X : Cx} {cA : Nat → Addr} {W : WX}
theorem e_isxT {sub : Nat → Option Bool} {a : Expr} {bs : List Expr} {m : M} {cs : List V} {us : List Value} {k2 : Nat} {p pos p2 : Pos} (hg : Gl X "isinstance") (hm : X.mg "isinstance" = none) (ha : PE X a (tE X.K cA W m)) (hb : ClL X bs cs us)
    (hsub : ∀ k b, sub k = some b → xkB X.K (cA k) = true ∧ PySem.W.kitAny X.K (.ref (cA k)) us = some b) (hl : Nat.ble cs.length sizeLine = true := by rfl) (hs : starEach (a :: [.Tuple bs k2 p2]) X.env = (false, eval a X.env) :: starEach [.Tuple bs k2 p2] X.env := by rfl)
    (hs2 : starEach (.Tuple bs k2 p2 :: []) X.env = (false, eval (.Tuple bs k2 p2) X.env) :: starEach [] X.env := by rfl) (hpl : (backTo pos (starEach [.Tuple bs k2 p2] X.env)).any (·.1) = false := by rfl) : PE X (.Call (.Name "isinstance" p) [a, .Tuple bs k2 p2] [] pos) (tE X.K cA W (m1 (isxV sub) m)) :=
  pe_le (pe_callB call_isxT hg hm boot_isinstance (pa_cons ha (pa_cons (pe_tup hb.pa) pa_nil hs2) hs) (by decide) (by decide) hs hpl) fun σ H Q h => by
    obtain ⟨f, e, S, r, er, q⟩ := h
    refine ⟨f, e, S, r, er, okE.bind q fun g H1 w S1 v X1 r1 q1 h1 => ?_⟩
    unfold isxV at h1
    split at h1
    · rename_i k n
      cases hk2 : sub k with
      | none => rw [hk2] at h1; exact False.elim h1
      | some b =>
        rw [hk2] at h1
        refine ⟨Nat.le_of_ble_eq_true hl, fun tp hp => ?_⟩
        have X2 : Ext g H1 g (upd H1 tp (.tup cs)) := Ext.laid hp
        obtain ⟨x, d, rfl, h2, h3⟩ := repW_x.mp (X2.repW q1)
        obtain ⟨g1, g2⟩ := hsub k b hk2
        exact ⟨x, cA k, tp, d, n, cs, us, b, rfl, upd_same, hb.cl, h2, h3, g1, g2, h1 g _ _ X2 (r1.laid hp) (repW_p.mpr (repD_bool.mpr rfl))⟩
    · exact False.elim h1
end
end PV

/-! Defs of two parameters, the second with a default. -/
namespace PV
open PySem L2 PySem.Spec PyProof.Rows
structure Def2Ok (P : Program) (w : World) (K : PySem.W.Frag) (mg : Str → Option Value) (base : Heap) (cA : Nat → Addr) (x : Str) (k : Nat) (F : Fn) (i : Int) (kw : Str) : Prop where
  ex : ∃ (a : Addr) (fd : FuncData) (ps : List Str), FnOk P w K mg base (L2.CX P w) k a fd ps (spF K cA 2 F) ∧ mg x = some (.ref a) ∧ PySem.W.keepIn K (.ref a) = true ∧ Binds K fd ps [] ∧ (∃ ds, Vals [V.int i] ds ∧ Binds K fd ps ds) ∧
    KBn K fd ps 1 [kw] (fun us ws => us ++ ws) (fun vs zs => vs ++ zs)
theorem Def2Ok.all {P : Program} {w : World} {K : PySem.W.Frag} {mg : Str → Option Value} {base : Heap} {cA : Nat → Addr} {x kw : Str} {k : Nat} {F : Fn} {i : Int} (d : Def2Ok P w K mg base cA x k F i kw) : DefOk P w K mg base cA x k 2 F := by
  obtain ⟨a, fd, ps, h1, h2, h3, h4, _⟩ := d.ex
  exact ⟨a, fd, ps, h1, h2, h3, h4⟩
section
variable {fa : List He.Fa} {fn : List He.DefD} {tb : List Tb} {K : PySem.W.Frag} {mg : Str → Option Value} {P : Program} {w : World} {base : Heap} {cA : Nat → Addr}
theorem Tx.def2Ok (T : Tx fa fn tb K mg w) (n j : Nat) {x kw : Str} {i : Int} {d : He.DefD} {k : Nat} {F : Fn} {ps : List Str} (h : fn[n]? = some d) (hj : fa[j]? = some (.glo x)) (hat : d.at_ = (x, none)) (h0 : d.dfl = [.int i]) (h1 : d.kwd = []) (hps : ps.length = 2)
    (hb : ∀ (T : Addr) (kV doc pm : Value) (an : Option Addr) (cdv ct : Value) (us its : List Value), us.length = 2 → its.length = 1 → ∃ k, bindArgs (PySem.W.fnOf d.name d.qual d.params d.body d.scope (.ref T) kV doc pm an cdv ct) ⟨us, []⟩ = seqItems? (.ref T) >>= k ∧ k (some its.toArray) = pure (ps.zip (us ++ its.drop 1)))
    (hb1 : ∀ (T : Addr) (kV doc pm : Value) (an : Option Addr) (cdv ct : Value) (us its : List Value), us.length = 1 → its.length = 1 → ∃ k, bindArgs (PySem.W.fnOf d.name d.qual d.params d.body d.scope (.ref T) kV doc pm an cdv ct) ⟨us, []⟩ = seqItems? (.ref T) >>= k ∧ k (some its.toArray) = pure (ps.zip (us ++ its.drop 0)))
    (hbk : ∀ (T : Addr) (kV doc pm : Value) (an : Option Addr) (cdv ct : Value) (us ws its : List Value), us.length = 1 → ws.length = 1 → its.length = 1 → ∃ k, bindArgs (PySem.W.fnOf d.name d.qual d.params d.body d.scope (.ref T) kV doc pm an cdv ct) ⟨us, [kw].zip ws⟩ = seqItems? (.ref T) >>= k ∧ k (some its.toArray) = pure (ps.zip (us ++ ws)))
    (ok : ∀ (a : Addr) (fd : FuncData), FunD K d.name d.qual d.params d.body d.scope [.int i] [] a fd → FnOk P w K mg base (L2.CX P w) k a fd ps (spF K cA 2 F)) : Def2Ok P w K mg base cA x k F i kw := by
  obtain ⟨fd, Fd⟩ := T.c.def_ n h
  have e0 : d.dvs K = [.int i] := by unfold He.DefD.dvs; rw [h0]; rfl
  have e1 : d.kws K = [] := by unfold He.DefD.kws; rw [h1]; rfl
  rw [e0, e1] at Fd
  have ea : He.fAd K d.at_ = He.ga K x := by rw [hat]; rfl
  rw [ea] at Fd
  refine ⟨_, fd, ps, ok _ _ Fd, T.glo j hj, Fd.kp, ?_, ?_, ?_⟩
  · obtain ⟨ds, v, b⟩ := Fd.binds1 (ps := ps) 2 1 (by simp) (by simp [hps]) fun T kV doc pm an cdv ct us its l1 l2 => hb T kV doc pm an cdv ct us its l1 l2
    have : ds = [] := by cases v; rfl
    rwa [this] at b
  · exact Fd.binds1 (ps := ps) 1 0 (by simp) (by simp [hps]) fun T kV doc pm an cdv ct us its l1 l2 => hb1 T kV doc pm an cdv ct us its l1 l2
  · obtain ⟨oc, od, dV, kV, doc, pm, an, cdv, ct, osl, rfl, lk, hcd, hD, hK⟩ := Fd.ex
    rcases hD with ⟨e, _⟩ | ⟨_, T2, o, its, m, rfl, lT, oT, rT⟩
    · cases e
    · refine ⟨fun s us ws X l1 l2 => ?_, fun r1 r2 => r1.append r2⟩
      obtain ⟨k2, e1, e2⟩ := hbk T2 kV doc pm an cdv ct us ws its l1 l2 rT.length.symm
      refine BindsTo.of_looks fun M => ?_
      rw [e1]
      exact looks_items X lT oT (.of_pure e2)
end
def tCallNS (n m : Nat) (sp : Sp) (gV : List V → List V → List V) (E : L2.St → XK) (t tk : TA) : TE := fun σ H Q => t σ H fun vs H1 => tk σ H1 fun zs H2 => vs.length = n ∧ zs.length = m ∧ sp (gV vs zs) H2 Q (E σ)
section
variable {X : Cx} {CX : CXT} {k n : Nat} {f : Addr} {fd : FuncData} {ps ks : List Str} {sp : Sp} {E : L2.St → XK} {x : Str} {p pos : Pos} {e : Expr} {es : List Expr} {kws : List Keyword} {t tk : TA} {g : List Value → List Value → List Value} {gV : List V → List V → List V}
theorem run_fnNS {pins : List (Addr × Obj)} {σ : L2.St} {H : Hp} {s : Shared} {Q : VK} {us ws : List Value} {vs zs : List V} (F : FnOk X.prog X.w X.K X.mg X.base CX k f fd ps sp) (hr : Room k X.A) (hb : KBn X.K fd ps n ks g gV) (hx : PassesAt CX X σ (E σ))
    (I : Inv X pins σ H s) (r : Vals vs us) (rz : Vals zs ws) (l1 : vs.length = n) (l2 : zs.length = ks.length) (h : sp (gV vs zs) H Q (E σ)) : wpAny (model X.prog X.w) X.A (call (.ref f) us (ks.zip ws)) (EP X pins σ Q) X.xe s := by
  have r2 := hb.rel r rz
  refine wpAny_call (codeAny_mono (F.run X.A X.stack s H ⟨us, ks.zip ws⟩ (g us ws) (gV vs zs) Q (E σ) hr I.env0 (hb.to s us ws I.kIn (r.length.symm.trans l1) (rz.length.symm.trans l2)) r2 h) fun r s' hq => ?_)
  cases r with
  | error e => exact hx pins H s e s' I hq
  | ok fl =>
    cases fl with
    | ret u => exact I.after hq
    | next => exact False.elim hq
    | brk => exact False.elim hq
    | cont => exact False.elim hq
theorem pe_callNS (F : FnOk X.prog X.w X.K X.mg X.base CX k f fd ps sp) (hr : Room k X.A) (hg : Gl X x) (hm : X.mg x = some (.ref f)) (hk : PySem.W.keepIn X.K (.ref f) = true) (hb : KBn X.K fd ps n ks g gV) (hx : ∀ σ, PassesAt CX X σ (E σ))
    (ha : PA X (e :: es) t) (hkw : PK X kws tk) (hall : (backToKw pos (keywordEach kws X.env)).all (·.1.isSome) = true := by rfl) (hks : (backToKw pos (keywordEach kws X.env)).filterMap (·.1) = ks := by rfl)
    (hdb : (x == ("__debug__" : Str)) = false := by decide) (he : starEach (e :: es) X.env = (false, eval e X.env) :: starEach es X.env := by rfl)
    (hpl : ((backTo pos (starEach (e :: es) X.env)).any (·.1) || (backToKw pos (keywordEach kws X.env)).any (·.1.isNone)) = false := by rfl) :
    PE X (.Call (.Name x p) (e :: es) kws pos) (tCallNS n ks.length sp gV E t tk) := by
  refine ⟨fun pins s σ H Q I h => ?_⟩
  refine wpAny_Call_Name_kw (ld_glob I hg hm ?_ hdb)
  refine PySem.W.callWith_KW (h₀ := X.base) I.ok.mod.kin hk hall (thn (ha.run pos pins s σ H _ I h) fun us s1 ⟨vs, H1, I1, r, q⟩ => ?_) hpl he
  refine thn (hkw.run pos pins s1 σ H1 _ I1 q) fun ws s2 ⟨zs, H2, I2, rz, l1, l2, q2⟩ => ⟨I2.kIn, ?_⟩
  rw [hks]
  exact run_fnNS F hr hb (hx σ) I2 r rz l1 l2 q2
end
section
variable {X : Cx} {cA : Nat → Addr} {W : WX}
/-- f(a, kw = b) -/
theorem e_cdN {x kw : Str} {p pos kpos : Pos} {a b : Expr} {j k : Nat} {i : Int} {F : Fn} {ma mb : M} (d : Def2Ok X.prog X.w X.K X.mg X.base cA x j F i kw) (hr : Room k X.A) (tk : Takes X W) (ha : PE X a (tE X.K cA W ma)) (hb : PE X b (tE X.K cA W mb)) (hle : j ≤ k := by decide) (hg : Gl X x := by rfl)
    (hdb : (x == ("__debug__" : Str)) = false := by decide) (he : starEach [a] X.env = (false, eval a X.env) :: starEach [] X.env := by rfl)
    (hall : (backToKw pos (keywordEach [⟨some kw, b, kpos⟩] X.env)).all (·.1.isSome) = true := by rfl) (hks : (backToKw pos (keywordEach [⟨some kw, b, kpos⟩] X.env)).filterMap (·.1) = [kw] := by rfl)
    (hpl : ((backTo pos (starEach [a] X.env)).any (·.1) || (backToKw pos (keywordEach [⟨some kw, b, kpos⟩] X.env)).any (·.1.isNone)) = false := by rfl) :
    PE X (.Call (.Name x p) [a] [⟨some kw, b, kpos⟩] pos) (tE X.K cA W (mCall F [ma, mb])) := by
  obtain ⟨ad, fd, ps, h1, h2, h3, _, _, h4⟩ := d.ex
  refine pe_le (pe_callNS h1 (hr.mono hle) hg h2 h3 h4 (fun σ => passAt tk σ) (pa_cons ha pa_nil he) (pk_cons hb pk_nil) hall hks hdb he hpl) fun σ H Q h => ?_
  obtain ⟨f, e, S, r, er, q⟩ := h
  have q0 : okE X.K cA W f σ H ((ma e S).bind fun v S1 => ((mb e S1).bind fun u S2 => F [v, u] S2)) Q := by
    have ee : mCall F [ma, mb] e S = ((ma e S).bind fun v S1 => ((mb e S1).bind fun u S2 => F [v, u] S2)) := by
      unfold mCall mArgs
      cases ma e S with
      | ok v S1 =>
        simp only [R.bind]
        unfold mArgs
        cases mb e S1 with
        | ok u S2 => rfl
        | _ => rfl
      | _ => rfl
    rw [← ee]
    exact q
  refine ⟨f, e, S, r, er, okE.bind q0 fun g H1 w1 S1 v X1 r1 q1 k1 => ?_⟩
  refine ⟨g, e, S1, r1, X1.envR er, okE.bind k1 fun g2 H2 w2 S2 v2 X2 r2 q2 k2 => ?_⟩
  refine ⟨rfl, rfl, rfl, g2, S2, [w1, w2], r2, repWs_cons.mpr ⟨_, _, rfl, X2.repW q1, repWs_cons.mpr ⟨_, _, rfl, q2, repWs_nil.mpr rfl⟩⟩, ?_⟩
  cases hf : F [w1, w2] S2 with
  | ok w S3 =>
    rw [hf] at k2
    exact k2
  | exc c n S3 =>
    rw [hf] at k2
    exact k2
  | bad =>
    rw [hf] at k2
    exact k2
/-- f(a), the default behind -/
theorem e_cdD {x kw : Str} {p pos : Pos} {a : Expr} {j k : Nat} {i : Int} {F : Fn} {ma : M} (d : Def2Ok X.prog X.w X.K X.mg X.base cA x j F i kw) (hr : Room k X.A) (tk : Takes X W) (ha : PE X a (tE X.K cA W ma)) (hle : j ≤ k := by decide) (hg : Gl X x := by rfl)
    (hdb : (x == ("__debug__" : Str)) = false := by decide) (he : starEach [a] X.env = (false, eval a X.env) :: starEach [] X.env := by rfl) (hpl : (backTo pos (starEach [] X.env)).any (·.1) = false := by rfl) :
    PE X (.Call (.Name x p) [a] [] pos) (tE X.K cA W (mCall F [ma, mC (.int i)])) := by
  obtain ⟨ad, fd, ps, h1, h2, h3, _, ⟨ds, h5, h6⟩, _⟩ := d.ex
  have A := e_callD (p := p) (dds := [.int i]) (np := 2) h1 (hr.mono hle) hg h2 h3 h6 h5 (fun H => repDs_cons.mpr ⟨_, _, rfl, repD_int.mpr rfl, repDs_nil.mpr rfl⟩) tk (a_cons ha a_nil he) rfl hdb he hpl
  refine pe_le A fun σ H Q h => ?_
  obtain ⟨f, e, S, r, er, q⟩ := h
  refine ⟨f, e, S, r, er, ?_⟩
  have ee : mCall (fun vs => F (vs ++ List.map Vl.p [.int i])) [ma] e S = mCall F [ma, mC (.int i)] e S := by
    unfold mCall mArgs
    cases ma e S with
    | ok v S1 => rfl
    | _ => rfl
  rw [ee]
  exact q
end
end PV

/-! More meanings. -/
namespace PV
open PySem L2
/-- text.replace(y, z) -/
def replV (y z : Str) (u : Vl) (S : Sto) : R Vl := match u with
  | .p (.str x) => if x.length + (x.length + 1) * z.length ≤ 16777216 then .ok (.p (.str (Txt.replace x y z))) S else .bad
  | _ => .bad
/-- unpacking a list -/
def gLs (gs : List G) (v : Vl) : Env → Sto → R Env := fun e S => match asL S v with
  | some vs => if vs.length = gs.length then gAll gs vs e S else .bad
  | none => .bad
/-- x in a dict of the module, x a text -/
def kIn (neg : Bool) (kvs : List (Str × D)) (u : Vl) (S : Sto) : R Vl := match u with
  | .p (.str z) => .ok (.p (.bool (if neg then !(kvs.map (·.1)).contains z else (kvs.map (·.1)).contains z))) S
  | .p (.int _) => .ok (.p (.bool neg)) S
  | _ => .bad
/-- the value at a text that is there -/
def kIx (kvs : List (Str × D)) (u : Vl) (S : Sto) : R Vl := match u with
  | .p (.str z) => (match kvs.lookup z with
    | some d => .ok (.p d) S
    | none => .bad)
  | _ => .bad
/-- how many unlike texts stand among the first i -/
def cntN (xs : List Str) : Nat → Nat
  | 0 => 0
  | i + 1 => cntN xs i + (if (xs.take i).any (· == xs.getD i Str.empty) = true then 0 else 1)
/-- len(set(u)), u a list of texts -/
def lenSet (u : Vl) (S : Sto) : R Vl := match u with
  | .p (.list ds) => (match strsOf ds with
    | some xs => if xs.length < 1000 then .ok (.p (.int (cntN xs xs.length : Nat))) S else .bad
    | none => .bad)
  | _ => .bad
end PV

/-! str.replace of written texts: statements behind which a token is out. -/
namespace PV
open PySem L2 PySem.Spec PyProof.Rows CwR
section
variable {X : Cx} {cA : Nat → Addr} {W : WX} {ks : List Nat} {a b : MS}
theorem pst_le {st : Stmt} {t t' : TS} (h : PST X st t) (k : ∀ D σ H, t' D σ H → t D σ H) : PST X st t' := fun pins s σ H D h0 I q => h pins s σ H D h0 I (k D σ H q)
theorem psst_le {st : List Stmt} {t t' : TS} (h : PSsT X st t) (k : ∀ D σ H, t' D σ H → t D σ H) : PSsT X st t' := fun pins s σ H D h0 I q => h pins s σ H D h0 I (k D σ H q)
theorem pet_le {e : Expr} {t t' : TE} (h : PET X e t) (k : ∀ σ H Q, t' σ H Q → t σ H Q) : PET X e t' := fun pins s σ H Q h0 I q => h pins s σ H Q h0 I (k σ H Q q)
theorem st_cons {st : Stmt} {rest : List Stmt} (h1 : PST X st (tS X.K cA W a)) (h2 : PSsT X rest (tS X.K cA W b)) : PSsT X (st :: rest) (tS X.K cA W (sSeq a b)) := psst_le (psst_cons h1 h2) fun D σ H h => by
  obtain ⟨f, e, S, r, er, q⟩ := h
  exact ⟨f, e, S, r, er, okS.seq q fun g H1 e1 S1 σ1 X1 r1 er1 h1 => ⟨g, e1, S1, r1, er1, h1⟩⟩
theorem psst_oneT {st : Stmt} {t : TS} (h1 : PST X st t) : PSsT X [st] t := psst_one h1
theorem st_nil : PSsT X [] (tS X.K cA W sNop) := PSsT.of s_nil
theorem st_if {c : Expr} {x y : List Stmt} {mc : M} {pos : Pos} (hc : PT X c (tT X.K cA W mc)) (ha : PSsT X x (tS X.K cA W a)) (hb : PSsT X y (tS X.K cA W b)) : PST X (.If c x y pos) (tS X.K cA W (sIf mc a b)) := pst_le (pst_if hc ha hb) fun D σ H h => by
  obtain ⟨f, e, S, r, er, q⟩ := h
  refine ⟨f, e, S, r, er, okS.val er q fun g H1 w S1 v X1 r1 q1 er1 h1 => ?_⟩
  obtain ⟨⟨b, rfl⟩, ht, hf⟩ := onO_cases h1
  refine ⟨b, repD_bool.mp (repW_p.mp q1), ?_⟩
  cases b with
  | true =>
    rw [if_pos rfl]
    exact ⟨g, e, S1, r1, er1, ht rfl⟩
  | false =>
    rw [if_neg (by decide)]
    exact ⟨g, e, S1, r1, er1, hf rfl⟩
theorem st_ret {e : Expr} {m : M} {pos : Pos} (he : PET X e (tE X.K cA W m)) : PST X (.Return (some e) pos) (tS X.K cA W (sRet m)) := pst_le (pst_ret he) fun D σ H h => by
  obtain ⟨f, e, S, r, er, q⟩ := h
  exact ⟨f, e, S, r, er, okS.val er q fun g H1 w S1 v X1 r1 q1 er1 h1 => h1 g H1 v Ext.refl r1 q1⟩
theorem st_kl {st : Stmt} (h : PST X st (tS X.K cA W b)) : PST X st (tS X.K cA W (sKl ks b)) := pst_le h fun D σ H q => by
  obtain ⟨f, e, S, r, er, q⟩ := q
  exact ⟨f, e, S, r, er, okS.kl q⟩
/-- the first statement stores a written text -/
theorem s_strT {i j : Nat} {x c : Str} {cpos pos' pos : Pos} {rest : List Stmt} (hN : X.N.Nodup) (hi : X.N[i]? = some x) (hx : Loc X.env.scope x) (h2 : PSsT X rest (tS X.K cA W b))
    (hs : swapsWith (.Constant (.str c) j cpos) (some (.Name x pos')) pos.line X.env = pure false := by rfl) (hf : X.fn x = true ∨ X.env.scope.names.lookup x = some .local := by first | exact .inl rfl | exact .inr rfl | assumption) :
    PSs X (.Assign [.Name x pos'] (.Constant (.str c) j cpos) pos :: rest) (tS X.K cA W (sSeq (sAsg (gNm i) (mC (.str c))) b)) := pss_le (pss_str hN hi hx h2 hs hf) fun D σ H h => by
  obtain ⟨f, e, S, r, er, q⟩ := h
  exact ⟨f, e.set i (some (.p (.str c))), S, r, er.set i (repW_p.mpr (repD_str.mpr rfl)), q⟩
theorem g_ls {es : List Expr} {k : Nat} {ms : List G} {pos : Pos} (hc : X.calm = true) (h : PGs X es (tGs X.K cA ms)) (hl : (assignEach es X.env).length = ms.length := by rfl) (hst : (assignEach es X.env).findIdx? (·.1) = none := by rfl) :
    PG X (.Tuple es k pos) (tG X.K cA (gLs ms)) := pg_le (pg_lst hc h hl hst) fun v σ H Q h => by
  obtain ⟨f, e, S, w, r, er, rw', q⟩ := h
  unfold gLs at q
  split at q
  · rename_i vs e1
    split at q
    · rename_i e2
      obtain ⟨a, xs, rfl, l, dx⟩ := asL_rep r rw' e1
      exact ⟨a, xs, rfl, l, by rw [repWs_len dx]; exact e2, f, e, S, vs, r, er, dx, q⟩
    · exact False.elim q
  · exact False.elim q
/-! expressions -/
theorem et_ix {x y : Expr} {ma mb : M} {pos : Pos} (ha : PET X x (tE X.K cA W ma)) (hb : PE X y (tE X.K cA W mb)) (hs : PlainIx y := by exact fun _ _ => rfl) : PET X (.Subscript x y pos) (tE X.K cA W (m2 ixV ma mb)) := by
  intro pins s σ H Q h0 I h
  have h' : tOp (rO2 X.K cA ixV) (tE X.K cA W ma) (tE X.K cA W mb) σ H Q := w_op2 nox_ix h
  refine Subscript_ (thn (ha pins s σ H _ h0 I h') fun v s1 ⟨x, H1, I1, r1, q1⟩ => ?_)
  refine thn (hb.run pins s1 σ H1 _ I1 q1) fun u s2 ⟨y, H2, I2, r2, q2⟩ => ?_
  exact ix_V _ _ pins s2 σ H2 x y v u Q I2 r1 r2 q2 (hs _ _)
theorem at_nil : PAT X [] (tA X.K cA W []) := fun pos pins s σ H Q h0 I h => a_nil.run pos pins s σ H Q I h
theorem acons_le {m : M} {ms : List M} {σ : L2.St} {H : Hp} {Q : List V → Hp → Prop} (h : tA X.K cA W (m :: ms) σ H Q) : tCons (tE X.K cA W m) (tA X.K cA W ms) σ H Q := by
  obtain ⟨f, e, S, r, er, q⟩ := h
  refine ⟨f, e, S, r, er, ?_⟩
  have q' : okA X.K cA W f σ H ((m e S).bind fun v S1 => (mArgs ms e S1).bind fun vs S2 => .ok (v :: vs) S2) Q := q
  cases hm : m e S with
  | ok w S1 =>
    rw [hm] at q'
    intro g H1 v X1 r1 q1
    refine ⟨g, e, S1, r1, X1.envR er, ?_⟩
    have q2 : okA X.K cA W f σ H ((mArgs ms e S1).bind fun vs S2 => .ok (w :: vs) S2) Q := q'
    cases hms : mArgs ms e S1 with
    | ok ws S2 =>
      rw [hms] at q2
      intro g2 H2 vs X2 r2 q3
      exact q2 g2 H2 (v :: vs) (X1.trans X2) r2 (repWs_cons.mpr ⟨v, vs, rfl, X2.repW q1, q3⟩)
    | exc c n S2 =>
      rw [hms] at q2
      exact fun g2 H2 d X2 => q2 g2 H2 d (X1.trans X2)
    | bad =>
      rw [hms] at q2
      exact q2
  | exc c n S1 =>
    rw [hm] at q'
    exact q'
  | bad =>
    rw [hm] at q'
    exact q'
theorem at_cons {e : Expr} {es : List Expr} {m : M} {ms : List M} (ha : PET X e (tE X.K cA W m)) (hr : PAT X es (tA X.K cA W ms)) (hs : starEach (e :: es) X.env = (false, eval e X.env) :: starEach es X.env := by rfl) : PAT X (e :: es) (tA X.K cA W (m :: ms)) :=
  fun pos pins s σ H Q h0 I h => pat_cons ha hr hs pos pins s σ H Q h0 I (acons_le h)
theorem et_lstM {es : List Expr} {ms : List M} {pos : Pos} (ha : PAT X es (tA X.K cA W ms)) : PET X (.List es pos) (tE X.K cA W (mLstM ms)) := pet_le (pet_lst ha) fun σ H Q h => by
  obtain ⟨f, e, S, r, er, q⟩ := h
  refine ⟨f, e, S, r, er, okA.bind q fun g H1 ws S1 vs X1 r1 q1 h1 => ?_⟩
  have h2 := okO.of h1 (nox_lstM _ _)
  exact ⟨okO.newMl q1 h2, fun p hp => (okO.newM r1 q1 h2 hp).2⟩
theorem et_repl {o : Expr} {m : M} {y z : Str} {j k : Nat} {c0 c1 apos pos : Pos} (ho : PE X o (tE X.K cA W m)) (hyz : (y == z) = false := by decide)
    (hst : starEach [.Constant (.str y) j c0, .Constant (.str z) k c1] X.env = [(false, eval (.Constant (.str y) j c0) X.env), (false, eval (.Constant (.str z) k c1) X.env)] := by rfl)
    (hbase : attributeBase o "replace" X.env (eval o X.env) = eval o X.env := by rfl) (hline : (apos.endLine == pos.line) = true := by rfl) :
    PET X (.Call (.Attribute o "replace" apos) [.Constant (.str y) j c0, .Constant (.str z) k c1] [] pos) (tE X.K cA W (m1 (replV y z) m)) := pet_le (pet_replC ho hyz hst hbase hline) fun σ H Q h => by
  obtain ⟨f, e, S, r, er, q⟩ := h
  refine ⟨f, e, S, r, er, okE.bind q fun g H1 w S1 v X1 r1 q1 h1 => ?_⟩
  unfold replV at h1
  split at h1
  · rename_i x
    split at h1
    · rename_i hl
      exact ⟨x, repD_str.mp (repW_p.mp q1), hl, h1 g H1 _ Ext.refl r1 (repW_p.mpr (repD_str.mpr rfl))⟩
    · exact False.elim h1
  · exact False.elim h1
end
end PV

/-! len(set(xs)), xs a list of texts. -/
namespace PV
open PySem L2 PySem.Spec PyProof.Rows
theorem cntN_le (xs : List Str) : ∀ i, cntN xs i ≤ i
  | 0 => Nat.le_refl _
  | i + 1 => by
    have := cntN_le xs i
    unfold cntN
    split <;> omega
section
variable {prog : Program} {w : World} {A : Around} {R : Result → Shared → Prop} {I : Addr} {fp wr : List Addr} {G : Array GenState → Array GenState → Prop} {n : Nat} {P : Nat → Value → Prop} {St : Nat → Shared → Prop}
/-- the set's members are the texts met so far, their number counted -/
theorem loopN (W : WalksS prog w A.in1 I fp wr G n P St) (S : Addr) (hSf : S ∉ fp) (xs : List Str) (hsz : xs.length = n) (hb : n + 1 < scanBound) (hval : ∀ i v, P i v → ∃ t, v = .str (xs.getD i Str.empty) t) :
    ∀ (k i : Nat) (s : Shared), n - i = k → i ≤ n → St i s → s.heap.SetOf (PySem.strKind prog w) S (fun z => (xs.take i).any (· == z)) (cntN xs i) →
      (∀ s', Moved (S :: wr) G s s' → s'.heap.SetOf (PySem.strKind prog w) S (fun z => (xs.take n).any (· == z)) (cntN xs n) → R (.ok (.ret .none)) s') →
      codeAny (model prog w) A (.builtin "set.update.loop" ⟨[.ref S, .ref I], []⟩) R s := by
  have hSw : S ∉ wr := fun h => hSf (W.sub _ h)
  have up : ∀ b ∈ wr, b ∈ S :: wr := fun b hb => List.mem_cons_of_mem _ hb
  intro k
  induction k with
  | zero =>
    intro i s hk hi hst hS fin
    have e : i = n := by omega
    subst e
    refine codeAny_builtin PyProof.Rows.F.entry_set_update_loop ?_
    rw [Around.under_plainId PyProof.Rows.F.plain_set_update_loop _]
    show wpAny _ A.in1 (pyNext (.ref I) >>= _) _ _ s
    refine wpAny_bind (W.done s _ _ hst fun s' hm => ?_)
    show wpAny _ A.in1 (ret Value.none) _ _ s'
    obtain ⟨o, es, ep, t, ho, rest⟩ := hS
    exact wpAny_pure (fin s' (hm.mono up) ⟨o, es, ep, t, hm.heap S _ hSw ho, rest⟩)
  | succ k ih =>
    intro i s hk hi hst hS fin
    have hlt : i < n := by omega
    have hc := cntN_le xs i
    refine codeAny_builtin PyProof.Rows.F.entry_set_update_loop ?_
    rw [Around.under_plainId PyProof.Rows.F.plain_set_update_loop _]
    show wpAny _ A.in1 (pyNext (.ref I) >>= _) _ _ s
    refine wpAny_bind (W.item i s _ _ hlt hst fun v s' hP hst' hm => ?_)
    obtain ⟨t, rfl⟩ := hval i v hP
    have hS' : s'.heap.SetOf (PySem.strKind prog w) S (fun z => (xs.take i).any (· == z)) (cntN xs i) := by
      obtain ⟨o, es, ep, tb, ho, rest⟩ := hS
      exact ⟨o, es, ep, tb, hm.heap S _ hSw ho, rest⟩
    show wpAny _ A.in1 (holding [Value.str (xs.getD i Str.empty) t] (setAdd S (.str (xs.getD i Str.empty) t)) >>= _) _ _ s'
    refine wpAny_bind (wpAny_holding ?_)
    unfold setAdd
    refine wpAny_holding ?_
    refine wpAny_bind ((PySem.strKind prog w).pyHash (k := xs.getD i Str.empty) (strKind_is _ _ _ _) ?_)
    refine wpAny_setAddHashed_of (knd := PySem.strKind prog w) (s := { s' with toks := s'.toks + 1 }) (strKind_is _ _ _ _) rfl hS' (by omega) fun h' same hS2 => ?_
    have hS3 : h'.SetOf (PySem.strKind prog w) S (fun z => (xs.take (i + 1)).any (· == z)) (cntN xs (i + 1)) := by
      refine SetOf_congr hS2 (fun z => ?_) ?_
      · have hx : xs[i]? = some (xs.getD i Str.empty) := by
          rw [List.getD_eq_getElem?_getD, List.getElem?_eq_getElem (by omega)] <;> rfl
        show ((xs.take i).any (· == z) || decide (z = xs.getD i Str.empty)) = (xs.take (i + 1)).any (· == z)
        rw [List.take_add_one, hx, List.any_append]
        congr 1
        by_cases e : z = xs.getD i Str.empty
        · rw [← e]; simp
        · have : (xs.getD i Str.empty == z) = false := beq_eq_false_iff_ne.mpr fun y => e y.symm
          rw [decide_eq_false e]
          show _ = [xs.getD i Str.empty].any (· == z)
          rw [List.any_cons, this]
          rfl
      · show _ = cntN xs i + (if (xs.take i).any (· == xs.getD i Str.empty) = true then 0 else 1)
        split <;> rfl
    refine wpAny_pure ⟨plainId_quiet PyProof.Rows.F.plain_set_update_loop _, ih (i + 1) _ (by omega) hlt (W.frame _ s' _ _ hst' (Nat.le_succ _) fun b hb o e => ?_) hS3 fun s'' hm2 hS'' => ?_⟩
    · rw [same.2 b (fun h : b = S => hSf (by rw [← h]; exact hb))]; exact e
    · refine fin s'' (Moved.trans W.gtrans ((hm.mono up).then_heap (Nat.le_succ _) fun b o hb e => ?_) hm2) hS''
      rw [same.2 b (fun h : b = S => hb (by rw [h]; exact List.mem_cons_self))]; exact e
end
section
variable {prog : Program} {w : World} {A : Around} {E : Value → Shared → Prop} {s : Shared}
set_option maxHeartbeats 3200000 in
theorem set_list {l : Addr} {items : Array Value} {xs : List Str} {Q : Value → Shared → Prop} (hh : A.handled = none) (hl : s.heap.IsList l items) (hi : PyProof.Rows.StrsAre items.toList xs) (hn : xs.length < 1000)
    (h : ∀ (h' : Heap) (tk : Nat), h'.SetOf (PySem.strKind prog w) s.heap.objs.size (fun z => (xs.take items.size).any (· == z)) (cntN xs items.size) →
      (∀ b o, b < s.heap.objs.size → s.heap.get? b = some o → h'.get? b = some o) → Q (.ref s.heap.objs.size) { s with heap := h', toks := tk }) :
    wpAny (model prog w) A (call (.type "set") [.ref l]) Q E s := by
  have hsz : xs.length = items.size := by rw [← StrsAre.len_eq hi, Array.length_toList]
  have hlS : l < s.heap.objs.size := by
    obtain ⟨ol, hol, _⟩ := hl
    exact Heap.lt_size hol
  obtain ⟨c, tl, hmro⟩ := PySem.F.called_set.mro
  have hmade := PySem.F.called_set.made
  have hsub := PySem.F.called_set.sub
  refine wpAny_call (codeAny_of_tree ?_)
  show wpAny _ _ (callAny (.type "set") _) _ _ _
  refine wpAny_pure ⟨Code.quiet_builtin _ (by decide +kernel), codeAny_builtin PySem.F.entry_type_call ?_⟩
  rw [Around.under_plain (weight_type_call_type "set" [.ref l] []) rfl]
  have h1 := PySem.F.called_set.notType
  have h2 := PySem.F.called_set.canCreate
  have hct := PySem.F.typeCall_set_1 (.ref l)
  repeat (any_goals (first | assumption | wp_step))
  refine codeAny_mono (code_set_new_1 (.ref l) (E := E) (Q₁ := fun obj s₁ => ∃ led : Bool, obj = .ref s.heap.objs.size ∧ s₁ = { s with heap := s.heap.push { cls := .type "set", dict := none, data := .set #[] 0 (.fresh 0 0 led) } }) fun led => ⟨led, rfl, rfl⟩) fun r s₁ hr => ?_
  match r, hr with
  | .error e, hr => exact hr
  | .ok (.next), hr => exact hr.elim
  | .ok (.brk), hr => exact hr.elim
  | .ok (.cont), hr => exact hr.elim
  | .ok (.ret obj), hr =>
    obtain ⟨led, rfl, rfl⟩ := hr
    have hS : (s.heap.push { cls := .type "set", dict := none, data := .set #[] 0 (.fresh 0 0 led) }).get? s.heap.objs.size = some { cls := .type "set", dict := none, data := .set #[] 0 (.fresh 0 0 led) } := Heap.get?_push_size _ rfl
    have hT : Shared.TypeIs { s with heap := s.heap.push { cls := .type "set", dict := none, data := .set #[] 0 (.fresh 0 0 led) } } (.ref s.heap.objs.size) "set" := ⟨_, hS, rfl⟩
    have hli := PySem.F.called_set.init.lookup
    have hbi := PySem.F.called_set.init.bind (.ref s.heap.objs.size)
    repeat (any_goals (first | assumption | wp_step))
    refine codeAny_mono (codeAny_call_builtin (R := wants (fun r s₂ => r = .none ∧ ∃ h' tk, s₂ = { s with heap := h', toks := tk } ∧
        h'.SetOf (PySem.strKind prog w) s.heap.objs.size (fun z => (xs.take items.size).any (· == z)) (cntN xs items.size) ∧
        (∀ b o, b < s.heap.objs.size → s.heap.get? b = some o → h'.get? b = some o)) E) PySem.F.called_set.init.plain PySem.F.entry_set_init (check_set_init_1 hT ?_)) fun r₂ s₂ hr₂ => ?_
    · obtain ⟨ol, hol, hcl, nl, hdl⟩ := hl
      obtain ⟨ocls, odict, odata, oslots⟩ := ol
      simp only at hcl hdl
      subst hcl; subst hdl
      have hol' : (s.heap.push { cls := .type "set", dict := none, data := .set #[] 0 (.fresh 0 0 led) }).get? l = some { cls := .type "list", dict := odict, data := .seq items nl, slots := oslots } := Heap.get?_push_of_some _ hol
      have hsls := PySem.F.sub_list_set
      have hslf := PySem.F.sub_list_frozenset
      have hne : (Value.type "list" == Value.type "dict") = false := by decide
      have hl1 : (s.heap.push { cls := .type "set", dict := none, data := .set #[] 0 (.fresh 0 0 led) }).IsList l items := ⟨_, hol', rfl, nl, rfl⟩
      unfold Builtin.«set.__init__» noKeywords Builtin.Frozenset.updateFrom
      generalize hPI : pyIter = PI
      wp_walk
      subst hPI
      refine wpAny_pyIter_list hl1 ?_
      refine wpAny_bind (wpAny_runValue ?_)
      have hh3 : A.in1.in1.in1.handled = none := by simp [hh]
      have hneI : l ≠ (s.heap.push { cls := .type "set", dict := none, data := .set #[] 0 (.fresh 0 0 led) }).objs.size := by
        rw [Heap.size_push]; exact Nat.ne_of_lt (Nat.lt_succ_of_lt hlS)
      have hSf : s.heap.objs.size ∉ [(s.heap.push { cls := .type "set", dict := none, data := .set #[] 0 (.fresh 0 0 led) }).objs.size, l] := by
        rw [Heap.size_push]; simp only [List.mem_cons, List.mem_singleton, List.not_mem_nil, or_false, not_or]
        exact ⟨Nat.ne_of_lt (Nat.lt_succ_self _), Nat.ne_of_gt hlS⟩
      have hval : ∀ (i : Nat) (v : Value), items[i]? = some v → ∃ t, v = .str (xs.getD i Str.empty) t := fun i v hv => SS.strs_at hi i v (by rw [Array.getElem?_toList]; exact hv)
      refine loopN ((Walks.list hh3 _ l hneI items).toS) s.heap.objs.size hSf xs hsz (by unfold scanBound; omega) hval (items.size - 0) 0 _ (by omega) (Nat.zero_le _) ⟨⟨_, Heap.get?_push_size _ rfl, rfl, rfl⟩, (hl1.push _)⟩ ?hS0 ?hR
      case hS0 =>
        have hget : ((s.heap.push { cls := .type "set", dict := none, data := .set #[] 0 (.fresh 0 0 led) }).push { cls := .type "list_iterator", data := .fields #[.ref l, .int 0 0] }).get? s.heap.objs.size = some { cls := .type "set", dict := none, data := .set #[] 0 (.fresh 0 0 led) } := Heap.get?_push_of_some _ hS
        exact PyProof.Rows.SetOf_congr ((PyProof.Rows.setObjOf_fresh (knd := PySem.strKind prog w) led).setOf hget (by unfold scanBound; omega)) (fun _ => rfl) rfl
      case hR =>
        intro s' hm hS'
        obtain ⟨h', g', d', tk', os'⟩ := s'
        have eg : g' = s.gens := hm.gens
        have ed : d' = s.drawn := hm.drawn
        have eo : os' = s.os := hm.os
        subst eg; subst ed; subst eo
        show wpAny _ _ _ _ _ _
        refine wpAny_pure ?_
        show wpAny _ _ (ret Value.none) _ _ _
        refine wpAny_pure ⟨rfl, h', tk', rfl, hS', fun b o hb e => ?_⟩
        have hb1 : b ≠ s.heap.objs.size := Nat.ne_of_lt hb
        have hb2 : b ≠ (s.heap.push { cls := .type "set", dict := none, data := .set #[] 0 (.fresh 0 0 led) }).objs.size := by
          rw [Heap.size_push]; exact Nat.ne_of_lt (Nat.lt_succ_of_lt hb)
        exact hm.heap b o (by simp only [List.mem_cons, List.mem_singleton, List.not_mem_nil, or_false, not_or]; exact ⟨hb1, hb2⟩) (Heap.get?_push_of_some _ (Heap.get?_push_of_some _ e))
    · match r₂, hr₂ with
      | .error e, hr₂ => exact hr₂
      | .ok (.next), hr₂ => exact hr₂.elim
      | .ok (.brk), hr₂ => exact hr₂.elim
      | .ok (.cont), hr₂ => exact hr₂.elim
      | .ok (.ret r), hr₂ =>
        obtain ⟨rfl, h', tk, rfl, hS', hk'⟩ := hr₂
        repeat (any_goals (first | assumption | wp_step))
        exact h _ _ hS' hk'
end
end PV

/-! len(set(xs)) -/
namespace PV
open PySem L2 PySem.Spec PyProof.Rows
theorem strsOf_reps {K : PySem.W.Frag} {H : Hp} : ∀ {ds : List D} {xs : List Str} {vs : List V}, strsOf ds = some xs → RepDs K H ds vs → vs = xs.map V.str
  | [], xs, vs, h, r => by
    cases h
    exact repDs_nil.mp r
  | d :: ds, xs, vs, h, r => by
    obtain ⟨v, vs', rfl, r1, r2⟩ := repDs_cons.mp r
    cases d with
    | str x =>
      rw [strsOf_cons] at h
      cases e : strsOf ds with
      | none => rw [e] at h; cases h
      | some ys =>
        rw [e] at h
        cases h
        rw [repD_str.mp r1, strsOf_reps e r2]
        rfl
    | _ => cases h
def tLS (K : PySem.W.Frag) (ta : TE) : TE := fun σ H Q => ta σ H fun x H1 => ∃ (l : Addr) (xs : List Str), x = .ref l ∧ SqL K H1 l (xs.map V.str) ∧ xs.length < 1000 ∧ Q (.int (cntN xs xs.length : Nat)) H1
section
variable {X : Cx} {cA : Nat → Addr} {W : WX}
theorem pe_LS {a : Expr} {ta : TE} {p p2 q pos : Pos} (hc : X.calm = true) (hg : Gl X "len") (hm : X.mg "len" = none) (hg2 : Gl X "set") (hm2 : X.mg "set" = none) (ha : PE X a ta)
    (na : starEach [a] X.env = (false, eval a X.env) :: starEach [] X.env := by rfl) : PE X (.Call (.Name "len" p) [.Call (.Name "set" p2) [a] [] q] [] pos) (tLS X.K ta) := by
  refine ⟨fun pins s σ H Q I h => ?_⟩
  refine Call_ (ld_blt I hg hm boot_len ?_)
  refine PyProof.Rows.callWith_builtin1 (PyProof.Rows.args_cons ?_ rfl) rfl rfl
  refine Call_ (ld_blt I hg2 hm2 boot_set ?_)
  refine PyProof.Rows.callWith_type1 (PyProof.Rows.args_cons (thn (ha.run pins s σ H _ I h) fun v s1 ⟨x, H1, I1, r1, q1⟩ => PyProof.Rows.args_nil ?_) na) na rfl
  obtain ⟨l, xs, rfl, hq, h1, q1⟩ := q1
  cases r1
  obtain ⟨its, r, pl, hz⟩ := I1.list hq
  refine set_list (I1.ok.hd hc) pl.isList (by simpa using strsAre_of r) h1 fun h' tk hS hk => ?_
  refine PyProof.Rows.args_nil ?_
  have hl : its.toArray.size = xs.length := by rw [List.size_toArray, ← r.length, List.length_map]
  rw [hl] at hS
  obtain ⟨o, es, ep, t, ho, hex, hd, _, _, _, hf, hn⟩ := hS
  have I2 : Inv X pins σ H1 { s1 with heap := h', toks := tk } := I1.kept fun b o e => hk b o (Heap.lt_size e) e
  have hle := cntN_le xs xs.length
  refine call_len_set ho hex hd hf (by rw [hn]; omega) ⟨.int (cntN xs xs.length : Nat), H1, I2.tok _, ⟨_, by rw [hn]⟩, q1⟩
theorem e_lenSet {a : Expr} {m : M} {p p2 q pos : Pos} (hc : X.calm = true) (hg : Gl X "len") (hm : X.mg "len" = none) (hg2 : Gl X "set") (hm2 : X.mg "set" = none) (ha : PE X a (tE X.K cA W m))
    (na : starEach [a] X.env = (false, eval a X.env) :: starEach [] X.env := by rfl) : PE X (.Call (.Name "len" p) [.Call (.Name "set" p2) [a] [] q] [] pos) (tE X.K cA W (m1 lenSet m)) := pe_le (pe_LS hc hg hm hg2 hm2 ha na) fun σ H Q h => by
  obtain ⟨f, e, S, r, er, q⟩ := h
  refine ⟨f, e, S, r, er, okE.bind q fun g H1 w S1 v X1 r1 q1 h1 => ?_⟩
  unfold lenSet at h1
  split at h1
  · rename_i ds
    split at h1
    · rename_i xs e1
      split at h1
      · rename_i hl
        obtain ⟨l, vs, rfl, sq, rd⟩ := repD_list.mp (repW_p.mp q1)
        have ev := strsOf_reps e1 rd
        subst ev
        exact ⟨l, xs, rfl, sq.sq, hl, h1 g H1 _ Ext.refl r1 (repW_p.mpr (repD_int.mpr rfl))⟩
      · exact False.elim h1
    · exact False.elim h1
  · exact False.elim h1
end
end PV

/-! The module's dicts with text keys. -/
namespace PV
open PySem L2 PySem.Spec PyProof.Rows
theorem find_hit {P : Params} {z : Str} : ∀ {l : List DictEntry} {ks : List Str}, l.map He.keyOf = He.keysIn P ks → z ∉ ks → l.find? (·.key.isStr z) = none ∧ l.any (·.refKey) = false
  | [], _, _, _ => ⟨rfl, rfl⟩
  | e :: r, [], h, _ => by cases h
  | e :: r, k :: ks, h, hz => by
    have h1 : He.keyOf e :: r.map He.keyOf = some (k, PyData.keyHash P k) :: He.keysIn P ks := h
    injection h1 with h2 h3
    obtain ⟨i1, i2⟩ := find_hit h3 fun y => hz (List.mem_cons_of_mem _ y)
    unfold He.keyOf at h2
    split at h2
    · rename_i x t q
      have h4 := Option.some.inj h2
      obtain ⟨h5, _⟩ := Prod.mk.inj h4
      subst h5
      have hne : x ≠ z := fun y => hz (by rw [y]; exact List.mem_cons_self)
      have n1 : e.key.isStr z = false := by
        rw [q, PySem.W.isStr_of]
        show (x == z) = false
        exact beq_eq_false_iff_ne.mpr hne
      refine ⟨by rw [List.find?_cons, n1]; exact i1, ?_⟩
      rw [List.any_cons, i2]
      unfold PySem.DictEntry.refKey
      rw [q]
      rfl
    · cases h2
theorem nsIn_miss {K : PySem.W.Frag} {w : World} {a : Addr} {es : Array DictEntry} {n : Nat} {P : Params} {ks : List Str} {z : Str} (D : KDict K w a es n) (hk : es.toList.map He.keyOf = He.keysIn P ks) (hz : z ∉ ks) : PySem.W.nsIn K a z = some none := by
  obtain ⟨h1, h2⟩ := find_hit hk hz
  unfold PySem.W.nsIn
  rw [D.at_]
  show (match es.toList.find? (·.key.isStr z) with
    | some e => some (some e.val)
    | none => if es.toList.any (·.refKey) then none else some none) = _
  rw [h1, h2]
  rfl
structure KdOk (K : PySem.W.Frag) (mg : Str → Option Value) (w : World) (x : Str) (kvs : List (Str × D)) : Prop where
  g : mg x = some (.ref (He.ga K x))
  ex : ∃ (es : Array DictEntry) (n : Nat) (P : Params), KDict K w (He.ga K x) es n ∧ es.toList.map He.keyOf = He.keysIn P (kvs.map (·.1))
  v : ∀ q ∈ kvs, ∃ u v, PySem.W.nsIn K (He.ga K x) q.1 = some (some u) ∧ RelV v u ∧ ∀ H, RepD K H q.2 v
theorem dicW_keys {K : PySem.W.Frag} {w : World} {a : Addr} {ks : List Str} (h : He.dicW K a = some (He.keysIn w.params ks)) : ∃ es n, KDict K w a es n ∧ es.toList.map He.keyOf = He.keysIn w.params ks := by
  obtain ⟨es, n, D⟩ := He.dicW_ok h
  refine ⟨es, n, D, ?_⟩
  unfold He.dicW at h
  rw [D.at_] at h
  have z : (match decide (("dict" : String) = "dict") && ((#[] : Array (Option Value)).isEmpty && !(a == sysModules)) with
    | true => some (es.toList.map He.keyOf)
    | false => none) = some (He.keysIn w.params ks) := h
  rw [D.low] at z
  exact Option.some.inj z
theorem Tx.kd {fa : List He.Fa} {fn : List He.DefD} {tb : List Tb} {K : PySem.W.Frag} {mg : Str → Option Value} {w : World} (T : Tx fa fn tb K mg w) (i j : Nat) {x : Str} {kvs : List (Str × D)} (h : tb[i]? = some (.d x kvs) := by rfl) (hj : fa[j]? = some (.glo x) := by rfl) : KdOk K mg w x kvs := by
  have hm : Tb.d x kvs ∈ tb := List.mem_of_getElem? h
  have e : [He.dicW K (He.ga K x)] = [some (He.keysIn w.params (kvs.map (·.1)))] := tab_all T.d _ hm
  obtain ⟨es, n, D, hk⟩ := dicW_keys (List.cons.inj e).1
  refine ⟨T.glo j hj, ⟨es, n, _, D, hk⟩, fun q hq => ?_⟩
  have z : (kvs.all fun q => (match PySem.W.nsIn K (He.ga K x) q.1 with
    | some (some u) => shB K 8 q.2 u
    | _ => false)) = true := List.all_eq_true.mp T.t _ hm
  have z2 := List.all_eq_true.mp z q hq
  split at z2
  · rename_i u e2
    obtain ⟨v, h1, h2⟩ := shB_ok z2
    exact ⟨u, v, e2, h1, h2⟩
  · cases z2
section
variable {X : Cx} {cA : Nat → Addr} {W : WX}
/-- a whole number is no key of a dict of texts -/
theorem mapOf_mix {K : PySem.W.Frag} {h : Heap} {prog : Program} {w : World} {a : Addr} {es : Array DictEntry} {n : Nat} (Y : K.In h) (hl : K.lookup a = some ⟨.type "dict", none, .dict es n, #[]⟩) (hk : PySem.W.KeysLit w.params es.toList) : h.MapOf (mixKind prog w) a (fun k => findBy keyIs es k) :=
  ⟨_, es, n, Y _ _ hl, ⟨rfl, rfl, rfl⟩, rfl, fun e he => by
    obtain ⟨x, t, e1, e2⟩ := hk.all e (Array.mem_toList_iff.mpr he)
    exact ⟨.inr x, by rw [e1]; exact kV_is (k := .inr x) ⟨t, rfl⟩, e2⟩, fun _ => rfl⟩
theorem find_int {w : World} {es : Array DictEntry} {i : Int} (hk : PySem.W.KeysLit w.params es.toList) : findBy keyIs es (.inl i) = none := by
  unfold findBy
  have : es.find? (fun d => keyIs (.inl i) d.key) = none := by
    rw [Array.find?_eq_none]
    intro e he
    obtain ⟨x, t, e1, _⟩ := hk.all e (Array.mem_toList_iff.mpr he)
    rw [e1]
    exact Bool.false_ne_true
  rw [this]
  rfl
theorem op_in_kd2 {es : Array DictEntry} {n : Nat} {d : Addr} (D : KDict X.K X.w d es n) : OpR X (compareOp .In) (fun x y H Q => (∃ (z : Str) (r : Option Value), x = .str z ∧ y = .ref d ∧ PySem.W.nsIn X.K d z = some r ∧ Q (.bl r.isSome) H) ∨ ∃ i : Int, x = .int i ∧ y = .ref d ∧ Q (.bl false) H) := by
  intro pins s σ H x y v u Q I rx ry h
  rcases h with h | ⟨i, rfl, rfl, q⟩
  · exact op_in_kd D pins s σ H x y v u Q I rx ry h
  · obtain ⟨t, rfl⟩ := rx
    cases ry
    refine wpAny_in_of (k := (.inl i : Key)) (kV_is (k := .inl i) ⟨t, rfl⟩) D.low (mapOf_mix (prog := X.prog) I.kIn D.at_ D.lit) ?_
    rw [find_int D.lit]
    exact ⟨.bl false, H, I.tok _, rfl, q⟩
theorem e_kin {x : Str} {kvs : List (Str × D)} {a : Expr} {m : M} {p pos : Pos} (k : KdOk X.K X.mg X.w x kvs) (ha : PE X a (tE X.K cA W m)) (hg : Gl X x := by rfl) (hdb : (x == ("__debug__" : Str)) = false := by decide)
    (hm : behindInMarks .In (.Name x p) = false := by first | exact nobehind _ (by decide) (by decide) | rfl) : PE X (.Compare a [.In] [.Name x p] pos) (tE X.K cA W (m1 (kIn false kvs) m)) := by
  obtain ⟨es, n, P, D, hk⟩ := k.ex
  refine pe_le (pe_cmpR (op_in_kd2 D) ha (pe_glob (v := .ref (He.ga X.K x)) hg k.g rfl hdb) hm) fun σ H Q h => ?_
  obtain ⟨f, e, S, r, er, q⟩ := h
  refine ⟨f, e, S, r, er, okE.bind q fun g H1 w S1 v X1 r1 q1 h1 => ?_⟩
  unfold kIn at h1
  split at h1
  · rename_i z
    by_cases hz : z ∈ kvs.map (·.1)
    · obtain ⟨q2, hq2, rfl⟩ := List.mem_map.mp hz
      obtain ⟨u, v2, e1, e2, e3⟩ := k.v q2 hq2
      have hc : (kvs.map (·.1)).contains q2.1 = true := List.contains_iff_mem.mpr hz
      rw [hc] at h1
      exact .inl ⟨q2.1, some u, repD_str.mp (repW_p.mp q1), rfl, e1, h1 g H1 _ Ext.refl r1 (repW_p.mpr (repD_bool.mpr rfl))⟩
    · have hc : (kvs.map (·.1)).contains z = false := by
        rw [Bool.eq_false_iff]
        exact fun y => hz (List.contains_iff_mem.mp y)
      rw [hc] at h1
      exact .inl ⟨z, none, repD_str.mp (repW_p.mp q1), rfl, nsIn_miss D hk hz, h1 g H1 _ Ext.refl r1 (repW_p.mpr (repD_bool.mpr rfl))⟩
  · rename_i i
    exact .inr ⟨i, repD_int.mp (repW_p.mp q1), rfl, h1 g H1 _ Ext.refl r1 (repW_p.mpr (repD_bool.mpr rfl))⟩
  · exact False.elim h1
theorem lookup_mem {z : Str} {d : D} : ∀ {kvs : List (Str × D)}, kvs.lookup z = some d → (z, d) ∈ kvs
  | (k, x) :: r, h => by
    rw [List.lookup_cons] at h
    by_cases e : z = k
    · subst e
      rw [show (z == z) = true from beq_self_eq_true z] at h
      cases h
      exact List.mem_cons_self
    · rw [show (z == k) = false from beq_false_of_ne e] at h
      exact List.mem_cons_of_mem _ (lookup_mem h)
theorem e_kix {x : Str} {kvs : List (Str × D)} {b : Expr} {m : M} {p pos : Pos} (k : KdOk X.K X.mg X.w x kvs) (hb : PE X b (tE X.K cA W m)) (hg : Gl X x := by rfl) (hdb : (x == ("__debug__" : Str)) = false := by decide) (hs : PlainIx b := by exact fun _ _ => rfl) :
    PE X (.Subscript (.Name x p) b pos) (tE X.K cA W (m1 (kIx kvs) m)) := by
  obtain ⟨es, n, P, D, hk⟩ := k.ex
  refine pe_le (pe_ix ix_kdict (pe_glob (v := .ref (He.ga X.K x)) hg k.g rfl hdb) hb hs) fun σ H Q h => ?_
  obtain ⟨f, e, S, r, er, q⟩ := h
  refine ⟨f, e, S, r, er, okE.bind q fun g H1 w S1 v X1 r1 q1 h1 => ?_⟩
  unfold kIx at h1
  split at h1
  · rename_i z
    split at h1
    · rename_i d hd
      obtain ⟨u, v2, e1, e2, e3⟩ := k.v _ (lookup_mem hd)
      exact ⟨He.ga X.K x, z, v2, rfl, repD_str.mp (repW_p.mp q1), ⟨es, n, u, D.at_, D.lit, e1, e2⟩, h1 g H1 _ Ext.refl r1 (repW_p.mpr (e3 H1))⟩
    · exact False.elim h1
  · exact False.elim h1
end
end PV

/-! Meanings: dicts; places that don't last. -/
namespace PV
open PySem L2
/-- what a value is as a key -/
def keyV : Vl → Option Key
  | .p (.int i) => some (.inl i)
  | .p (.str s) => some (.inr s)
  | _ => none
/-- a key as a value -/
def keyD : Key → Vl
  | .inl i => .p (.int i)
  | .inr s => .p (.str s)
section
variable {α : Type}
/-- the value at a key; put in its place or at the end; left out -/
def valL (kvs : List (Key × α)) (k : Key) : Option α := (kvs.find? fun kv => decide (kv.1 = k)).map (·.2)
def putL (kvs : List (Key × α)) (k : Key) (v : α) : List (Key × α) :=
  if (kvs.any fun kv => decide (kv.1 = k)) = true then kvs.map (fun kv => if kv.1 = k then (kv.1, v) else kv) else kvs ++ [(k, v)]
def dropL (kvs : List (Key × α)) (k : Key) : List (Key × α) := kvs.filter fun kv => decide (kv.1 ≠ k)
end
/-- the dict that a value is -/
def dkOf (S : Sto) : Vl → Option (List (Key × Vl))
  | .r i => entK S i
  | .dc kvs => some (kvs.map fun q => (q.1, .p q.2))
  | _ => none
/-- d[k] of what is there -/
def dIx (u k : Vl) (S : Sto) : R Vl := match dkOf S u with
  | some kvs => (match keyV k with
    | some q => (match valL kvs q with
      | some v => .ok v S
      | none => .bad)
    | none => .bad)
  | none => .bad
/-- k in d, k not in d -/
def dIn (neg : Bool) (k u : Vl) (S : Sto) : R Vl := match dkOf S u with
  | some kvs => (match keyV k with
    | some q => .ok (.p (.bool (if neg then !(valL kvs q).isSome else (valL kvs q).isSome))) S
    | none => .bad)
  | none => .bad
/-- {} -/
def mDNew : M := fun _ S => .ok (.r S.length) (S ++ [.dK []])
/-- {k: a, ..}, the keys unlike -/
def mDisp (ks : List Key) (as : List M) : M := fun e S => (mArgs as e S).bind fun vs S1 => .ok (.r S1.length) (S1 ++ [.dK (ks.zip vs)])
/-- d.get(k, x) -/
def mDGet (d k x : M) : M := fun e S => (d e S).bind fun u S1 => match dkOf S1 u with
  | some _ => (k e S1).bind fun kv S2 => (x e S2).bind fun z S3 => (match dkOf S3 u with
    | some kvs => (match keyV kv with
      | some q => .ok ((valL kvs q).getD z) S3
      | none => .bad)
    | none => .bad)
  | none => .bad
/-- d.pop(k) of what is there -/
def mDPop (d k : M) : M := fun e S => (d e S).bind fun u S1 => match u with
  | .r i => (match entK S1 i with
    | some _ => (k e S1).bind fun kv S2 => (match entK S2 i with
      | some kvs => (match keyV kv with
        | some q => (match valL kvs q with
          | some v => .ok v (S2.set i (.dK (dropL kvs q)))
          | none => .bad)
        | none => .bad)
      | none => .bad)
    | none => .bad)
  | _ => .bad
/-- d[k] = v -/
def dSetV (o k v : Vl) (S : Sto) : R Vl := match o with
  | .r i => (match entK S i with
    | some kvs => (match keyV k with
      | some q => if kvs.length < sizeLine then .ok (.p .none) (S.set i (.dK (putL kvs q v))) else .bad
      | none => .bad)
    | none => .bad)
  | _ => .bad
def sDPut (o i a : M) : MS := fun e S => ofR e (a e S) fun v S1 => ofR e (o e S1) fun u S2 => ofR e (i e S2) fun k S3 => ofR e (dSetV u k v S3) fun _ S4 => .nx e S4
/-- d[k] op= a, of whole numbers -/
def sDAug (k : Int → Int → Int) (o i a : M) : MS := fun e S => ofR e (o e S) fun u S1 => ofR e (i e S1) fun kv S2 => ofR e (dIx u kv S2) fun x S3 => ofR e (a e S3) fun y S4 => ofR e (augI k x y S4) fun z S5 => ofR e (dSetV u kv z S5) fun _ S6 => .nx e S6
/-- a dict that stands, walked by its keys, its values -/
def itK (a : M) : It := fun e S => (a e S).bind fun v S1 => match v with
  | .dc kvs => .ok (kvs.map fun q => keyD q.1) S1
  | _ => .bad
def itVs (a : M) : It := fun e S => (a e S).bind fun v S1 => match v with
  | .dc kvs => .ok (kvs.map fun q => .p q.2) S1
  | _ => .bad
/-- what an expression laid is forgotten -/
noncomputable def mTmp (m : M) : M := fun e S => match m e S with
  | .ok v S1 => leave S v S1
  | .exc c n S1 => leaveX S c n S1
  | .bad => .bad
/-! lists of places, walked while nobody changes them -/
abbrev Gu := List (Nat × List Vl)
def gOk (gd : Gu) (S : Sto) : Prop := ∀ p ∈ gd, entL S p.1 = some p.2
abbrev ItP := Env → Sto → R (List Vl × Gu)
open Classical in
noncomputable def loopP (gd : Gu) (g : G) (b : MS) : List Vl → MS
  | [], e, S => if gOk gd S then .nx e S else .bad
  | v :: vs, e, S => if gOk gd S then (match g v e S with
    | .ok e1 S1 => (match b e1 S1 with
      | .nx e2 S2 => loopP gd g b vs e2 S2
      | .ct e2 S2 => loopP gd g b vs e2 S2
      | .bk e2 S2 => .nx e2 S2
      | .rt w S2 => .rt w S2
      | .ex c n e2 S2 => .ex c n e2 S2
      | .bad => .bad)
    | _ => .bad) else .bad
noncomputable def sForP (g : G) (it : ItP) (b : MS) : MS := fun e S => match it e S with
  | .ok q S1 => loopP q.2 g b q.1 e S1
  | .exc c n S1 => .ex c n e S1
  | .bad => .bad
open Classical in
noncomputable def lcGp (gd : Gu) (g : G) (c a : M) : List Vl → Env → Sto → R (List Vl)
  | [], _, S => if gOk gd S then .ok [] S else .bad
  | v :: vs, e, S => if gOk gd S then (match g v e S with
    | .ok e1 S1 => (match c e1 S1 with
      | .ok (.p (.bool true)) S2 => (match a e1 S2 with
        | .ok w S3 => (match lcGp gd g c a vs e S3 with
          | .ok ws S4 => .ok (w :: ws) S4
          | _ => .bad)
        | _ => .bad)
      | .ok (.p (.bool false)) S2 => lcGp gd g c a vs e S2
      | _ => .bad)
    | _ => .bad) else .bad
noncomputable def mLcP (own : List Nat) (g : G) (it : ItP) (c a : M) (mk : List Vl → Sto → R Vl) : M := fun e S => (it e S).bind fun q S1 => match lcGp q.2 g c a q.1 (wipeE e own) S1 with
  | .ok ws S2 => mk ws S2
  | _ => .bad
/-- a list, of a place or not: its items; what must stand -/
def lvOf (S : Sto) : Vl → Option (List Vl × Gu)
  | .p (.list ds) => some (ds.map .p, [])
  | .r i => (entL S i).map fun vs => (vs, [(i, vs)])
  | _ => none
def itLp (a : M) : ItP := fun e S => (a e S).bind fun v S1 => match lvOf S1 v with
  | some q => .ok q S1
  | none => .bad
def itZp (a b : M) : ItP := fun e S => (a e S).bind fun u S1 => (b e S1).bind fun v S2 => match lvOf S2 u with
  | some q => (match lvOf S2 v with
    | some t => (match pures q.1 with
      | some ds => (match pures t.1 with
        | some es => .ok (zipV ds es, q.2 ++ t.2) S2
        | none => .bad)
      | none => .bad)
    | none => .bad)
  | none => .bad
end PV

/-! Dicts; places that don't last. -/
namespace PV
open PySem L2 PySem.Spec PyProof.Rows
section
variable {K : PySem.W.Frag} {cA : Nat → Addr} {f : Nat → Option Addr} {H : Hp} {S : Sto}
theorem keyV_rep {w : Vl} {k : Key} {v : V} (e : keyV w = some k) (r : RepW K cA f H w v) : v = kV k := by
  unfold keyV at e
  split at e
  · cases e
    exact repD_int.mp (repW_p.mp r)
  · cases e
    exact repD_str.mp (repW_p.mp r)
  · cases e
theorem keyD_rep (k : Key) : RepW K cA f H (keyD k) (kV k) := by
  cases k with
  | inl i => exact repW_p.mpr (repD_int.mpr rfl)
  | inr s => exact repW_p.mpr (repD_str.mpr rfl)
theorem repK_nil {ys : List (Key × V)} (r : RepK K cA f H ([] : List (Key × Vl)) ys) : ys = [] := by
  have := r.1
  rw [List.map_nil] at this
  exact List.map_eq_nil_iff.mp this
theorem repK_cons {k : Key} {w : Vl} {kvs : List (Key × Vl)} {ys : List (Key × V)} (r : RepK K cA f H ((k, w) :: kvs) ys) : ∃ v q, ys = (k, v) :: q ∧ RepW K cA f H w v ∧ RepK K cA f H kvs q := by
  obtain ⟨h1, h2⟩ := r
  cases ys with
  | nil => cases h1
  | cons y q =>
    obtain ⟨k', v⟩ := y
    rw [List.map_cons, List.map_cons] at h1 h2
    injection h1 with h3 h4
    obtain ⟨x, r2, e, h5, h6⟩ := repWs_cons.mp h2
    injection e with e1 e2
    subst h3 e1 e2
    exact ⟨_, q, rfl, h5, h4, h6⟩
theorem RepK.mk2 {k : Key} {w : Vl} {v : V} {kvs : List (Key × Vl)} {q : List (Key × V)} (h : RepW K cA f H w v) (r : RepK K cA f H kvs q) : RepK K cA f H ((k, w) :: kvs) ((k, v) :: q) :=
  And.intro (by rw [List.map_cons, List.map_cons, r.1]) (repWs_cons.mpr ⟨_, _, rfl, h, r.2⟩)
theorem valL_rep {k : Key} : ∀ {kvs : List (Key × Vl)} {ys : List (Key × V)}, RepK K cA f H kvs ys → (∀ w, valL kvs k = some w → ∃ v, valV ys k = some v ∧ RepW K cA f H w v) ∧ (valL kvs k = none → valV ys k = none)
  | [], ys, r => by
    rw [repK_nil r]
    exact ⟨fun w e => (by cases e), fun _ => rfl⟩
  | (j, w) :: kvs, ys, r => by
    obtain ⟨v, q, rfl, h1, h2⟩ := repK_cons r
    have ih := valL_rep (k := k) h2
    unfold valL valV at ih ⊢
    rw [List.find?_cons, List.find?_cons]
    by_cases e : j = k
    · simp only [e, decide_true, Option.map_some]
      exact ⟨fun w2 e2 => (by cases e2; exact ⟨v, rfl, h1⟩), fun e2 => (by cases e2)⟩
    · simp only [e, decide_false]
      exact ih
theorem anyK {β : Type} (k : Key) (kvs : List (Key × β)) : (kvs.any fun kv => decide (kv.1 = k)) = (kvs.map (·.1)).any fun j => decide (j = k) := by rw [List.any_map]; rfl
theorem repK_app {kvs ls : List (Key × Vl)} {ys zs : List (Key × V)} (r : RepK K cA f H kvs ys) (t : RepK K cA f H ls zs) : RepK K cA f H (kvs ++ ls) (ys ++ zs) :=
  ⟨by rw [List.map_append, List.map_append, r.1, t.1], by rw [List.map_append, List.map_append]; exact repWs_append r.2 t.2⟩
theorem putL_rep {k : Key} {w : Vl} {v : V} {kvs : List (Key × Vl)} {ys : List (Key × V)} (r : RepK K cA f H kvs ys) (h : RepW K cA f H w v) : RepK K cA f H (putL kvs k w) (putK ys k v) := by
  unfold putL putK
  rw [anyK, anyK, r.1]
  split
  · rename_i hh
    clear hh
    induction kvs generalizing ys with
    | nil => rw [repK_nil r]; exact ⟨rfl, repWs_nil.mpr rfl⟩
    | cons y kvs ih =>
      obtain ⟨j, u⟩ := y
      obtain ⟨x, q, rfl, h1, h2⟩ := repK_cons r
      rw [List.map_cons, List.map_cons]
      by_cases e : j = k
      · simp only [e, if_true]
        exact RepK.mk2 h (ih h2)
      · simp only [e, if_false]
        exact RepK.mk2 h1 (ih h2)
  · exact repK_app r (RepK.mk2 h ⟨rfl, repWs_nil.mpr rfl⟩)
theorem dropL_rep {k : Key} : ∀ {kvs : List (Key × Vl)} {ys : List (Key × V)}, RepK K cA f H kvs ys → RepK K cA f H (dropL kvs k) (dropK ys k)
  | [], ys, r => by
    rw [repK_nil r]
    exact ⟨rfl, repWs_nil.mpr rfl⟩
  | (j, w) :: kvs, ys, r => by
    obtain ⟨v, q, rfl, h1, h2⟩ := repK_cons r
    have ih := dropL_rep (k := k) h2
    unfold dropL dropK at ih ⊢
    rw [List.filter_cons, List.filter_cons]
    by_cases e : j = k
    · simp only [e, ne_eq, not_true_eq_false, decide_false, Bool.false_eq_true, if_false]
      exact ih
    · simp only [e, ne_eq, not_false_eq_true, decide_true, if_true]
      exact RepK.mk2 h1 ih
theorem dkOf_rep {u : Vl} {x : V} {kvs : List (Key × Vl)} (r : Rel K cA f H S) (q : RepW K cA f H u x) (e : dkOf S u = some kvs) : ∃ a ys, x = .ref a ∧ Rd H a (.dK ys) ∧ RepK K cA f H kvs ys := by
  unfold dkOf at e
  split at e
  · obtain ⟨a, ys, rfl, _, h2, h3⟩ := entK_rep r q e
    exact ⟨a, ys, rfl, .inl h2, h3⟩
  · cases e
    obtain ⟨a, o, ys, rfl, h1, h2, h3⟩ := repW_dc.mp q
    refine ⟨a, ys, rfl, .inr ⟨o, h1⟩, ?_, ?_⟩
    · rw [h2, List.map_map]; rfl
    · have := repWs_map (cA := cA) (f := f).mpr h3
      rw [List.map_map] at this ⊢
      exact this
  · cases e
end
section
variable {X : Cx} {cA : Nat → Addr} {W : WX}
theorem e_tmp {a : Expr} {m : M} (h : PE X a (tE X.K cA W m)) : PE X a (tE X.K cA W (mTmp m)) := pe_le h fun σ H Q h => by
  obtain ⟨f, e, S, r, er, q⟩ := h
  refine ⟨f, e, S, r, er, ?_⟩
  unfold mTmp at q
  cases hm : m e S with
  | ok v S1 =>
    rw [hm] at q
    have q' : okE X.K cA W f σ H (leave S v S1) Q := q
    unfold leave at q'
    intro g H' y X1 r1 q1
    split at q'
    · rename_i hc
      obtain ⟨X2, r2⟩ := r.cut X1 r1 hc.2
      exact q' _ _ _ X2 r2 (repW_cut q1 hc.1)
    · exact False.elim q'
  | exc c n S1 =>
    rw [hm] at q
    have q' : okE X.K cA W f σ H (leaveX S c n S1) Q := q
    unfold leaveX at q'
    intro g H' d X1 r1 hd
    split at q'
    · rename_i hc
      obtain ⟨X2, r2⟩ := r.cut X1 r1 hc
      exact q' _ _ _ X2 r2 hd
    · exact False.elim q'
  | bad => rw [hm] at q; exact False.elim q
theorem e_dnew {pos : Pos} : PE X (.Dict [] [] pos) (tE X.K cA W mDNew) := pe_le pe_dnewK fun σ H Q h => by
  obtain ⟨f, e, S, r, er, q⟩ := h
  intro p hp
  exact q _ _ _ (Ext.add r hp) (r.add (e := .dK []) hp ⟨[], upd_same, rfl, repWs_nil.mpr rfl⟩) (repW_r.mpr ⟨p, rfl, addF_self⟩)
theorem e_dix {a b : Expr} {ma mb : M} {pos : Pos} (hu : X.A.units + 1 < cLine) (ha : PE X a (tE X.K cA W ma)) (hb : PE X b (tE X.K cA W mb)) (hs : NoSl b := by exact fun _ _ => rfl) : PE X (.Subscript a b pos) (tE X.K cA W (m2 dIx ma mb)) :=
  pe_le (pe_dget hu ha hb hs) fun σ H Q h => by
    obtain ⟨f, e, S, r, er, q⟩ := h
    refine ⟨f, e, S, r, er, okE.bind q fun g H1 w S1 v X1 r1 q1 h1 => ?_⟩
    refine ⟨g, e, S1, r1, X1.envR er, okE.bind h1 fun g2 H2 w2 S2 v2 X2 r2 q2 h2 => ?_⟩
    unfold dIx at h2
    split at h2
    · rename_i kvs e1
      obtain ⟨p, ys, rfl, hR, hK⟩ := dkOf_rep r2 (X2.repW q1) e1
      split at h2
      · rename_i k e2
        split at h2
        · rename_i y e3
          obtain ⟨z, h5, h6⟩ := (valL_rep (k := k) hK).1 _ e3
          exact ⟨p, z, rfl, .inl ⟨ys, k, hR, keyV_rep e2 q2, h5.symm⟩, h2 g2 H2 _ Ext.refl r2 h6⟩
        · exact False.elim h2
      · exact False.elim h2
    · exact False.elim h2
theorem w_din {neg : Bool} {mk md : M} {σ : L2.St} {H : Hp} {Q : VK} (h : tE X.K cA W (m2 (dIn neg) mk md) σ H Q) : tE X.K cA W mk σ H fun y H1 => tE X.K cA W md σ H1 fun x H2 => ∃ a o, x = .ref a ∧ DGet H2 a y o ∧ Q (.bl (if neg then !o.isSome else o.isSome)) H2 := by
  obtain ⟨f, e, S, r, er, q⟩ := h
  refine ⟨f, e, S, r, er, okE.bind q fun g H1 w S1 v X1 r1 q1 h1 => ?_⟩
  refine ⟨g, e, S1, r1, X1.envR er, okE.bind h1 fun g2 H2 w2 S2 v2 X2 r2 q2 h2 => ?_⟩
  unfold dIn at h2
  split at h2
  · rename_i kvs e1
    obtain ⟨p, ys, rfl, hR, hK⟩ := dkOf_rep r2 q2 e1
    split at h2
    · rename_i k e2
      have hs : (valV ys k).isSome = (valL kvs k).isSome := by
        cases e3 : valL kvs k with
        | none => rw [(valL_rep (k := k) hK).2 e3] <;> rfl
        | some y =>
          obtain ⟨z, h5, _⟩ := (valL_rep (k := k) hK).1 _ e3
          rw [h5] <;> rfl
      refine ⟨p, valV ys k, rfl, .inl ⟨ys, k, hR, keyV_rep e2 (X2.repW q1), rfl⟩, h2 g2 H2 _ Ext.refl r2 (repW_p.mpr (repD_bool.mpr ?_))⟩
      rw [hs]
    · exact False.elim h2
  · exact False.elim h2
theorem e_din {a b : Expr} {mk md : M} {pos : Pos} (hu : X.A.units + 1 < cLine) (ha : PE X a (tE X.K cA W mk)) (hb : PE X b (tE X.K cA W md)) (h1 : behindInMarks .In b = false := by rfl) : PE X (.Compare a [.In] [b] pos) (tE X.K cA W (m2 (dIn false) mk md)) :=
  pe_le (pe_cmp (pc_din hu ha hb) h1) fun σ H Q h => w_din h
theorem e_dnotin {a b : Expr} {mk md : M} {pos : Pos} (hu : X.A.units + 1 < cLine) (ha : PE X a (tE X.K cA W mk)) (hb : PE X b (tE X.K cA W md)) (h1 : behindInMarks .NotIn b = false := by rfl) : PE X (.Compare a [.NotIn] [b] pos) (tE X.K cA W (m2 (dIn true) mk md)) :=
  pe_le (pe_cmp (pc_dnotin hu ha hb) h1) fun σ H Q h => w_din h
theorem e_dget {o a b : Expr} {mo ma mb : M} {apos cpos : Pos} (hu : X.A.units + 1 < cLine) (ho : PE X o (tE X.K cA W mo)) (ha : PE X a (tE X.K cA W ma)) (hb : PE X b (tE X.K cA W mb)) (m : M2 X o "get" apos a b cpos := by exact ⟨rfl, rfl, rfl, rfl⟩) :
    PE X (.Call (.Attribute o "get" apos) [a, b] [] cpos) (tE X.K cA W (mDGet mo ma mb)) := pe_le (pe_dget2 hu ho ha hb m) fun σ H Q h => by
  obtain ⟨f, e, S, r, er, q⟩ := h
  refine ⟨f, e, S, r, er, okE.bind q fun g H1 w S1 v X1 r1 q1 h1 => ?_⟩
  split at h1
  · rename_i kvs0 e0
    obtain ⟨p, ys0, rfl, hR0, hK0⟩ := dkOf_rep r1 q1 e0
    refine ⟨p, rfl, .inl ⟨ys0, hR0⟩, g, e, S1, r1, X1.envR er, okE.bind h1 fun g2 H2 w2 S2 v2 X2 r2 q2 h2 => ?_⟩
    refine ⟨g2, e, S2, r2, X2.envR (X1.envR er), okE.bind h2 fun g3 H3 w3 S3 v3 X3 r3 q3 h3 => ?_⟩
    split at h3
    · rename_i kvs e1
      obtain ⟨p', ys, e5, hR, hK⟩ := dkOf_rep r3 (X3.repW (X2.repW q1)) e1
      cases e5
      split at h3
      · rename_i k e2
        refine ⟨valV ys k, .inl ⟨ys, k, hR, keyV_rep e2 (X3.repW q2), rfl⟩, h3 g3 H3 _ Ext.refl r3 ?_⟩
        cases e3 : valL kvs k with
        | none =>
          rw [(valL_rep (k := k) hK).2 e3]
          exact q3
        | some y =>
          obtain ⟨z, h5, h6⟩ := (valL_rep (k := k) hK).1 _ e3
          rw [h5]
          exact h6
      · exact False.elim h3
    · exact False.elim h3
  · exact False.elim h1
theorem e_dpop {o a : Expr} {mo ma : M} {apos cpos : Pos} (ho : PE X o (tE X.K cA W mo)) (ha : PE X a (tE X.K cA W ma)) (m : M1 X o "pop" apos a cpos := by exact ⟨rfl, rfl, rfl, rfl⟩) :
    PE X (.Call (.Attribute o "pop" apos) [a] [] cpos) (tE X.K cA W (mDPop mo ma)) := pe_le (pe_dpop1 ho ha m) fun σ H Q h => by
  obtain ⟨f, e, S, r, er, q⟩ := h
  refine ⟨f, e, S, r, er, okE.bind q fun g H1 w S1 v X1 r1 q1 h1 => ?_⟩
  split at h1
  · rename_i i
    split at h1
    · rename_i kvs0 e0
      obtain ⟨p, ys0, rfl, _, hR0, hK0⟩ := entK_rep r1 q1 e0
      refine ⟨p, rfl, .inl ⟨ys0, .inl hR0⟩, g, e, S1, r1, X1.envR er, okE.bind h1 fun g2 H2 w2 S2 v2 X2 r2 q2 h2 => ?_⟩
      split at h2
      · rename_i kvs e1
        obtain ⟨p', ys, e5, hi, hR, hK⟩ := entK_rep r2 (X2.repW q1) e1
        cases e5
        split at h2
        · rename_i k e2
          split at h2
          · rename_i y e3
            obtain ⟨z, h5, h6⟩ := (valL_rep (k := k) hK).1 _ e3
            have X3 : Ext g2 H2 g2 (upd H2 p (.dK (dropK ys k))) := Ext.set hi hR (fun z => z)
            exact ⟨ys, k, z, hR, keyV_rep e2 q2, h5, h2 g2 _ _ X3 (r2.set hi hR (fun z => z) ⟨_, upd_same, (X3.toMx.repK (dropL_rep hK)).1, (X3.toMx.repK (dropL_rep hK)).2⟩) (X3.repW h6)⟩
          · exact False.elim h2
        · exact False.elim h2
      · exact False.elim h2
    · exact False.elim h1
  · exact False.elim h1
theorem s_dput {o i a : Expr} {mo mi ma : M} {pos tpos : Pos} (hu : X.A.units + 1 < cLine) (he : PE X a (tE X.K cA W ma)) (ho : PE X o (tE X.K cA W mo)) (hi : PE X i (tE X.K cA W mi))
    (hs : swapsWith a (some (.Subscript o i tpos)) pos.line X.env = pure false := by rfl) : PS X (.Assign [.Subscript o i tpos] a pos) (tS X.K cA W (sDPut mo mi ma)) := ps_le (ps_dput hu ho hi he hs) fun D σ H h => by
  obtain ⟨f, e, S, r, er, q⟩ := h
  refine ⟨f, e, S, r, er, okS.val er q fun g1 H1 w S1 v X1 r1 q1 er1 h1 => ?_⟩
  refine ⟨g1, e, S1, r1, er1, okS.val er1 h1 fun g2 H2 w2 S2 v2 X2 r2 q2 er2 h2 => ?_⟩
  refine ⟨g2, e, S2, r2, er2, okS.val er2 h2 fun g3 H3 w3 S3 v3 X3 r3 q3 er3 h3 => ?_⟩
  unfold dSetV at h3
  split at h3
  · rename_i n
    split at h3
    · rename_i kvs e1
      obtain ⟨p, ys, rfl, hi, hR, hK⟩ := entK_rep r3 (X3.repW q2) e1
      split at h3
      · rename_i k e2
        split at h3
        · rename_i hl
          have X4 : Ext g3 H3 g3 (upd H3 p (.dK (putK ys k v))) := Ext.set hi hR (fun z => z)
          have hP := putL_rep (k := k) hK (X3.repW (X2.repW q1))
          exact ⟨p, _, rfl, .inl ⟨ys, k, hR, keyV_rep e2 q3, by rw [repK_len hK]; exact hl, rfl⟩, h3 g3 _ _ X4 (r3.set hi hR (fun z => z) ⟨_, upd_same, (X4.toMx.repK hP).1, (X4.toMx.repK hP).2⟩) (X4.envR er3)⟩
        · exact False.elim h3
      · exact False.elim h3
    · exact False.elim h3
  · exact False.elim h3
theorem src_keys {K : PySem.W.Frag} {g : Nat → Option Addr} {H : Hp} {a : Addr} {o : Obj} {ys : List (Key × V)} {kvs : List (Key × D)} (h : H a = some (.frz o (.dK ys))) (e : ys.map (·.1) = kvs.map (·.1)) : Src K cA g H (Itk a o ys) (kvs.map fun q => keyD q.1) := by
  refine ⟨ys.length, _, _, walk_keys, ?_, fun g2 H2 X => X.st a _ h trivial, fun i x v g2 h h' S2 X r y hv => ?_⟩
  · have := congrArg List.length e
    rw [List.length_map, List.length_map] at this
    rw [List.length_map, this]
  · obtain ⟨rfl, k, z, h1, rfl⟩ := y
    have h2 : (ys.map (·.1))[i]? = some k := by rw [List.getElem?_map, h1]; rfl
    rw [e, List.getElem?_map] at h2
    rw [List.getElem?_map] at hv
    cases h3 : kvs[i]? with
    | none => rw [h3] at h2; cases h2
    | some q =>
      rw [h3] at h2 hv
      cases h2
      cases hv
      exact ⟨Ext.refl, r, keyD_rep _⟩
theorem src_vals {K : PySem.W.Frag} {g : Nat → Option Addr} {H : Hp} {a : Addr} {o : Obj} {ys : List (Key × V)} {kvs : List (Key × D)} (h : H a = some (.frz o (.dK ys))) (e : RepDs K H (kvs.map (·.2)) (ys.map (·.2))) : Src K cA g H (Itd a o ys) (kvs.map fun q => .p q.2) := by
  have hl := repDs_len e
  rw [List.length_map, List.length_map] at hl
  refine ⟨ys.length, _, _, walk_values, by rw [List.length_map, hl], fun g2 H2 X => X.st a _ h trivial, fun i x v g2 h h' S2 X r y hv => ?_⟩
  obtain ⟨rfl, k, h1⟩ := y
  have h2 : (ys.map (·.2))[i]? = some x := by rw [List.getElem?_map, h1]; rfl
  have hv2 : ((kvs.map (·.2)).map Vl.p)[i]? = some v := by rw [List.map_map]; exact hv
  obtain ⟨z, h3, h4⟩ := repWs_get (repWs_map.mpr (X.repDs e)) hv2
  rw [h2] at h3
  cases h3
  exact ⟨Ext.refl, r, h4⟩
variable {tg : Expr}
theorem i_keys {a : Expr} {m : M} (ha : PE X a (tE X.K cA W m)) : PI X tg a (tI X.K cA W (itK m)) := pi_le (pi_keys ha) fun σ H Q h => by
  obtain ⟨f, e, S, r, er, q⟩ := h
  refine ⟨f, e, S, r, er, okI.bind q fun g H1 w S1 v X1 r1 q1 h1 => ?_⟩
  split at h1
  · rename_i kvs
    obtain ⟨a, o, ys, rfl, h2, h3, h4⟩ := repW_dc.mp q1
    exact ⟨a, o, rfl, .inl ⟨ys, h2, h1 g H1 _ Ext.refl r1 (src_keys h2 h3)⟩⟩
  · exact False.elim h1
theorem i_vals {a : Expr} {m : M} {apos cpos : Pos} (ha : PE X a (tE X.K cA W m)) (hbase : attributeBase a "values" X.env (eval a X.env) = eval a X.env := by rfl) (hline : (apos.endLine == cpos.line) = true := by rfl) : PI X tg (.Call (.Attribute a "values" apos) [] [] cpos) (tI X.K cA W (itVs m)) :=
  pi_le (pi_values ha hbase hline) fun σ H Q h => by
    obtain ⟨f, e, S, r, er, q⟩ := h
    refine ⟨f, e, S, r, er, okI.bind q fun g H1 w S1 v X1 r1 q1 h1 => ?_⟩
    split at h1
    · rename_i kvs
      obtain ⟨a, o, ys, rfl, h2, h3, h4⟩ := repW_dc.mp q1
      exact ⟨a, o, ys, rfl, h2, h1 g H1 _ Ext.refl r1 (src_vals h2 h4)⟩
    · exact False.elim h1
def tPs (K : PySem.W.Frag) (cA : Nat → Addr) (W : WX) (ks : List Key) (ms : List M) : List (TE × TE) := List.zipWith (fun k m => (tC (kV k), tE K cA W m)) ks ms
theorem tPairs_of {K : PySem.W.Frag} {σ : L2.St} {e : Env} : ∀ {ks : List Key} {ms : List M} {f : Nat → Option Addr} {H : Hp} {S : Sto} {Q : List (V × V) → Hp → Prop}, ks.length = ms.length → Rel K cA f H S → EnvR K cA f H e σ → okA K cA W f σ H (mArgs ms e S) (fun vs H' => Q ((ks.map kV).zip vs) H') → tPairs (tPs K cA W ks ms) σ H Q
  | [], [], f, H, S, Q, _, r, er, q => q f H [] Ext.refl r (repWs_nil.mpr rfl)
  | [], m :: ms, f, H, S, Q, hl, _, _, _ => by cases hl
  | k :: ks, [], f, H, S, Q, hl, _, _, _ => by cases hl
  | k :: ks, m :: ms, f, H, S, Q, hl, r, er, q => by
    show tC (kV k) σ H fun x H1 => tE K cA W m σ H1 fun y H2 => tPairs (tPs K cA W ks ms) σ H2 fun ps H3 => Q ((x, y) :: ps) H3
    refine ⟨f, e, S, r, er, ?_⟩
    have q' : okA K cA W f σ H ((m e S).bind fun v S1 => (mArgs ms e S1).bind fun vs S2 => .ok (v :: vs) S2) (fun vs H' => Q (((k :: ks).map kV).zip vs) H') := q
    cases hm : m e S with
    | ok v S1 =>
      rw [hm] at q'
      intro g H1 x X1 r1 q1
      refine tPairs_of (by simpa using hl) r1 (X1.envR er) ?_
      have q2 : okA K cA W f σ H ((mArgs ms e S1).bind fun vs S2 => .ok (v :: vs) S2) (fun vs H' => Q (((k :: ks).map kV).zip vs) H') := q'
      cases hs : mArgs ms e S1 with
      | ok vs S2 =>
        rw [hs] at q2
        intro g2 H2 ys X2 r2 qs
        exact q2 g2 H2 (x :: ys) (X1.trans X2) r2 (repWs_cons.mpr ⟨_, _, rfl, X2.repW q1, qs⟩)
      | exc c n S2 =>
        rw [hs] at q2
        exact fun g2 H2 d X2 r2 hd => q2 g2 H2 d (X1.trans X2) r2 hd
      | bad => rw [hs] at q2; exact False.elim q2
    | exc c n S1 => rw [hm] at q'; exact q'
    | bad => rw [hm] at q'; exact False.elim q'
theorem valV_fresh {k : Key} {kvs : List (Key × V)} (h : ¬ k ∈ kvs.map (·.1)) : valV kvs k = none := by
  unfold valV
  rw [List.find?_eq_none.mpr fun x hx e => h (List.mem_map.mpr ⟨x, hx, of_decide_eq_true e⟩)]
  rfl
theorem mergeK_app : ∀ {more acc : List (Key × V)}, ((acc ++ more).map (·.1)).Nodup → mergeK acc more = acc ++ more
  | [], acc, _ => by rw [List.append_nil]; rfl
  | (k, v) :: more, acc, h => by
    have hn : ¬ k ∈ acc.map (·.1) := fun z => by
      rw [List.map_append, List.map_cons] at h
      exact (List.nodup_append.mp h).2.2 k z k List.mem_cons_self rfl
    show mergeK (putK acc k v) more = _
    rw [putK_new v (valV_fresh hn), mergeK_app (by rw [List.append_assoc]; exact h), List.append_assoc]
    rfl
theorem zip_kV : ∀ (ks : List Key) (vs : List V), (ks.map kV).zip vs = (ks.zip vs).map fun kv => (kV kv.1, kv.2)
  | [], _ => rfl
  | _ :: _, [] => rfl
  | k :: ks, v :: vs => by
    rw [List.map_cons, List.zip_cons_cons, List.zip_cons_cons, List.map_cons, zip_kV ks vs]
theorem u1 {n : Nat} (h : n + 64 < cLine) : n + 1 < cLine := by omega
/-- {k: a, ..} -/
theorem e_disp {keys : List (Option Expr)} {values : List Expr} {pos : Pos} {ks : List Key} {ms : List M} (h : PPs X pos keys values (tPs X.K cA W ks ms)) (hl : ks.length = ms.length) (hn : ks.Nodup) (hk : ks.length ≤ 15)
    (hall : keys.all (·.isSome) = true := by rfl) (hlen : keys.length = values.length := by rfl) (h0 : keys ≠ [] := by exact fun z => by cases z) (h15 : keys.length ≤ 15 := by decide) : PE X (.Dict keys values pos) (tE X.K cA W (mDisp ks ms)) :=
  pe_le (pe_disp h hall hlen h0 h15) fun σ H Q h => by
    obtain ⟨f, e, S, r, er, q⟩ := h
    intro p hp
    have X0 : Ext f H f (upd H p (.dK [])) := Ext.laid hp
    have nf : ∀ i, f i ≠ some p := fun i z => by
      obtain ⟨o, ho⟩ := r.th i p z
      rw [hp] at ho
      cases ho
    have q' : okE X.K cA W f σ H ((mArgs ms e S).bind fun vs S1 => .ok (.r S1.length) (S1 ++ [.dK (ks.zip vs)])) Q := q
    refine tPairs_of hl (r.laid hp) (X0.envR er) ?_
    cases hm : mArgs ms e S with
    | ok vs S1 =>
      rw [hm] at q'
      intro g H1 us X1 r1 q1
      have hz : H1 p = some (.dK []) := X1.fr p _ upd_same nf
      have ng : ∀ i, g i ≠ some p := fun i z => by
        rcases X1.nw i p z with z | z
        · exact nf i z
        · rw [upd_same] at z; cases z
      have hus : us.length = ks.length := by rw [repWs_len q1, hl, mArgs_len hm]
      have hvs : vs.length = ks.length := by rw [hl, mArgs_len hm]
      have hmk : ((ks.zip us).map (·.1)) = ks := List.map_fst_zip (Nat.le_of_eq hus.symm)
      refine ⟨hz, ks.zip us, zip_kV ks us, by rw [List.length_zip, hus, Nat.min_self]; exact hk, ?_⟩
      rw [mergeK_app (by rw [List.nil_append, hmk]; exact hn), List.nil_append]
      have M2 : Mx g H1 g (upd H1 p (.dK (ks.zip us))) := Mx.other hz (fun z => z)
      have r2 : Rel X.K cA g (upd H1 p (.dK (ks.zip us))) S1 := r1.other hz (fun z => z) ng
      have M3 : Mx g (upd H1 p (.dK (ks.zip us))) (addF g S1.length p) (upd H1 p (.dK (ks.zip us))) := ⟨fun i a e => by rw [addF_ne (Nat.ne_of_lt (r2.dom i a e))]; exact e, fun _ _ e _ => e⟩
      have r3 := r2.adopt (e := .dK (ks.zip vs)) upd_same ng ⟨_, upd_same, by rw [hmk, List.map_fst_zip (Nat.le_of_eq hvs.symm)], by
        rw [List.map_snd_zip (Nat.le_of_eq hvs), List.map_snd_zip (Nat.le_of_eq hus)]
        exact M3.repWs (M2.repWs q1)⟩
      have X3 : Ext f H (addF g S1.length p) (upd H1 p (.dK (ks.zip us))) := Ext.adopt (Ext.newer (X0.trans X1) hp) hp fun i a z => Nat.ne_of_lt (r2.dom i a ((X0.trans X1).up i a z))
      exact q' _ _ _ X3 r3 (repW_r.mpr ⟨p, rfl, addF_self⟩)
    | exc c n S1 =>
      rw [hm] at q'
      exact fun g H1 d X1 r1 hd => q' g H1 d (X0.trans X1) r1 hd
    | bad => rw [hm] at q'; exact False.elim q'
theorem p_nil {pos : Pos} : PPs X pos [] [] (tPs X.K cA W [] []) := pps_nil
theorem p_cons {pos : Pos} {k v : Expr} {ks : List (Option Expr)} {vs : List Expr} {kk : Key} {kks : List Key} {m : M} {ms : List M} (hk : PE X k (tC (kV kk))) (hv : PE X v (tE X.K cA W m)) (hr : PPs X pos ks vs (tPs X.K cA W kks ms)) :
    PPs X pos (some k :: ks) (v :: vs) (tPs X.K cA W (kk :: kks) (m :: ms)) := pps_cons hk hv hr
end
end PV

/-! Lists of places, walked. -/
namespace PV
open PySem L2 PySem.Spec PyProof.Rows
section
variable {K : PySem.W.Frag} {cA : Nat → Addr} {W : WX} {f g : Nat → Option Addr} {H H1 : Hp}
/-- J goes through vs while the heap goes on and gd stands -/
def SrcP (K : PySem.W.Frag) (cA : Nat → Addr) (g : Nat → Option Addr) (H : Hp) (J : L2.It) (vs : List Vl) (gd : Gu) : Prop :=
  ∃ (n : Nat) (Gd : Hp → Prop) (Y : Nat → Hp → V → Hp → Prop), Walk J n Gd Y ∧ n = vs.length ∧ (∀ g2 H2 S2, Ext g H g2 H2 → Rel K cA g2 H2 S2 → gOk gd S2 → Gd H2) ∧
    ∀ (i : Nat) (x : V) (v : Vl) (g2 : Nat → Option Addr) (h h' : Hp) (S2 : Sto), Ext g H g2 h → Rel K cA g2 h S2 → gOk gd S2 → Y i h x h' → vs[i]? = some v → Ext g2 h g2 h' ∧ Rel K cA g2 h' S2 ∧ RepW K cA g2 h' v x
def okIp (K : PySem.W.Frag) (cA : Nat → Addr) (W : WX) (f : Nat → Option Addr) (σ : L2.St) (H : Hp) (r : R (List Vl × Gu)) (Q : L2.It → Hp → Prop) : Prop := match r with
  | .ok q S' => ∀ g H' J, Ext f H g H' → Rel K cA g H' S' → SrcP K cA g H' J q.1 q.2 → Q J H'
  | .exc c n S' => ∀ g H' d, Ext f H g H' → Rel K cA g H' S' → ExD H' n d → W (.ref (cA c)) d σ H'
  | .bad => False
def tIp (K : PySem.W.Frag) (cA : Nat → Addr) (W : WX) (m : PV.ItP) : TI := fun σ H Q => ∃ f e S, Rel K cA f H S ∧ EnvR K cA f H e σ ∧ okIp K cA W f σ H (m e S) Q
theorem okIp.ext {r : R (List Vl × Gu)} {σ : L2.St} {Q : L2.It → Hp → Prop} (h : okIp K cA W f σ H r Q) (a : Ext f H g H1) : okIp K cA W g σ H1 r Q := by
  cases r with
  | ok w S => exact fun h2 H2 v X => h h2 H2 v (a.trans X)
  | exc c n S => exact fun h2 H2 v X => h h2 H2 v (a.trans X)
  | bad => exact h
theorem okIp.bind {ma : R Vl} {k : Vl → Sto → R (List Vl × Gu)} {σ : L2.St} {R' : VK} {Q : L2.It → Hp → Prop} (h : okIp K cA W f σ H (ma.bind k) Q)
    (hk : ∀ g H1 w S1 v, Ext f H g H1 → Rel K cA g H1 S1 → RepW K cA g H1 w v → okIp K cA W g σ H1 (k w S1) Q → R' v H1) : okE K cA W f σ H ma R' := by
  cases ma with
  | ok w S => exact fun g2 H2 v X r q => hk g2 H2 w S v X r q (okIp.ext h X)
  | exc c n S => exact h
  | bad => exact h
/-- a list as it stands at some moment -/
def LL (K : PySem.W.Frag) (cA : Nat → Addr) (g : Nat → Option Addr) (H : Hp) (a : Addr) (vs : List Vl) (gd : Gu) : Prop :=
  (∃ xs, FzL K H a xs ∧ RepWs K cA g H vs xs) ∨ ∃ k, g k = some a ∧ (k, vs) ∈ gd
theorem LL.at_ {a : Addr} {vs : List Vl} {gd : Gu} (l : LL K cA g H a vs gd) {g2 : Nat → Option Addr} {H2 : Hp} {S2 : Sto} (X : Ext g H g2 H2) (r : Rel K cA g2 H2 S2) (h : gOk gd S2) : ∃ xs, SqL K H2 a xs ∧ RepWs K cA g2 H2 vs xs := by
  rcases l with ⟨xs, h1, h2⟩ | ⟨k, h1, h2⟩
  · exact ⟨xs, (X.fzL h1).sq, X.repWs h2⟩
  · obtain ⟨b, xs, e, h3, h4, h5⟩ := entL_rep (x := .ref a) r (repW_r.mpr ⟨a, rfl, X.up k a h1⟩) (h _ h2)
    cases e
    exact ⟨xs, SqL.of h4, h5⟩
theorem LL.mono {a : Addr} {vs : List Vl} {gd gd' : Gu} (l : LL K cA g H a vs gd) (h : ∀ p ∈ gd, p ∈ gd') : LL K cA g H a vs gd' := by
  rcases l with l | ⟨k, h1, h2⟩
  · exact .inl l
  · exact .inr ⟨k, h1, h _ h2⟩
theorem lvOf_rep {S : Sto} {u : Vl} {x : V} {vs : List Vl} {gd : Gu} (r : Rel K cA g H S) (q : RepW K cA g H u x) (e : lvOf S u = some (vs, gd)) : ∃ a xs, x = .ref a ∧ SqL K H a xs ∧ RepWs K cA g H vs xs ∧ gOk gd S ∧ LL K cA g H a vs gd := by
  unfold lvOf at e
  split at e
  · cases e
    obtain ⟨a, xs, rfl, l, dx⟩ := repD_list.mp (repW_p.mp q)
    exact ⟨a, xs, rfl, l.sq, repWs_map.mpr dx, fun p hp => (by cases hp), .inl ⟨xs, l, repWs_map.mpr dx⟩⟩
  · rename_i i
    cases z : entL S i with
    | none => rw [z] at e; cases e
    | some ws =>
      rw [z] at e
      cases e
      obtain ⟨a, xs, rfl, h1, h2, h3⟩ := entL_rep r q z
      refine ⟨a, xs, rfl, SqL.of h2, h3, fun p hp => ?_, .inr ⟨i, h1, List.mem_singleton.mpr rfl⟩⟩
      rw [List.mem_singleton.mp hp]
      exact z
  · cases e
theorem srcP_list {a : Addr} {vs : List Vl} {gd : Gu} (l : LL K cA g H a vs gd) : SrcP K cA g H (Itl K a) vs gd := by
  refine ⟨vs.length, fun H2 => ∃ g2 S2, Ext g H g2 H2 ∧ Rel K cA g2 H2 S2 ∧ gOk gd S2, fun i H x H' => H' = H ∧ ∀ xs, SqL K H a xs → xs[i]? = some x, ⟨fun i H2 hi ⟨g2, S2, X, r, h⟩ => ?_, fun H2 ⟨g2, S2, X, r, h⟩ => ?_, fun i H2 x H' hi _ y => y⟩, rfl, fun g2 H2 S2 X r h => ⟨g2, S2, X, r, h⟩, fun i x v g2 h h' S2 X r hg y hv => ?_⟩
  · obtain ⟨xs, h1, h2⟩ := l.at_ X r h
    exact ⟨xs, xs[i]'(by rw [repWs_len h2]; exact hi), h1, List.getElem?_eq_getElem _⟩
  · obtain ⟨xs, h1, h2⟩ := l.at_ X r h
    exact ⟨xs, h1, by rw [repWs_len h2]; exact Nat.le_refl _⟩
  · obtain ⟨rfl, hx⟩ := y
    obtain ⟨xs, h1, h2⟩ := l.at_ X r hg
    obtain ⟨x2, h3, h4⟩ := repWs_get h2 hv
    rw [hx xs h1] at h3
    cases h3
    exact ⟨Ext.refl, r, h4⟩
theorem srcP_zip {a b : Addr} {vs us : List Vl} {ds es : List D} {gd : Gu} (l : LL K cA g H a vs gd) (l2 : LL K cA g H b us gd) (e1 : pures vs = some ds) (e2 : pures us = some es) : SrcP K cA g H (Itz K a b) (zipV ds es) gd := by
  rw [pures_some e1] at l
  rw [pures_some e2] at l2
  refine ⟨min ds.length es.length, fun H2 => ∃ g2 S2, Ext g H g2 H2 ∧ Rel K cA g2 H2 S2 ∧ gOk gd S2, fun i H v H' => ∃ T x y, v = .ref T ∧ H T = none ∧ H' = upd H T (.tup [x, y]) ∧ (∀ xs, SqL K H a xs → xs[i]? = some x) ∧ ∀ ys, SqL K H b ys → ys[i]? = some y, ⟨fun i H2 hi ⟨g2, S2, X, r, h⟩ => ?_, fun H2 ⟨g2, S2, X, r, h⟩ => ?_, fun i H2 x H' hi _ y => y⟩, (zipV_len _ _).symm, fun g2 H2 S2 X r h => ⟨g2, S2, X, r, h⟩, fun i x v g2 h h' S2 X r hg y hv => ?_⟩
  · obtain ⟨xs, h1, h2⟩ := l.at_ X r h
    obtain ⟨ys, h3, h4⟩ := l2.at_ X r h
    have m1 := repWs_len h2
    have m2 := repWs_len h4
    rw [List.length_map] at m1 m2
    exact ⟨xs, ys, xs[i]'(by omega), ys[i]'(by omega), h1, h3, List.getElem?_eq_getElem _, List.getElem?_eq_getElem _⟩
  · obtain ⟨xs, h1, h2⟩ := l.at_ X r h
    obtain ⟨ys, h3, h4⟩ := l2.at_ X r h
    have m1 := repWs_len h2
    have m2 := repWs_len h4
    rw [List.length_map] at m1 m2
    exact ⟨xs, ys, h1, h3, by omega⟩
  · obtain ⟨T, x1, y1, rfl, hT, rfl, f1, f2⟩ := y
    obtain ⟨xs, h1, h2⟩ := l.at_ X r hg
    obtain ⟨ys, h3, h4⟩ := l2.at_ X r hg
    obtain ⟨d, e, hd, he, rfl⟩ := zipV_get hv
    obtain ⟨z, k1, k2⟩ := repDs_get (repWs_map.mp h2) hd
    obtain ⟨z2, k3, k4⟩ := repDs_get (repWs_map.mp h4) he
    rw [f1 xs h1] at k1
    rw [f2 ys h3] at k3
    cases k1
    cases k3
    exact pair_new r hT k2 k4
end
section
variable {X : Cx} {cA : Nat → Addr} {W : WX} {tg : Expr}
theorem i_listP {a : Expr} {m : M} (ha : PE X a (tE X.K cA W m)) : PI X tg a (tIp X.K cA W (itLp m)) := pi_le (pi_list ha) fun σ H Q h => by
  obtain ⟨f, e, S, r, er, q⟩ := h
  refine ⟨f, e, S, r, er, okIp.bind q fun g H1 w S1 v X1 r1 q1 h1 => ?_⟩
  split at h1
  · rename_i vg e1
    obtain ⟨vs, gd⟩ := vg
    obtain ⟨a, xs, rfl, l, _, _, L⟩ := lvOf_rep r1 q1 e1
    exact ⟨a, rfl, ⟨xs, l⟩, h1 g H1 _ Ext.refl r1 (srcP_list L)⟩
  · exact False.elim h1
theorem i_zipP {elts : List Expr} {kk : Nat} {tpos : Pos} {a b : Expr} {m n : M} {p pos : Pos} (hg : Gl X "zip") (hm : X.mg "zip" = none) (ha : PE X a (tE X.K cA W m)) (hb : PE X b (tE X.K cA W n))
    (hs1 : starEach (a :: [b]) X.env = (false, eval a X.env) :: starEach [b] X.env := by rfl) (hs2 : starEach (b :: []) X.env = (false, eval b X.env) :: starEach [] X.env := by rfl) (hpl : (backTo pos (starEach [b] X.env)).any (·.1) = false := by rfl) :
    PI X (.Tuple elts kk tpos) (.Call (.Name "zip" p) [a, b] [] pos) (tIp X.K cA W (itZp m n)) := pi_le (pi_zip hg hm (pa_cons ha (pa_cons hb pa_nil hs2) hs1) hs1 hpl) fun σ H Q h => by
  obtain ⟨f, e, S, r, er, q⟩ := h
  refine ⟨f, e, S, r, er, okIp.bind q fun g H1 w S1 v X1 r1 q1 h1 => ?_⟩
  refine ⟨g, e, S1, r1, X1.envR er, okIp.bind h1 fun g2 H2 w2 S2 v2 X2 r2 q2 h2 => ?_⟩
  split at h2
  · rename_i vg e1
    obtain ⟨vs, gd⟩ := vg
    split at h2
    · rename_i ug e2
      obtain ⟨us, gd2⟩ := ug
      split at h2
      · rename_i ds e3
        split at h2
        · rename_i es e4
          obtain ⟨a, xs, rfl, l, dx, _, L⟩ := lvOf_rep r2 (X2.repW q1) e1
          obtain ⟨b, ys, rfl, l2, dy, _, L2⟩ := lvOf_rep r2 q2 e2
          exact ⟨a, b, xs, ys, rfl, l, l2, h2 g2 H2 _ Ext.refl r2 (srcP_zip (L.mono fun p hp => List.mem_append_left _ hp) (L2.mono fun p hp => List.mem_append_right _ hp) e3 e4)⟩
        · exact False.elim h2
      · exact False.elim h2
    · exact False.elim h2
  · exact False.elim h2
theorem gd_loop {f : Nat → Option Addr} {H : Hp} {gd : Gu} {g : G} {b : MS} {vs : List Vl} {e : Env} {S : Sto} {D : Ends} (h : okS X.K cA W f H (loopP gd g b vs e S) D) : gOk gd S := by
  by_cases z : gOk gd S
  · exact z
  · cases vs with
    | nil =>
      unfold loopP at h
      rw [if_neg z] at h
      exact False.elim h
    | cons v vs =>
      unfold loopP at h
      rw [if_neg z] at h
      exact False.elim h
theorem gd_lc {f : Nat → Option Addr} {σ : L2.St} {H : Hp} {Q : VK} {gd : Gu} {g : G} {c a : M} {vs : List Vl} {e : Env} {S : Sto} {mk : List Vl → Sto → R Vl} {ws : List Vl} (h : okE X.K cA W f σ H (match lcGp gd g c a vs e S with
        | .ok ws' S3 => mk (ws ++ ws') S3
        | _ => .bad) Q) : gOk gd S := by
  by_cases z : gOk gd S
  · exact z
  · cases vs with
    | nil =>
      unfold lcGp at h
      rw [if_neg z] at h
      exact False.elim h
    | cons v vs =>
      unfold lcGp at h
      rw [if_neg z] at h
      exact False.elim h
theorem s_forP {iter : Expr} {body : List Stmt} {it : PV.ItP} {g : G} {b : MS} {pos : Pos} (hp : PassesOwn (model X.prog X.w) X.A X.env X.xe) (hc : X.calm = true) (hi : PI X tg iter (tIp X.K cA W it)) (hg : PG X tg (tG X.K cA g)) (hb : PSs X body (tS X.K cA W b))
    (hs : ∀ x, foldedSetIterable iter X.env x = pure x := by intro _; rfl) : PS X (.For tg iter body [] pos) (tS X.K cA W (sForP g it b)) := ps_le (ps_for hp hc hi hg hb hs) fun D σ H h => by
  obtain ⟨f, e, S, r, er, q⟩ := h
  refine ⟨f, e, S, r, er, ?_⟩
  unfold sForP at q
  cases hv : it e S with
  | exc c n S1 =>
    rw [hv] at q
    exact fun g2 H2 d X r2 k => q g2 H2 σ d X r2 (X.envR er) k
  | bad =>
    rw [hv] at q
    exact q
  | ok vg S1 =>
    obtain ⟨vs, gd⟩ := vg
    rw [hv] at q
    intro g1 H1 J X1 r1 src
    obtain ⟨n, Gd, Y, wk, hn, hst, hy⟩ := src
    have q1 : okS X.K cA W g1 H1 (loopP gd g b vs e S1) D := okS.ext q X1
    refine for_it wk (fun i σ' H' => ∃ g2 e2 S2, Ext g1 H1 g2 H' ∧ Rel X.K cA g2 H' S2 ∧ EnvR X.K cA g2 H' e2 σ' ∧ okS X.K cA W g2 H' (loopP gd g b (vs.drop i) e2 S2) D)
      ⟨g1, e, S1, Ext.refl, r1, X1.envR er, q1⟩ (fun i σ' H' _ ⟨g2, e2, S2, X2, r2, _, k2⟩ => hst g2 H' S2 X2 r2 (gd_loop k2)) ?_ ?_
    · rintro i x σ' H' H'' hi ⟨g2, e2, S2, X2, r2, er2, k2⟩ y
      have hlt : i < vs.length := by rw [← hn]; exact hi
      have hvi : vs[i]? = some vs[i] := List.getElem?_eq_getElem hlt
      have hG := gd_loop k2
      obtain ⟨X3, r3, w3⟩ := hy i x vs[i] g2 H' H'' S2 X2 r2 hG y hvi
      rw [List.drop_eq_getElem_cons hlt] at k2
      have k3 : okS X.K cA W g2 H'' (loopP gd g b (vs[i] :: vs.drop (i + 1)) e2 S2) D := okS.ext k2 X3
      unfold loopP at k3
      rw [if_pos hG] at k3
      refine ⟨g2, e2, S2, vs[i], r3, X3.envR er2, w3, ?_⟩
      cases hg1 : g vs[i] e2 S2 with
      | exc c n2 S3 => simp only [hg1] at k3; exact False.elim k3
      | bad => simp only [hg1] at k3; exact False.elim k3
      | ok e3 S3 =>
        simp only [hg1] at k3
        intro g3 H3 σ3 X4 r4 er4
        refine ⟨g3, e3, S3, r4, er4, ?_⟩
        have XX : Ext g1 H1 g3 H3 := X2.trans (X3.trans X4)
        have k4 := okS.ext k3 X4
        cases hb1 : b e3 S3 with
        | nx e4 S4 =>
          simp only [hb1] at k4
          exact fun g4 H4 σ4 X5 r5 er5 => ⟨g4, e4, S4, XX.trans X5, r5, er5, okS.ext k4 X5⟩
        | ct e4 S4 =>
          simp only [hb1] at k4
          exact fun g4 H4 σ4 X5 r5 er5 => ⟨g4, e4, S4, XX.trans X5, r5, er5, okS.ext k4 X5⟩
        | bk e4 S4 =>
          simp only [hb1] at k4
          exact k4
        | rt w S4 =>
          simp only [hb1] at k4
          exact k4
        | ex c n2 e4 S4 =>
          simp only [hb1] at k4
          exact k4
        | bad =>
          simp only [hb1] at k4
          exact False.elim k4
    · rintro σ' H' ⟨g2, e2, S2, X2, r2, er2, k2⟩
      have hG := gd_loop k2
      rw [hn, List.drop_length] at k2
      unfold loopP at k2
      rw [if_pos hG] at k2
      exact k2 g2 H' σ' Ext.refl r2 er2
theorem w_lcP {it : PV.ItP} {c a : M} {own : List Nat} {t : CT} {mk : List Vl → Sto → R Vl} {Qf : VK → VK} (hk : MkOk X.K cA mk Qf) (hm : ∀ i ∈ t.sl, i ∈ own) {σ : L2.St} {H : Hp} {Q : VK} (h : tE X.K cA W (mLcP own t.g it c a mk) σ H Q) :
    tLc (tIp X.K cA W it) (t.h X.K) (tT X.K cA W0 c) (tE X.K cA W0 a) own σ H (Qf Q) := by
  obtain ⟨f, e, S, r, er, q⟩ := h
  refine ⟨f, e, S, r, er, ?_⟩
  unfold mLcP at q
  cases hv : it e S with
  | exc k n S1 =>
    rw [hv] at q
    exact q
  | bad =>
    rw [hv] at q
    exact q
  | ok vg S1 =>
    obtain ⟨vs, gd⟩ := vg
    rw [hv] at q
    intro g1 H1 J X1 r1 src D hD
    obtain ⟨n, Gd, Y, wk, hn, hst, hy⟩ := src
    have q1 : okE X.K cA W g1 σ H1 (match lcGp gd t.g c a vs (wipeE e own) S1 with
      | .ok ws S2 => mk ws S2
      | _ => .bad) Q := okE.ext (show okE X.K cA W f σ H (match lcGp gd t.g c a vs (wipeE e own) S1 with
      | .ok ws S2 => mk ws S2
      | _ => .bad) Q from q) X1
    have er1 : EnvR X.K cA g1 H1 (wipeE e own) (wipe σ own) := (X1.envR er).wipe own
    refine lc_it wk (fun i H' => ∃ g2 S2 xs ws, Ext g1 H1 g2 H' ∧ Rel X.K cA g2 H' S2 ∧ (∀ k, g2 k ≠ some D) ∧ H' D = some (.lst xs) ∧ RepWs X.K cA g2 H' ws xs ∧
      okE X.K cA W g1 σ H1 (match lcGp gd t.g c a (vs.drop i) (wipeE e own) S2 with
        | .ok ws' S3 => mk (ws ++ ws') S3
        | _ => .bad) Q) ?_ (fun i H' _ ⟨g2, S2, xs, ws, X2, r2, _, _, _, k2⟩ => hst g2 H' S2 X2 r2 (gd_lc k2)) ?_ ?_
    · refine ⟨g1, S1, [], [], Ext.laid hD, r1.laid hD, fun k z => ?_, upd_same, repWs_nil.mpr rfl, q1⟩
      obtain ⟨o, ho⟩ := r1.th k D z
      rw [hD] at ho
      cases ho
    · rintro i x H' H'' hi ⟨g2, S2, xs, ws, X2, r2, hnD, hxD, hws, k2⟩ y
      have hlt : i < vs.length := by rw [← hn]; exact hi
      have hvi : vs[i]? = some vs[i] := List.getElem?_eq_getElem hlt
      have hG := gd_lc k2
      obtain ⟨X3, r3, w3⟩ := hy i x vs[i] g2 H' H'' S2 X2 r2 hG y hvi
      rw [List.drop_eq_getElem_cons hlt] at k2
      unfold lcGp at k2
      rw [if_pos hG] at k2
      have hD3 : H'' D = some (.lst xs) := X3.fr D _ hxD hnD
      cases hg1 : t.g vs[i] (wipeE e own) S2 with
      | exc k n2 S3 => simp only [hg1] at k2; exact False.elim k2
      | bad => simp only [hg1] at k2; exact False.elim k2
      | ok e3 S3 =>
        simp only [hg1] at k2
        refine ct_run hm (((X2.trans X3).envR er1)) w3 hg1 fun hS σ2 er2 hw => ⟨by rw [hw]; exact (wipe_wipe σ own), ?_⟩
        subst hS
        refine ⟨g2, e3, S3, r3, er2, ?_⟩
        cases hc1 : c e3 S3 with
        | exc k n2 S4 => simp only [hc1] at k2; exact False.elim k2
        | bad => simp only [hc1] at k2; exact False.elim k2
        | ok cv S4 =>
          simp only [hc1] at k2
          intro g3 H3 v3 X4 r4 w4
          cases cv with
          | p d =>
            cases d with
            | bool b =>
              refine ⟨b, repD_bool.mp (repW_p.mp w4), ?_⟩
              have hnD3 : ∀ k, g3 k ≠ some D := fun k z => (X4.nw k D z).elim (hnD k) fun z2 => by rw [hD3] at z2; cases z2
              have hD4 : H3 D = some (.lst xs) := X4.fr D _ hD3 hnD
              have XX : Ext g1 H1 g3 H3 := X2.trans (X3.trans X4)
              cases b with
              | false =>
                show (if false = true then _ else _)
                rw [if_neg Bool.false_ne_true]
                exact ⟨g3, S4, xs, ws, XX, r4, hnD3, hD4, (X3.trans X4).repWs hws, k2⟩
              | true =>
                show (if true = true then _ else _)
                rw [if_pos rfl]
                refine ⟨g3, e3, S4, r4, X4.envR er2, ?_⟩
                cases ha1 : a e3 S4 with
                | exc k n2 S5 => simp only [ha1] at k2; exact False.elim k2
                | bad => simp only [ha1] at k2; exact False.elim k2
                | ok w5 S5 =>
                  simp only [ha1] at k2
                  intro g4 H4 v5 X5 r5 w5'
                  have hnD4 : ∀ k, g4 k ≠ some D := fun k z => (X5.nw k D z).elim (hnD3 k) fun z2 => by rw [hD4] at z2; cases z2
                  have hD5 : H4 D = some (.lst xs) := X5.fr D _ hD4 hnD3
                  have XX2 : Ext g1 H1 g4 H4 := XX.trans X5
                  refine ⟨xs, hD5, ?_, g4, S5, xs ++ [v5], ws ++ [w5], XX2.newer hD, r5.other hD5 (fun z => z) hnD4, hnD4, upd_same, ?_, ?_⟩
                  · cases hl : lcGp gd t.g c a (vs.drop (i + 1)) (wipeE e own) S5 with
                    | exc k n2 S6 => simp only [hl] at k2; exact False.elim k2
                    | bad => simp only [hl] at k2; exact False.elim k2
                    | ok ws' S6 =>
                      simp only [hl] at k2
                      have z := hk.len k2
                      rw [List.length_append, List.length_cons] at z
                      rw [repWs_len hws]
                      omega
                  · have m : Mx g4 H4 g4 (upd H4 D (.lst (xs ++ [v5]))) := Mx.other hD5 (fun z => z)
                    exact m.repWs (repWs_append ((X3.trans (X4.trans X5)).repWs hws) (repWs_cons.mpr ⟨v5, [], rfl, w5', repWs_nil.mpr rfl⟩))
                  · cases hl : lcGp gd t.g c a (vs.drop (i + 1)) (wipeE e own) S5 with
                    | exc k n2 S6 => simp only [hl] at k2; exact False.elim k2
                    | bad => simp only [hl] at k2; exact False.elim k2
                    | ok ws' S6 =>
                      simp only [hl] at k2
                      show okE X.K cA W g1 σ H1 (mk (ws ++ [w5] ++ ws') S6) Q
                      rw [List.append_assoc]
                      exact k2
            | _ => exact False.elim k2
          | _ => exact False.elim k2
    · rintro H' ⟨g2, S2, xs, ws, X2, r2, hnD, hxD, hws, k2⟩
      rw [hn, List.drop_length] at k2
      have hG := gd_lc k2
      unfold lcGp at k2
      rw [if_pos hG] at k2
      have k3 : okE X.K cA W g1 σ H1 (mk (ws ++ []) S2) Q := k2
      rw [List.append_nil] at k3
      exact hk.fin r1 X2 r2 hD hnD hxD hws k3
theorem e_lcFp {elt iter : Expr} {ifs : List Expr} {scope : Scope} {own : List (Str × Nat)} {pos : Pos} {it : PV.ItP} {c a : M} {t : CT} (hc : X.calm = true) (hN : X.N.Nodup) (hi : PI X tg iter (tIp X.K cA W it)) (ok : BlkOk X.N X.env.scope scope own)
    (hg : ∀ (s : Shared) (H : Hp) (C : Addr) (cl : List (Str × Addr)) (fp : List Addr), PG (X.blk s H scope (compEnvC scope cl C X.env) fp) tg (t.h X.K)) (ht : ∀ (s : Shared) (H : Hp) (C : Addr) (cl : List (Str × Addr)) (fp : List Addr), PTs (X.blk s H scope (compEnvC scope cl C X.env) fp) ifs (tT X.K cA W0 c))
    (he : ∀ (s : Shared) (H : Hp) (C : Addr) (cl : List (Str × Addr)) (fp : List Addr), PE (X.blk s H scope (compEnvC scope cl C X.env) fp) elt (tE X.K cA W0 a)) (hm : ∀ i ∈ t.sl, i ∈ own.map (·.2) := by decide) (hs : ∀ x, foldedSetIterable iter X.env x = pure x := by intro _; rfl) :
    PE X (.ListComp elt [⟨tg, iter, ifs, 0⟩] scope pos) (tE X.K cA W (mLcP (own.map (·.2)) t.g it c a lstF)) :=
  pe_le (pe_fzE (pe_lc hc hN hi ok hg ht he hs)) fun σ H Q h => w_lcP mkOk_F hm h
theorem e_lcMp {elt iter : Expr} {ifs : List Expr} {scope : Scope} {own : List (Str × Nat)} {pos : Pos} {it : PV.ItP} {c a : M} {t : CT} (hc : X.calm = true) (hN : X.N.Nodup) (hi : PI X tg iter (tIp X.K cA W it)) (ok : BlkOk X.N X.env.scope scope own)
    (hg : ∀ (s : Shared) (H : Hp) (C : Addr) (cl : List (Str × Addr)) (fp : List Addr), PG (X.blk s H scope (compEnvC scope cl C X.env) fp) tg (t.h X.K)) (ht : ∀ (s : Shared) (H : Hp) (C : Addr) (cl : List (Str × Addr)) (fp : List Addr), PTs (X.blk s H scope (compEnvC scope cl C X.env) fp) ifs (tT X.K cA W0 c))
    (he : ∀ (s : Shared) (H : Hp) (C : Addr) (cl : List (Str × Addr)) (fp : List Addr), PE (X.blk s H scope (compEnvC scope cl C X.env) fp) elt (tE X.K cA W0 a)) (hm : ∀ i ∈ t.sl, i ∈ own.map (·.2) := by decide) (hs : ∀ x, foldedSetIterable iter X.env x = pure x := by intro _; rfl) :
    PE X (.ListComp elt [⟨tg, iter, ifs, 0⟩] scope pos) (tE X.K cA W (mLcP (own.map (·.2)) t.g it c a lstM)) :=
  pe_le (pe_lc hc hN hi ok hg ht he hs) fun σ H Q h => w_lcP mkOk_M hm h
theorem s_setLcMp {i : Nat} {y : Str} {py : Pos} {elt iter : Expr} {ifs : List Expr} {scope : Scope} {own : List (Str × Nat)} {pos spos : Pos} {it : PV.ItP} {c a : M} {t : CT} (hc : X.calm = true) (hN : X.N.Nodup) (hy : X.N[i]? = some y) (hyl : X.env.scope.names.lookup y = some .local)
    (hsw : swapsWith (.ListComp elt [⟨tg, iter, ifs, 0⟩] scope pos) (some (.Name y py)) spos.line X.env = pure true) (hi : PI X tg iter (tIp X.K cA W it)) (ok : BlkOk X.N X.env.scope scope own)
    (hg : ∀ (s : Shared) (H : Hp) (C : Addr) (cl : List (Str × Addr)) (fp : List Addr), PG (X.blk s H scope (compEnvC scope cl C X.env) fp) tg (t.h X.K)) (ht : ∀ (s : Shared) (H : Hp) (C : Addr) (cl : List (Str × Addr)) (fp : List Addr), PTs (X.blk s H scope (compEnvC scope cl C X.env) fp) ifs (tT X.K cA W0 c))
    (he : ∀ (s : Shared) (H : Hp) (C : Addr) (cl : List (Str × Addr)) (fp : List Addr), PE (X.blk s H scope (compEnvC scope cl C X.env) fp) elt (tE X.K cA W0 a)) (hm : ∀ i ∈ t.sl, i ∈ own.map (·.2) := by decide) (hs : ∀ x, foldedSetIterable iter X.env x = pure x := by intro _; rfl) :
    PS X (.Assign [.Name y py] (.ListComp elt [⟨tg, iter, ifs, 0⟩] scope pos) spos) (tS X.K cA W (sAsg (gNm i) (mLcP (own.map (·.2)) t.g it c a lstM))) :=
  ps_le (ps_setLc hc hN hy hyl hsw hi ok hg ht he hs) fun D σ H h => by
    obtain ⟨f, e, S, r, er, q⟩ := h
    exact w_lcP mkOk_M hm ⟨f, e, S, r, er, okS.val er q fun g2 H1 w S1 v X1 r1 q1 er1 h2 => h2 g2 H1 _ Ext.refl r1 (er1.set i q1)⟩
theorem tIp_mono {K : PySem.W.Frag} {it : PV.ItP} {σ : L2.St} {H : Hp} {Q Q' : L2.It → Hp → Prop} (h : tIp K cA W it σ H Q) (k : ∀ J H, Q J H → Q' J H) : tIp K cA W it σ H Q' := by
  obtain ⟨f, e, S, r, er, q⟩ := h
  refine ⟨f, e, S, r, er, ?_⟩
  cases hm : it e S with
  | ok vs S1 =>
    rw [hm] at q
    exact fun g H' J X r1 s => k _ _ (q g H' J X r1 s)
  | exc c n S1 =>
    rw [hm] at q
    exact q
  | bad =>
    rw [hm] at q
    exact q
theorem tLcP_mono {K : PySem.W.Frag} {it : PV.ItP} {g : TG} {tt : TT} {te : TE} {vs : List Nat} {σ : L2.St} {H : Hp} {Q Q' : VK} (h : tLc (tIp K cA W it) g tt te vs σ H Q) (k : ∀ v H, Q v H → Q' v H) : tLc (tIp K cA W it) g tt te vs σ H Q' :=
  tIp_mono h fun J H1 z D hD => by
    obtain ⟨Wd, h0, ht⟩ := z D hD
    exact ⟨Wd, h0, fun i m H hw => (ht i m H hw).imp (fun ⟨a, b⟩ => ⟨a, k _ _ b⟩) id⟩
theorem s_setLcFp {i : Nat} {y : Str} {py : Pos} {elt iter : Expr} {ifs : List Expr} {scope : Scope} {own : List (Str × Nat)} {pos spos : Pos} {it : PV.ItP} {c a : M} {t : CT} (hc : X.calm = true) (hN : X.N.Nodup) (hy : X.N[i]? = some y) (hyl : X.env.scope.names.lookup y = some .local)
    (hsw : swapsWith (.ListComp elt [⟨tg, iter, ifs, 0⟩] scope pos) (some (.Name y py)) spos.line X.env = pure true) (hi : PI X tg iter (tIp X.K cA W it)) (ok : BlkOk X.N X.env.scope scope own)
    (hg : ∀ (s : Shared) (H : Hp) (C : Addr) (cl : List (Str × Addr)) (fp : List Addr), PG (X.blk s H scope (compEnvC scope cl C X.env) fp) tg (t.h X.K)) (ht : ∀ (s : Shared) (H : Hp) (C : Addr) (cl : List (Str × Addr)) (fp : List Addr), PTs (X.blk s H scope (compEnvC scope cl C X.env) fp) ifs (tT X.K cA W0 c))
    (he : ∀ (s : Shared) (H : Hp) (C : Addr) (cl : List (Str × Addr)) (fp : List Addr), PE (X.blk s H scope (compEnvC scope cl C X.env) fp) elt (tE X.K cA W0 a)) (hm : ∀ i ∈ t.sl, i ∈ own.map (·.2) := by decide) (hs : ∀ x, foldedSetIterable iter X.env x = pure x := by intro _; rfl) :
    PS X (.Assign [.Name y py] (.ListComp elt [⟨tg, iter, ifs, 0⟩] scope pos) spos) (tS X.K cA W (sAsg (gNm i) (mLcP (own.map (·.2)) t.g it c a lstF))) :=
  ps_le (ps_fzS (ps_setLc hc hN hy hyl hsw hi ok hg ht he hs)) fun D σ H h => by
    obtain ⟨f, e, S, r, er, q⟩ := h
    have z : tLc (tIp X.K cA W it) (t.h X.K) (tT X.K cA W0 c) (tE X.K cA W0 a) (own.map (·.2)) σ H (fzQ fun v H' => D.nx (σ.set i (some v)) H') := by
      refine w_lcP mkOk_F hm ⟨f, e, S, r, er, ?_⟩
      exact okS.val er q fun g2 H1 w S1 v X1 r1 q1 er1 h2 => h2 g2 H1 _ Ext.refl r1 (er1.set i q1)
    exact tLcP_mono z fun v H1 ⟨a, xs, e1, hA, k⟩ => ⟨a, xs, hA, k⟩
end
end PV

/-! Meanings: an exception that keeps a number. -/
namespace PV
open PySem L2
/-- raise NoEntry(a) -/
noncomputable def sRaiseN (c : Nat) (m : M) : MS := fun e S => ofR e (m e S) fun v S1 => match v with
  | .p (.int n) => .ex c (some n) e S1
  | _ => .bad
/-- error.number -/
def xnV (c : Nat) (u : Vl) (S : Sto) : R Vl := match u with
  | .x k (some n) => if k = c then .ok (.p (.int n)) S else .bad
  | _ => .bad
/-- NoEntry(e).number -/
def onI (u : Vl) (S : Sto) : R Vl := match u with
  | .p (.int n) => .ok (.p (.int n)) S
  | _ => .bad
end PV

/-! NoEntry: an exception class with an own __init__ that keeps a number. -/
namespace PV
open PySem L2 PySem.Spec PyProof.Rows
def oexB (K : PySem.W.Frag) (C : Addr) : Bool := (match K.lookup C with
  | some ⟨.type "type", _, .cls cd, sl⟩ => (match cd.mro, sl.toList with
    | .ref C' :: bm, [_, _, _, _, some (.builtin n), _] => decide (C' = C) && (decide (n = "ValueError.__new__") && (!cd.hasDel && (cd.hasDict && HandSPX.refsVE bm)))
    | _, _ => false)
  | _ => false) && (decide (PySem.W.findIn K (.ref C) "__setattr__" = some (some (.builtin "object.__setattr__"))) && (decide (PySem.W.subIn K (.ref C) (.type "BaseException") = some true) && (decide (PySem.W.typeIn K (.ref C) = some (.type "type")) && PySem.W.keepIn K (.ref C))))
theorem oexB_ok {K : PySem.W.Frag} {C : Addr} (h : oexB K C = true) : OexC K C := by
  obtain ⟨h1, h⟩ := Bool.and_eq_true_iff.mp h
  obtain ⟨h2, h⟩ := Bool.and_eq_true_iff.mp h
  obtain ⟨h3, h⟩ := Bool.and_eq_true_iff.mp h
  obtain ⟨h4, h5⟩ := Bool.and_eq_true_iff.mp h
  refine ⟨?_, of_decide_eq_true h2, of_decide_eq_true h3, of_decide_eq_true h4, h5⟩
  split at h1
  · rename_i dd cd sl ho
    split at h1
    · rename_i C' bm k0 k1 k2 k3 n k5 hm hs
      simp only [Bool.and_eq_true, decide_eq_true_eq, Bool.not_eq_true'] at h1
      obtain ⟨rfl, rfl, hdel, hdi, ht⟩ := h1
      obtain ⟨nm, bs, mro, ns, qn, hd, sn, sub, ab, col, del⟩ := cd
      dsimp only at hm hdel hdi
      subst hm hdel hdi
      have hsl : sl = #[k0, k1, k2, k3, some (.builtin "ValueError.__new__"), k5] := by
        obtain ⟨l⟩ := sl
        simp only at hs
        rw [hs]
      subst hsl
      exact ⟨nm, qn, ns, bs, bm, sn, sub, ab, col, dd, k0, k1, k2, k3, k5, ho, ht⟩
    · cases h1
  · cases h1
/-- C.__init__ of a class over ValueError is ValueError's -/
def siB (K : PySem.W.Frag) (C : Addr) : Bool := PySem.W.readsIn K C (.type "type") && (decide (PySem.W.specialIn K (.ref C) "__getattribute__" = some (some (.builtin "type.__getattribute__"))) && (match PySem.W.findCls K (.ref C) (.type "type") "__init__" with
  | some (.val (.builtin b)) => decide (b = "ValueError.__init__")
  | _ => false))
theorem siB_ok {K : PySem.W.Frag} {C : Addr} (h : siB K C = true) : PySem.W.readsIn K C (.type "type") = true ∧ PySem.W.specialIn K (.ref C) "__getattribute__" = some (some (.builtin "type.__getattribute__")) ∧ PySem.W.findCls K (.ref C) (.type "type") "__init__" = some (.val (.builtin "ValueError.__init__")) := by
  obtain ⟨h1, h⟩ := Bool.and_eq_true_iff.mp h
  obtain ⟨h2, h3⟩ := Bool.and_eq_true_iff.mp h
  refine ⟨h1, of_decide_eq_true h2, ?_⟩
  split at h3
  · rename_i b e
    rw [e, of_decide_eq_true h3]
  · cases h3
section
variable {X : Cx}
theorem pe_sinit {x : Str} {C0 : Addr} {pl : Sem Bool} {e : Expr} {es : List Expr} {ta : TA} {p1 p2 pos : Pos} (hg : Gl X x) (hm : X.mg x = some (.ref C0)) (hs : siB X.K C0 = true) (ha : PA X (e :: es) ta) (hdb : (x == ("__debug__" : Str)) = false := by decide)
    (hc : eval (.Call (.Attribute (.Name x p1) "__init__" p2) (e :: es) [] pos) X.env = (do
      let ov ← eval (.Name x p1) X.env
      standAt p2.atName
      let (f, first) ← holding [ov] (getMethod ov "__init__" pl)
      callWith pos f first (backTo pos (starEach (e :: es) X.env)) (backToKw pos (keywordEach [] X.env))) := by rfl)
    (he : starEach (e :: es) X.env = (false, eval e X.env) :: starEach es X.env := by rfl) (hpl : (backTo pos (starEach es X.env)).any (·.1) = false := by rfl) :
    PE X (.Call (.Attribute (.Name x p1) "__init__" p2) (e :: es) [] pos) (tVeI X.K ta) := by
  obtain ⟨h1, h2, h3⟩ := siB_ok hs
  refine ⟨fun pins s σ H Q I h => ?_⟩
  refine PySem.W.methodCall_KW (ld_glob I hg hm ?_ hdb) hc
  refine PySem.W.method_cls I.kIn h2 (PySem.W.cls_value I.kIn h1 h3 (by decide +kernel) ?_)
  show wpAny _ _ (callWith pos (Value.builtin "ValueError.__init__") [] (backTo pos (starEach (e :: es) X.env)) []) _ _ _
  refine PyProof.Rows.callWith_method1 (thn (ha.run pos pins _ σ H _ (I.tok _) h) fun us s1 ⟨vs, H1, I1, r1, a, C, ws, ev, hl, T, ea, q⟩ => ?_) he hpl
  subst ev
  cases r1 with
  | @cons _ u0 _ ur ra rw' =>
    obtain rfl : u0 = Value.ref a := ra
    have hlen : ur.length ≤ sizeLine := by
      rw [← Paired.length rw', sizeLine_eq]
      omega
    exact oinit_ok T I1 ea hlen fun s' J => ⟨.non, H1, J, rfl, q⟩
/-- self.number = number, behind SpanError.__init__(self, ..) -/
def tNe (C : Addr) : TS := fun D σ H => ∃ (a : Addr) (n : Int), σ[0]? = some (some (.ref a)) ∧ σ[1]? = some (some (.int n)) ∧ H a = some (exo a C none) ∧
  ∀ dx, H dx = none → dx ≠ a → D.nx σ (upd (upd H dx (exd dx [(("number" : Str), .int n)])) a (exo a C (some dx)))
theorem ne_body {C0 C : Addr} {p1 p2 p3 p4 p5 p6 p7 p8 p9 p10 : Pos} {m : Str} {j : Nat} {x : Str} (T : OexC X.K C) (hno : PySem.W.findIn X.K (.ref C) "number" = some none) (hm : X.mg x = some (.ref C0)) (hs : siB X.K C0 = true)
    (hg : Gl X x := by rfl) (hN0 : X.N[0]? = some ("self" : Str) := by rfl) (hN1 : X.N[1]? = some ("number" : Str) := by rfl) (hv0 : Vis X.env.scope "self" := by exact Or.inl rfl) (hv1 : Vis X.env.scope "number" := by exact Or.inl rfl) (hdb : (x == ("__debug__" : Str)) = false := by decide)
    (pl : Sem Bool) (hc : eval (.Call (.Attribute (.Name x p1) "__init__" p2) [.Name "self" p3, .Constant (.str m) j p4] [] p5) X.env = (do
      let ov ← eval (.Name x p1) X.env
      standAt p2.atName
      let (f, first) ← holding [ov] (getMethod ov "__init__" pl)
      callWith p5 f first (backTo p5 (starEach [.Name "self" p3, .Constant (.str m) j p4] X.env)) (backToKw p5 (keywordEach [] X.env)))) :
    PSs X [.Expr (.Call (.Attribute (.Name x p1) "__init__" p2) [.Name "self" p3, .Constant (.str m) j p4] [] p5) p6, .Assign [.Attribute (.Name "self" p7) "number" p8] (.Name "number" p9) p10] (tNe C) :=
  pss_le (pss_cons (ps_expr (pe_sinit (pl := pl) hg hm hs (pa_cons (pe_var hN0 hv0) (pa_cons pe_str pa_nil (by rfl)) (by rfl)) hdb hc)) (pss_one (ps_ost (pe_var hN0 hv0) (pe_var hN1 hv1)))) fun D σ H h => by
    obtain ⟨a, n, h1, h2, h3, h4⟩ := h
    refine ⟨.ref a, h1, a, C, [.str m], rfl, by simp, T, h3, ?_⟩
    refine ⟨.int n, h2, .ref a, h1, a, C, rfl, T, hno, .inl ⟨h3, fun dx hd ne => h4 dx hd ne⟩⟩
end
section
variable {P : Program} {w : World} {K : PySem.W.Frag} {mg : Str → Option Value} {base : Heap}
/-- what __init__(self, number) promises -/
def spN (C : Addr) : Sp := fun vs H Q _ => ∃ (a : Addr) (n : Int), vs = [.ref a, .int n] ∧ H a = some (exo a C none) ∧ ∀ dx, H dx = none → dx ≠ a → Q .non (upd (upd H dx (exd dx [(("number" : Str), .int n)])) a (exo a C (some dx)))
theorem ne_fn {x qual : Str} {params : Arguments} {body : List Stmt} {scope : Scope} {dvs : List V} {kws : List (Str × V)} {a : Addr} {fd : FuncData} {N : List Str} {k : Nat} {C : Addr} (F : FunD K x qual params body scope dvs kws a fd) (S : FnScope N ["self", "number"] scope) (hn : N.length = 2)
    (hbody : ∀ (cdv : Value) (A : Around) (outer : List PySem.Env) (s : Shared) (H : Hp) (E : XK), Room k (A.deeper (envOfC qual scope s.heap.objs.size a cdv)) → PSs (cxOf (L2.CX P w) P w K mg base N qual scope a cdv A outer s H E) body (tNe C)) :
    FnOk P w K mg base (L2.CX P w) (k + 1) a fd ["self", "number"] (spN C) := by
  refine F.ok S (fun vs H Q E ⟨_, _, h, _⟩ => by rw [h]; rfl) fun cdv A outer s H vs Q E hr hsp => ⟨_, hbody cdv A outer s H E hr, ?_⟩
  obtain ⟨a, n, rfl, h1, h2⟩ := hsp
  refine ⟨a, n, ?_, ?_, h1, h2⟩
  · unfold L2.start
    rw [hn]
    rfl
  · unfold L2.start
    rw [hn]
    rfl
/-- the class as the raise rule asks for it -/
structure NeOk (P : Program) (w : World) (K : PySem.W.Frag) (mg : Str → Option Value) (base : Heap) (c k : Nat) (x : Str) : Prop where
  T : OexC K (cAof K c)
  ex : ∃ (f : Addr) (fd : FuncData), PySem.W.findIn K (.ref (cAof K c)) "__init__" = some (some (.ref f)) ∧ PySem.W.typeIn K (.ref f) = some (.type "function") ∧ FnOk P w K mg base (L2.CX P w) k f fd ["self", "number"] (spN (cAof K c)) ∧ Binds K fd ["self", "number"] []
  g : mg x = some (.ref (cAof K c))
/-- raise C(a) -/
theorem w_ne {C : Addr} {W : WX} {m : M} {σ : L2.St} {H : Hp} {X : Cx} {R' : XK} (h : tE X.K (cAof X.K) W m σ H fun v H1 => ∃ n : Int, v = .int n ∧ ∀ d, H1 d = none → R' (.ref C) (some d) (upd H1 d (.xd [(("number" : Str), .int n)]))) :
    tMkO C (spN C) [] (tCons (tE X.K (cAof X.K) W m) tNil) σ H R' := by
  obtain ⟨f, e, S, r, er, q⟩ := h
  refine ⟨f, e, S, r, er, okE.imp q fun v H1 ⟨n, ev, k⟩ => ?_⟩
  subst ev
  refine ⟨by simp, fun a ha => ⟨a, n, rfl, upd_same, fun dx hd ne => ?_⟩⟩
  have hd1 : H1 dx = none := by rwa [upd_ne ne] at hd
  have e : upd (del (upd (upd (upd H1 a (exo a C none)) dx (exd dx [(("number" : Str), .int n)])) a (exo a C (some dx))) a) dx (.xd [(("number" : Str), .int n)]) = upd H1 dx (.xd [(("number" : Str), .int n)]) := by
    funext b
    by_cases hb : b = dx
    · rw [hb, upd_same, upd_same]
    · rw [upd_ne hb, upd_ne hb]
      by_cases hb2 : b = a
      · rw [hb2, del_same, ha]
      · rw [del_ne hb2, upd_ne hb2, upd_ne hb, upd_ne hb2]
  refine ⟨rfl, dx, [(("number" : Str), .int n)], upd_same, ?_, hd1, ?_⟩
  · rw [upd_ne ne, upd_same]
  · rw [e]
    exact k dx hd1
end
section
variable {X : Cx} {W : WX}
theorem s_rn {c j k : Nat} {x : Str} {e : Expr} {m : M} {p pos pos2 : Pos} (d : NeOk X.prog X.w X.K X.mg X.base c j x) (hc : X.calm = true) (hr : Room k X.A) (tk : Takes X W) (he : PE X e (tE X.K (cAof X.K) W m)) (hle : j + 1 ≤ k := by decide) (hg : Gl X x := by rfl)
    (hdb : (x == ("__debug__" : Str)) = false := by decide) (hst : starEach (e :: []) X.env = (false, eval e X.env) :: starEach [] X.env := by rfl) (hpl : (backTo pos (starEach [] X.env)).any (·.1) = false := by rfl) :
    PS X (.Raise (some (.Call (.Name x p) [e] [] pos)) none pos2) (tS X.K (cAof X.K) W (sRaiseN c m)) := by
  obtain ⟨f, fd, h1, h2, h3, h4⟩ := d.ex
  exact ps_le (ps_raise hc tk (pmk_oex d.T h1 h2 h3 (hr.mono hle) h4 .nil (noPass cx_false) hg d.g (pa_cons he pa_nil hst) hdb hst hpl)) fun D σ H h => by
    obtain ⟨f, e, S, r, er, q⟩ := h
    refine w_ne ⟨f, e, S, r, er, okS.val er q fun g H1 w S1 v X1 r1 q1 er1 h1 => ?_⟩
    split at h1
    · rename_i n
      refine ⟨n, repD_int.mp (repW_p.mp q1), fun d hd => ?_⟩
      have X2 : Ext g H1 g (upd H1 d (.xd [(("number" : Str), .int n)])) := Ext.laid hd
      exact h1 g _ σ (some d) X2 (r1.laid hd) (X2.envR er1) ⟨d, rfl, upd_same⟩
    · exact False.elim h1
theorem e_xn {c : Nat} {e : Expr} {m : M} {pos : Pos} (T : XfC X.K (cAof X.K c)) (hno : PySem.W.findIn X.K (.ref (cAof X.K c)) "number" = some none) (he : PE X e (tE X.K (cAof X.K) W m)) (hb : attributeBase e "number" X.env (eval e X.env) = eval e X.env := by rfl) : PE X (.Attribute e "number" pos) (tE X.K (cAof X.K) W (m1 (xnV c) m)) := by
  refine ⟨fun pins s σ H Q I h => ?_⟩
  have h' : tE X.K (cAof X.K) W m σ H fun x H1 => ∃ (a : Addr) (dd : Addr) (n : Int), x = .ref a ∧ ExAt H1 a (cAof X.K c) (some dd) ∧ H1 dd = some (.xd [(("number" : Str), .int n)]) ∧ Q (.int n) H1 := by
    obtain ⟨f, e, S, r, er, q⟩ := h
    refine ⟨f, e, S, r, er, okE.bind q fun g H1 w S1 v X1 r1 q1 h1 => ?_⟩
    unfold xnV at h1
    split at h1
    · rename_i k n
      split at h1
      · rename_i hk
        subst hk
        obtain ⟨a, d, rfl, h2, h3⟩ := repW_x.mp q1
        obtain ⟨dd, rfl, h4⟩ := h3
        exact ⟨a, dd, n, rfl, h2, h4, h1 g H1 _ Ext.refl r1 (repW_p.mpr (repD_int.mpr rfl))⟩
      · exact False.elim h1
    · exact False.elim h1
  refine attr_of hb (thn (he.run pins s σ H _ I h') fun u s1 ⟨x, H1, I1, rx, a, dd, n, ex, hA, hD, q⟩ => ?_)
  subst ex
  obtain rfl : u = Value.ref a := rx
  obtain ⟨oe, vs, ha, hz, hd⟩ : ∃ (oe : Obj) (vs : Array Value), s1.heap.get? a = some oe ∧ Zc (.ref (cAof X.K c)) (some dd) oe ∧ oe.data = .fields vs := (I1.hok a _ hA).1
  have hx : ObjOk X.prog X.w H1 s1.heap dd (.xd [(("number" : Str), .int n)]) := I1.hok dd _ hD
  obtain ⟨mA, hns, hrr⟩ := hx
  obtain ⟨od, ho, hl⟩ := lookIn_ns hns
  have l : [(("number" : Str), V.int n)].lookup ("number" : Str) = some (.int n) := rfl
  obtain ⟨u, hu, ru⟩ := RelO.some_of (v := .int n) (o := mA "number") (by rw [← l]; exact hrr "number")
  have J : PySem.W.InstAt s1.heap a oe (cAof X.K c) (some od) := ⟨ha, hz.1, by unfold PySem.W.notCls; rw [hd] <;> rfl, by rw [hz.2]; exact ho⟩
  exact HandSPX.exc_get I1.kIn J T.ga T.gg T.exC (PySem.W.findObj_own T.hdC hno rfl (by rw [hl, hu])) (handed_of ru) ⟨.int n, H1, I1.tok _, ru, q⟩
theorem e_nef {c j k : Nat} {x : Str} {e : Expr} {m : M} {p pos pos2 : Pos} (d : NeOk X.prog X.w X.K X.mg X.base c j x) (T : XfC X.K (cAof X.K c)) (hno : PySem.W.findIn X.K (.ref (cAof X.K c)) "number" = some none) (hr : Room k X.A) (he : PE X e (tE X.K (cAof X.K) W m)) (hle : j + 1 ≤ k := by decide) (hg : Gl X x := by rfl)
    (hdb : (x == ("__debug__" : Str)) = false := by decide) (hst : starEach (e :: []) X.env = (false, eval e X.env) :: starEach [] X.env := by rfl) (hpl : (backTo pos (starEach [] X.env)).any (·.1) = false := by rfl)
    (hb : attributeBase (.Call (.Name x p) [e] [] pos) "number" X.env (eval (.Call (.Name x p) [e] [] pos) X.env) = eval (.Call (.Name x p) [e] [] pos) X.env := by rfl) : PE X (.Attribute (.Call (.Name x p) [e] [] pos) "number" pos2) (tE X.K (cAof X.K) W (m1 onI m)) := by
  obtain ⟨f, fd, h1, h2, h3, h4⟩ := d.ex
  have mk := pmk_oex (p := p) d.T h1 h2 h3 (hr.mono hle) h4 .nil (noPass cx_false) hg d.g (pa_cons he pa_nil hst) hdb hst hpl
  refine ⟨fun pins s σ H Q I h => ?_⟩
  have h' : tMkO (cAof X.K c) (spN (cAof X.K c)) [] (tCons (tE X.K (cAof X.K) W m) tNil) σ H fun cls d H' => cls = .ref (cAof X.K c) ∧ ∃ (dd : Addr) (n : Int), d = some dd ∧ H' dd = some (.xd [(("number" : Str), .int n)]) ∧ Q (.int n) H' := by
    obtain ⟨f, e, S, r, er, q⟩ := h
    refine w_ne ⟨f, e, S, r, er, okE.bind q fun g H1 w S1 v X1 r1 q1 h1 => ?_⟩
    unfold onI at h1
    split at h1
    · rename_i n
      refine ⟨n, repD_int.mp (repW_p.mp q1), fun d hd => ⟨rfl, d, n, rfl, upd_same, ?_⟩⟩
      exact h1 g _ _ (Ext.laid hd) (r1.laid hd) (repW_p.mpr (repD_int.mpr rfl))
    · exact False.elim h1
  refine attr_of hb (thn (mk pins s σ H _ I h') fun u s1 hh => ?_)
  obtain ⟨a, oe, vs, sI, H', cls, dO, rfl, J, kk, hne, ha, hz, hd, _, na, os, ag, _, rfl, dd, n, rfl, hD, q⟩ := hh
  have J1 : Inv X pins σ H' s1 := Inv.landed (B := PySem.W.hideAll sI.heap (frs X.stack)) J (fun b o e hb => PySem.W.hideAll_get _ e hb) (fun b o e => kk b o (PySem.W.of_hideAll _ e)) (Heap.UpToSlots.of_keeps kk) os ag
  have hx : ObjOk X.prog X.w H' s1.heap dd (.xd [(("number" : Str), .int n)]) := J1.hok dd _ hD
  obtain ⟨mA, hns, hrr⟩ := hx
  obtain ⟨od, ho, hl⟩ := lookIn_ns hns
  have l : [(("number" : Str), V.int n)].lookup ("number" : Str) = some (.int n) := rfl
  obtain ⟨u, hu, ru⟩ := RelO.some_of (v := .int n) (o := mA "number") (by rw [← l]; exact hrr "number")
  have JA : PySem.W.InstAt s1.heap a oe (cAof X.K c) (some od) := ⟨ha, hz.1, by unfold PySem.W.notCls; rw [hd] <;> rfl, by rw [hz.2]; exact ho⟩
  exact HandSPX.exc_get J1.kIn JA T.ga T.gg T.exC (PySem.W.findObj_own T.hdC hno rfl (by rw [hl, hu])) (handed_of ru) ⟨.int n, H', J1.tok _, ru, q⟩
end
section
variable {fa : List He.Fa} {fn : List He.DefD} {tb : List Tb} {K : PySem.W.Frag} {mg : Str → Option Value} {P : Program} {w : World} {base : Heap}
/-- the checks of the class -/
def neB (c : Nat) (K : PySem.W.Frag) : Bool := oexB K (cAof K c) && (decide (PySem.W.findIn K (.ref (cAof K c)) "number" = some none) && (xfB K (cAof K c) && (decide (PySem.W.findIn K (.ref (cAof K c)) "__init__" = some (some (.ref (He.ma K (cAof K c) "__init__")))) && decide (PySem.W.typeIn K (.ref (He.ma K (cAof K c) "__init__")) = some (.type "function")))))
theorem neB_ok {c : Nat} (h : neB c K = true) : OexC K (cAof K c) ∧ PySem.W.findIn K (.ref (cAof K c)) "number" = some none ∧ XfC K (cAof K c) ∧ PySem.W.findIn K (.ref (cAof K c)) "__init__" = some (some (.ref (He.ma K (cAof K c) "__init__"))) ∧ PySem.W.typeIn K (.ref (He.ma K (cAof K c) "__init__")) = some (.type "function") := by
  obtain ⟨h1, h⟩ := Bool.and_eq_true_iff.mp h
  obtain ⟨h2, h⟩ := Bool.and_eq_true_iff.mp h
  obtain ⟨h3, h⟩ := Bool.and_eq_true_iff.mp h
  obtain ⟨h4, h5⟩ := Bool.and_eq_true_iff.mp h
  exact ⟨oexB_ok h1, of_decide_eq_true h2, xfB_ok h3, of_decide_eq_true h4, of_decide_eq_true h5⟩
theorem Tx.neOk (T : Tx fa fn tb K mg w) (i jg jt : Nat) {x : Str} {c k : Nat} {d : He.DefD} (h : fn[i]? = some d) (hat : d.at_ = (x, some ("__init__" : Str))) (h0 : d.dfl = []) (h1 : d.kwd = [])
    (hb : ∀ (kV doc pm : Value) (an : Option Addr) (cdv ct : Value) (us : List Value), us.length = 2 → bindArgs (PySem.W.fnOf d.name d.qual d.params d.body d.scope .none kV doc pm an cdv ct) ⟨us, []⟩ = pure ((["self", "number"] : List Str).zip us))
    (ok : ∀ (a : Addr) (fd : FuncData), FunD K d.name d.qual d.params d.body d.scope [] [] a fd → FnOk P w K mg base (L2.CX P w) k a fd ["self", "number"] (spN (cAof K c)))
    (hg : fa[jg]? = some (.glo x) := by rfl) (ht : tb[jt]? = some (.k (neB c)) := by rfl) (hx : clsN c = x := by rfl) : NeOk P w K mg base c k x := by
  obtain ⟨k1, k2, k3, k4, k5⟩ := neB_ok (T.chk jt ht)
  obtain ⟨fd, Fd⟩ := T.c.def_ i h
  have e0 : d.dvs K = [] := by unfold He.DefD.dvs; rw [h0]; rfl
  have e1 : d.kws K = [] := by unfold He.DefD.kws; rw [h1]; rfl
  rw [e0, e1] at Fd
  have ea : He.fAd K d.at_ = He.ma K (cAof K c) "__init__" := by rw [hat]; unfold cAof; rw [hx]; rfl
  rw [ea] at Fd
  refine ⟨k1, ⟨_, fd, k4, k5, ok _ _ Fd, Fd.bindsN hb⟩, ?_⟩
  unfold cAof
  rw [hx]
  exact T.glo jg hg
end
end PV

/-! Meanings: sorted. -/
namespace PV
open PySem L2
/-- put in its place; put in its place unless it is there -/
def insI (x : Int) : List Int → List Int
  | [] => [x]
  | y :: r => if x ≤ y then x :: y :: r else y :: insI x r
def insD (x : Int) : List Int → List Int
  | [] => [x]
  | y :: r => if x < y then x :: y :: r else if x = y then y :: r else y :: insD x r
def ssort (l : List Int) : List Int := l.foldr insI []
def sset (l : List Int) : List Int := l.foldr insD []
theorem insI_perm (x : Int) : ∀ l : List Int, (insI x l).Perm (x :: l)
  | [] => .refl _
  | y :: r => by
    unfold insI
    split
    · exact .refl _
    · exact ((insI_perm x r).cons y).trans (.swap x y r)
theorem insI_sorted (x : Int) : ∀ {l : List Int}, l.Pairwise (· ≤ ·) → (insI x l).Pairwise (· ≤ ·)
  | [], _ => by simp [insI]
  | y :: r, h => by
    unfold insI
    obtain ⟨h1, h2⟩ := List.pairwise_cons.mp h
    split
    · rename_i hxy
      refine List.pairwise_cons.mpr ⟨fun z hz => ?_, h⟩
      rcases List.mem_cons.mp hz with rfl | hz
      · exact hxy
      · exact Int.le_trans hxy (h1 z hz)
    · rename_i hxy
      refine List.pairwise_cons.mpr ⟨fun z hz => ?_, insI_sorted x h2⟩
      rcases List.mem_cons.mp ((insI_perm x r).mem_iff.mp hz) with rfl | hz
      · omega
      · exact h1 z hz
theorem ssort_perm : ∀ l : List Int, (ssort l).Perm l
  | [] => .refl _
  | x :: l => (insI_perm x (ssort l)).trans ((ssort_perm l).cons x)
theorem ssort_sorted : ∀ l : List Int, (ssort l).Pairwise (· ≤ ·)
  | [] => .nil
  | x :: l => insI_sorted x (ssort_sorted l)
theorem mem_insD (x : Int) : ∀ (l : List Int) (z : Int), z ∈ insD x l ↔ z = x ∨ z ∈ l
  | [], z => by simp [insD]
  | y :: r, z => by
    unfold insD
    split
    · simp
    · split
      · rename_i h1 h2
        subst h2
        simp
      · rw [List.mem_cons, mem_insD x r z, List.mem_cons]
        constructor
        · rintro (h | h | h) <;> simp [h]
        · rintro (h | h | h) <;> simp [h]
theorem insD_sorted (x : Int) : ∀ {l : List Int}, l.Pairwise (· < ·) → (insD x l).Pairwise (· < ·)
  | [], _ => by simp [insD]
  | y :: r, h => by
    unfold insD
    obtain ⟨h1, h2⟩ := List.pairwise_cons.mp h
    split
    · rename_i hxy
      refine List.pairwise_cons.mpr ⟨fun z hz => ?_, h⟩
      rcases List.mem_cons.mp hz with rfl | hz
      · exact hxy
      · exact Int.lt_trans hxy (h1 z hz)
    · split
      · exact h
      · rename_i hxy hne
        refine List.pairwise_cons.mpr ⟨fun z hz => ?_, insD_sorted x h2⟩
        rcases (mem_insD x r z).mp hz with rfl | hz
        · omega
        · exact h1 z hz
theorem mem_sset : ∀ (l : List Int) (z : Int), z ∈ sset l ↔ z ∈ l
  | [], z => .rfl
  | x :: l, z => by
    show z ∈ insD x (sset l) ↔ _
    rw [mem_insD, mem_sset l, List.mem_cons]
theorem sset_sorted : ∀ l : List Int, (sset l).Pairwise (· < ·)
  | [] => .nil
  | x :: l => insD_sorted x (sset_sorted l)
theorem insD_len (x : Int) : ∀ m : List Int, (insD x m).length ≤ m.length + 1
  | [] => by simp [insD]
  | y :: r => by
    have := insD_len x r
    unfold insD
    split
    · simp
    · split
      · simp
      · simp only [List.length_cons]; omega
theorem sset_len : ∀ l : List Int, (sset l).length ≤ l.length
  | [] => Nat.le_refl _
  | x :: l => by
    have h1 := insD_len x (sset l)
    have h2 := sset_len l
    show (insD x (sset l)).length ≤ _
    rw [List.length_cons]
    omega
/-- a rising list is told by its members -/
theorem rise_eq : ∀ {a b : List Int}, a.Pairwise (· < ·) → b.Pairwise (· < ·) → (∀ z, z ∈ a ↔ z ∈ b) → a = b
  | [], [], _, _, _ => rfl
  | [], y :: b, _, _, h => absurd ((h y).mpr List.mem_cons_self) (by simp)
  | x :: a, [], _, _, h => absurd ((h x).mp List.mem_cons_self) (by simp)
  | x :: a, y :: b, ha, hb, h => by
    obtain ⟨a1, a2⟩ := List.pairwise_cons.mp ha
    obtain ⟨b1, b2⟩ := List.pairwise_cons.mp hb
    have e : x = y := by
      rcases List.mem_cons.mp ((h x).mp List.mem_cons_self) with e | e
      · exact e
      · rcases List.mem_cons.mp ((h y).mpr List.mem_cons_self) with e2 | e2
        · exact e2.symm
        · have := b1 x e
          have := a1 y e2
          omega
    subst e
    rw [rise_eq a2 b2 fun z => ⟨fun hz => ?_, fun hz => ?_⟩]
    · rcases List.mem_cons.mp ((h z).mp (List.mem_cons_of_mem _ hz)) with e | e
      · have := a1 z hz
        omega
      · exact e
    · rcases List.mem_cons.mp ((h z).mpr (List.mem_cons_of_mem _ hz)) with e | e
      · have := b1 z hz
        omega
      · exact e
theorem sort_eq {a b : List Int} (ha : a.Pairwise (· ≤ ·)) (hb : b.Pairwise (· ≤ ·)) (h : a.Perm b) : a = b :=
  h.eq_of_pairwise (fun x y _ _ h1 h2 => Int.le_antisymm h1 h2) ha hb
/-- sorted(u), sorted(set(u)) of whole numbers -/
def sortV (u : Vl) (S : Sto) : R Vl := match intsV S u with
  | some ns => lstF ((ssort ns).map fun n => .p (.int n)) S
  | none => .bad
def ssetV (u : Vl) (S : Sto) : R Vl := match intsV S u with
  | some ns => if ns.length < 1000 then lstF ((sset ns).map fun n => .p (.int n)) S else .bad
  | none => .bad
end PV

/-! sorted of whole numbers, of a set of them. -/
namespace PV
open PySem L2 PySem.Spec PyProof.Rows
/-- a set that is new -/
abbrev fs0 (w : World) : Obj := { cls := .type "set", dict := none, data := .set #[] 0 (.fresh 0 0 (!w.params.followText "set-order")) }
section
variable {P : Program} {w : World} {A : Around} {E : Value → Shared → Prop} {s : Shared}
set_option maxHeartbeats 3200000 in
/-- set(l), l a list of whole numbers -/
theorem set_ints {l : Addr} {items : Array Value} (ns : List Int) {Q : Value → Shared → Prop} (hh : A.handled = none) (hl : s.heap.IsList l items) (hit : IntsAre items.toList ns) (hb : ns.length < 1000)
    (h : ∀ (h' : Heap) (tk c : Nat), SetR w h' s.heap.objs.size (fun j => decide (j ∈ ns)) c → c ≤ ns.length → (∀ b o, s.heap.get? b = some o → h'.get? b = some o) → Q (.ref s.heap.objs.size) { s with heap := h', toks := tk }) :
    wpAny (model P w) A (call (.type "set") [.ref l]) Q E s := by
  have hlS : l < s.heap.objs.size := by
    obtain ⟨ol, hol, _⟩ := hl
    exact Heap.lt_size hol
  have hisz : items.size = ns.length := by rw [← IntsAre.length hit, Array.length_toList]
  obtain ⟨h0, e0⟩ : ∃ h0, h0 = s.heap.push (fs0 w) := ⟨_, rfl⟩
  have hS : h0.get? s.heap.objs.size = some (fs0 w) := by rw [e0]; exact Heap.get?_push_size _ rfl
  have hz0 : h0.objs.size = s.heap.objs.size + 1 := by rw [e0]; exact Heap.size_push ..
  have up0 : ∀ b o, s.heap.get? b = some o → h0.get? b = some o := fun b o e => by rw [e0]; exact Heap.get?_push_of_some _ e
  have hl0 : h0.IsList l items := by
    obtain ⟨ol, hol, r⟩ := hl
    exact ⟨ol, up0 _ _ hol, r⟩
  obtain ⟨c, tl, hmro⟩ := PySem.F.called_set.mro
  have hmade := PySem.F.called_set.made
  have hsub := PySem.F.called_set.sub
  have h1 := PySem.F.called_set.notType
  have h2 := PySem.F.called_set.canCreate
  have hct := PySem.F.typeCall_set_1 (.ref l)
  refine wpAny_call (codeAny_of_tree ?_)
  show wpAny _ _ (callAny (.type "set") _) _ _ _
  refine wpAny_pure ⟨Code.quiet_builtin _ (by decide +kernel), codeAny_builtin PySem.F.entry_type_call ?_⟩
  rw [Around.under_plain (weight_type_call_type "set" [.ref l] []) rfl]
  repeat (any_goals (first | assumption | wp_step))
  refine codeAny_mono (code_set_led1 (.ref l) (E := E) (Q₁ := fun obj s₁ => obj = .ref s.heap.objs.size ∧ s₁ = { s with heap := h0 }) ⟨rfl, by rw [e0]⟩) fun r s₁ hr => ?_
  match r, hr with
  | .error e, hr => exact hr
  | .ok (.next), hr => exact hr.elim
  | .ok (.brk), hr => exact hr.elim
  | .ok (.cont), hr => exact hr.elim
  | .ok (.ret obj), hr =>
    obtain ⟨rfl, rfl⟩ := hr
    have hT : Shared.TypeIs { s with heap := h0 } (.ref s.heap.objs.size) "set" := ⟨_, hS, rfl⟩
    have hli := PySem.F.called_set.init.lookup
    have hbi := PySem.F.called_set.init.bind (.ref s.heap.objs.size)
    repeat (any_goals (first | assumption | wp_step))
    refine codeAny_mono (codeAny_call_builtin (R := wants (fun r s₂ => r = .none ∧ ∃ h' tk c, s₂ = { s with heap := h', toks := tk } ∧ SetR w h' s.heap.objs.size (fun j => decide (j ∈ ns)) c ∧ c ≤ ns.length ∧
        (∀ b o, s.heap.get? b = some o → h'.get? b = some o)) E) PySem.F.called_set.init.plain PySem.F.entry_set_init (check_set_init_1 hT ?_)) fun r₂ s₂ hr₂ => ?_
    · obtain ⟨ol, hol, hcl, nl, hdl⟩ := id hl0
      obtain ⟨ocls, odict, odata, oslots⟩ := ol
      simp only at hcl hdl
      subst hcl; subst hdl
      have hsls := PySem.F.sub_list_set
      have hslf := PySem.F.sub_list_frozenset
      have hne : (Value.type "list" == Value.type "dict") = false := by decide
      unfold Builtin.«set.__init__» noKeywords Builtin.Frozenset.updateFrom
      generalize hPI : pyIter = PI
      wp_walk
      subst hPI
      refine wpAny_pyIter_list hl0 ?_
      refine wpAny_bind (wpAny_runValue ?_)
      have hh3 : A.in1.in1.in1.handled = none := by simp [hh]
      have hneI : l ≠ h0.objs.size := by rw [hz0]; exact Nat.ne_of_lt (Nat.lt_succ_of_lt hlS)
      have hSf : s.heap.objs.size ∉ [h0.objs.size, l] := by
        rw [hz0]
        simp only [List.mem_cons, List.mem_singleton, List.not_mem_nil, or_false, not_or]
        exact ⟨Nat.ne_of_lt (Nat.lt_succ_self _), Nat.ne_of_gt hlS⟩
      have hval : ∀ (i : Nat) (v : Value), items[i]? = some v → ∃ k t, ns[i]? = some k ∧ v = .int k t := fun i v hv => by
        have hi : i < ns.length := by rw [← hisz]; exact (Array.getElem?_eq_some_iff.mp hv).1
        obtain ⟨t, e⟩ := PyProof.Rows.IntsAre.int_at hit i v (by rw [Array.getElem?_toList]; exact hv)
        have e2 : ns[i]? = some ns[i] := List.getElem?_eq_getElem hi
        exact ⟨ns[i], t, e2, by rw [e, List.getD_eq_getElem?_getD, e2] <;> rfl⟩
      refine set_update_ints ((Walks.list hh3 _ l hneI items).toS) s.heap.objs.size hSf ns hisz (by unfold scanBound; omega) hval (items.size - 0) 0 _ (by omega) (Nat.zero_le _) ⟨⟨_, Heap.get?_push_size _ rfl, rfl, rfl⟩, (hl0.push _)⟩ ⟨0, Nat.le_refl 0, setR_new_at (Heap.get?_push_of_some _ hS)⟩ ?_
      intro s' c' hm hc' hS'
      obtain ⟨h', g2, d', tk', os'⟩ := s'
      have eg : g2 = s.gens := hm.gens
      have ed : d' = s.drawn := hm.drawn
      have eo : os' = s.os := hm.os
      subst eg; subst ed; subst eo
      show wpAny _ _ _ _ _ _
      refine wpAny_pure ?_
      show wpAny _ _ (ret Value.none) _ _ _
      refine wpAny_pure ⟨rfl, h', tk', c', rfl, hS', by rw [← hisz]; exact hc', fun b o e => ?_⟩
      have hb0 : b < s.heap.objs.size := Heap.lt_size e
      exact hm.heap b o (by
        simp only [List.mem_cons, List.mem_singleton, List.not_mem_nil, or_false, not_or]
        exact ⟨Nat.ne_of_lt hb0, by rw [hz0]; exact Nat.ne_of_lt (Nat.lt_succ_of_lt hb0)⟩) (Heap.get?_push_of_some _ (up0 b o e))
    · match r₂, hr₂ with
      | .error e, hr₂ => exact hr₂
      | .ok (.next), hr₂ => exact hr₂.elim
      | .ok (.brk), hr₂ => exact hr₂.elim
      | .ok (.cont), hr₂ => exact hr₂.elim
      | .ok (.ret r), hr₂ =>
        obtain ⟨rfl, h', tk, c2, rfl, hS', hc2, hk'⟩ := hr₂
        repeat (any_goals (first | assumption | wp_step))
        exact h _ _ _ hS' hc2 hk'
end
end PV

/-! sorted of whole numbers, of a set of them: rules. -/
namespace PV
open PySem L2 PySem.Spec PyProof.Rows
section
variable {P : Program} {w : World} {A : Around} {E : Value → Shared → Prop} {s : Shared}
/-- sorted of a set, any number of members -/
theorem sorted_setN {a : Addr} {S : Int → Bool} {n : Nat} {Q : Value → Shared → Prop} (R : SetR w s.heap a S n) (hh : A.handled = none)
    (hQ : ∀ (s' : Shared) (p : Addr) (out : List Value) (c : Nat) (ns : List Int), (∀ b o, s.heap.get? b = some o → s'.heap.get? b = some o) → s'.gens = s.gens → s'.os = s.os → s.heap.objs.size ≤ p →
      s'.heap.get? p = some (seqObj "list" out.toArray c) → IntsAre out ns → ns.Pairwise (· < ·) → (∀ k, k ∈ ns ↔ S k = true) → Q (.ref p) s') :
    wpAny (model P w) A (call (.builtin "sorted") [.ref a]) Q E s := by
  obtain ⟨o, es, ep, t, ho, hex, hd, g, nd, hm, hb, hf, hn, hr, hl⟩ := R
  have hsz : es.toList.length ≤ sizeLine := by
    rw [Array.length_toList]
    exact fits_of_scanBound hb
  refine Calls.call_function_entry kind_sorted plain_sorted entry_sorted (args_sorted1 _) ?_
  unfold Builtin.«sorted»
  refine wpAny_bind (m := checkCount "sorted" 1 1 _) (wpAny_pure ?_)
  refine wpAny_bind (collect_set (A := A.in1) hh ⟨o, ho, hex.1, hd⟩ hf hb hr hl fun s1 vs k1 hz g1 o1 pm => ?_)
  have hvl : vs.length ≤ sizeLine := by rw [pm.length_eq, List.length_map]; exact hsz
  have hI : IntsAre vs (vs.map SrtO.iv) := SrtO.ints_iv fun v hv => by
    obtain ⟨e, he, q⟩ := List.mem_map.mp (pm.mem_iff.mp hv)
    obtain ⟨k, tk, h1, _⟩ := g e he
    exact ⟨k, tk, by rw [← q]; exact h1⟩
  have pk : (vs.map SrtO.iv).Perm (es.toList.map keyOf) := by
    have q := pm.map SrtO.iv
    rw [List.map_map] at q
    have e : es.toList.map (SrtO.iv ∘ fun x => x.2) = es.toList.map keyOf := List.map_congr_left fun x hx => by
      obtain ⟨k, tk, h1, _⟩ := g x hx
      show SrtO.iv x.2 = Builtin.Re.reRawOf x.2
      rw [h1]
      rfl
    rw [← e]
    exact q
  refine wpAny_bind (wpAny_newList ?_ hvl)
  have hoL : (s1.heap.push (seqObj "list" vs.toArray 0)).get? s1.heap.objs.size = some (seqObj "list" vs.toArray 0) := Heap.get?_push_size _ rfl
  refine wpAny_bind (wpAny_holding (wpAny_call_entry slot_list_sort ⟨_, hoL, rfl⟩ entry_list_sort (SrtO.list_sort_ord SrtO.swo_int hoL hvl (fun h2 => SrtO.ints_sortable hI h2) fun out h1 h2 => ⟨_, rfl, ?_⟩) (args_list_sort _)))
  obtain ⟨q1, q2, q3⟩ := SrtO.ints_out hI h1 h2
  obtain ⟨c, hc⟩ := sortedHeap_at (vs := vs) (out := out.toArray) hoL
  have pn : (out.map SrtO.iv).Perm (es.toList.map keyOf) := q2.trans pk
  refine wpAny_pure ⟨_, rfl, hQ _ s1.heap.objs.size out c (out.map SrtO.iv) (fun b u e => ?_) g1 o1 hz hc q1 (lt_of_le_nodup _ q3 (pn.nodup_iff.mpr nd)) (fun k => by rw [pn.mem_iff, ← hm k])⟩
  have q := k1 b u e
  have hlt := Heap.lt_size q
  show (sortedHeap (s1.heap.push (seqObj "list" vs.toArray 0)) s1.heap.objs.size vs out.toArray).get? b = some u
  rw [sortedHeap_old (Nat.ne_of_lt hlt) (by rw [size_push']; exact Nat.lt_succ_of_lt hlt)]
  exact Heap.get?_push_of_some _ q
end
/-- sorted(set(a)) -/
def tSS (K : PySem.W.Frag) (ta : TE) : TE := fun σ H Q => ta σ H fun x H1 => ∃ (l : Addr) (ns : List Int), x = .ref l ∧ SqL K H1 l (ns.map V.int) ∧ ns.length < 1000 ∧ ∀ p, H1 p = none → Q (.ref p) (upd H1 p (.lst ((sset ns).map V.int)))
section
variable {X : Cx} {cA : Nat → Addr} {W : WX}
theorem bt_sorted : bootBuiltins "sorted" = some (.builtin "sorted") := by decide +kernel
theorem bt_set : bootBuiltins "set" = some (.type "set") := by decide +kernel
theorem sortedSet_end {pins : List (Addr × Obj)} {σ : L2.St} {H1 : Hp} {s2 : Shared} {a : Addr} {ns : List Int} {c : Nat} {Q : VK} (hc : X.calm = true) (I2 : Inv X pins σ H1 s2) (hS : SetR X.w s2.heap a (fun j => decide (j ∈ ns)) c) (h1 : ns.length < 1000)
    (q1 : ∀ p, H1 p = none → Q (.ref p) (upd H1 p (.lst ((sset ns).map V.int)))) : wpAny (model X.prog X.w) X.A (call (.builtin "sorted") [.ref a]) (EP X pins σ Q) X.xe s2 := by
  refine sorted_setN hS (I2.ok.hd hc) fun s' p out c ms k g o hp hg hi hs hmem => ?_
  have e0 : ms = sset ns := rise_eq hs (sset_sorted ns) fun z => by rw [hmem z, mem_sset]; exact decide_eq_true_iff
  subst e0
  have hlen : ((sset ns).map V.int).length ≤ sizeLine := by
    have h2 := sset_len ns
    rw [List.length_map, sizeLine_eq]
    omega
  have hn : H1 p = none := I2.hok.fresh hp
  have J : Inv X pins σ (upd H1 p (.lst ((sset ns).map V.int))) { s2 with heap := s'.heap, gens := s'.gens, drawn := s'.drawn, toks := s'.toks } :=
    I2.call (ch := []) (Un.laid k hp hn) (I2.hok.laid k hp ⟨hlen, out, c, vals_of_ints hi, hg⟩) (by rw [g]; exact I2.bare) (fun _ z => nomatch z)
  have e : s' = { s2 with heap := s'.heap, gens := s'.gens, drawn := s'.drawn, toks := s'.toks } := by
    cases s'
    cases s2
    cases o
    rfl
  rw [e]
  exact ⟨.ref p, _, J, rfl, q1 p hn⟩
theorem pe_SS {a : Expr} {ta : TE} {p p2 q pos : Pos} (hc : X.calm = true) (hg : Gl X "sorted") (hm : X.mg "sorted" = none) (hg2 : Gl X "set") (hm2 : X.mg "set" = none) (ha : PE X a ta)
    (na : starEach [a] X.env = (false, eval a X.env) :: starEach [] X.env := by rfl) : PE X (.Call (.Name "sorted" p) [.Call (.Name "set" p2) [a] [] q] [] pos) (tSS X.K ta) := by
  refine ⟨fun pins s σ H Q I h => ?_⟩
  refine Call_ (ld_blt I hg hm bt_sorted ?_)
  refine PyProof.Rows.callWith_builtin1 (PyProof.Rows.args_cons ?_ rfl) rfl rfl
  refine Call_ (ld_blt I hg2 hm2 bt_set ?_)
  refine PyProof.Rows.callWith_type1 (PyProof.Rows.args_cons (thn (ha.run pins s σ H _ I h) fun v s1 ⟨x, H1, I1, r1, q1⟩ => PyProof.Rows.args_nil ?_) na) na rfl
  obtain ⟨l, ns, rfl, hq, h1, q1⟩ := q1
  cases r1
  obtain ⟨its, r, pl, hz⟩ := I1.list hq
  refine set_ints ns (I1.ok.hd hc) pl.isList (by simpa using r.ints) h1 fun h' tk c hS _ hk => ?_
  refine PyProof.Rows.args_nil ?_
  have I2 : Inv X pins σ H1 { s1 with heap := h', toks := tk } := I1.kept fun b o e => hk b o e
  exact sortedSet_end hc I2 hS h1 q1
theorem repWs_ints {K : PySem.W.Frag} {f : Nat → Option Addr} {H : Hp} (ns : List Int) : RepWs K cA f H (ns.map fun n => Vl.p (.int n)) (ns.map V.int) := by
  have := repWs_map (cA := cA) (f := f).mpr (repDs_ofInts (K := K) (H := H) ns)
  rw [List.map_map] at this
  exact this
theorem e_sset {a : Expr} {m : M} {p p2 q pos : Pos} (hc : X.calm = true) (hg : Gl X "sorted") (hm : X.mg "sorted" = none) (hg2 : Gl X "set") (hm2 : X.mg "set" = none) (ha : PE X a (tE X.K cA W m))
    (na : starEach [a] X.env = (false, eval a X.env) :: starEach [] X.env := by rfl) : PE X (.Call (.Name "sorted" p) [.Call (.Name "set" p2) [a] [] q] [] pos) (tE X.K cA W (m1 ssetV m)) := ⟨fun pins s σ H Q I h => by
  refine thn ((pe_SS hc hg hm hg2 hm2 ha na).run pins s σ H (fzQ Q) I ?_) fun _ _ z => ep_fz z
  obtain ⟨f, e, S, r, er, q⟩ := h
  refine ⟨f, e, S, r, er, okE.bind q fun g H1 w S1 v X1 r1 q1 h1 => ?_⟩
  unfold ssetV at h1
  split at h1
  · rename_i ns e1
    split at h1
    · rename_i hl
      obtain ⟨l, rfl, sq⟩ := intsV_rep r1 q1 e1
      exact ⟨l, ns, rfl, sq, hl, fun p hp => (okO.newF r1 (repWs_ints (sset ns)) (okO.of h1 (nox_lstF _ _)) hp).2⟩
    · exact False.elim h1
  · exact False.elim h1⟩
theorem b_sort : CallB X cA (.builtin "sorted") (f1 sortV) := callB_one (fun pins s σ H x u Q f S w I ru r rw' q => by
  unfold sortV at q
  split at q
  · rename_i ns e1
    obtain ⟨a, rfl, l⟩ := intsV_rep r rw' e1
    refine call_fz cr_sortedI pins s σ H _ _ Q I (.cons ru .nil) ⟨a, ns, rfl, l, fun ns' p h1 h2 hp => ?_⟩
    have e0 : ns' = ssort ns := sort_eq h2 (ssort_sorted ns) (h1.trans (ssort_perm ns).symm)
    subst e0
    exact (okO.newF r (repWs_ints (ssort ns)) q hp).2
  · exact q.elim) fun u S => by
  unfold sortV
  split
  · exact nox_lstF _ _
  · exact nox_bad
end
end PV

/-! Lists read from the end. -/
namespace PV
open PySem L2
/-- a[::-1] -/
def revV (u : Vl) (S : Sto) : R Vl := match asL S u with
  | some vs => lstF vs.reverse S
  | none => .bad
end PV

/-! Lists read from the end: the rule. -/
namespace PV
open PySem L2 PySem.Spec PyProof.Rows
section
variable {X : Cx} {cA : Nat → Addr} {W : WX}
theorem repWs_rev {K : PySem.W.Frag} {cA : Nat → Addr} {f : Nat → Option Addr} {H : Hp} : ∀ {vs : List Vl} {xs : List V}, RepWs K cA f H vs xs → RepWs K cA f H vs.reverse xs.reverse
  | [], xs, h => by
    have e : xs = [] := h
    rw [e]
    exact rfl
  | v :: vs, xs, ⟨x, r, e, h1, h2⟩ => by
    rw [e, List.reverse_cons, List.reverse_cons]
    exact repWs_append (repWs_rev h2) ⟨x, [], rfl, h1, rfl⟩
theorem e_rev {a : Expr} {m : M} {k : Nat} {p1 p2 p3 pos : Pos} (ha : PE X a (tE X.K cA W m)) : PE X (.Subscript a (.Slice none none (some (.UnaryOp .USub (.Constant (.int 1) k p1) p2)) p3) pos) (tE X.K cA W (m1 revV m)) := ⟨fun pins s σ H Q I h => by
  refine thn ((pe_revL ha).run pins s σ H (fzQ Q) I ?_) fun _ _ z => ep_fz z
  obtain ⟨f, e, S, r, er, q⟩ := h
  refine ⟨f, e, S, r, er, okE.bind q fun g H1 w S1 v X1 r1 q1 h1 => ?_⟩
  unfold revV at h1
  split at h1
  · rename_i vs e1
    obtain ⟨l, xs, rfl, sq, dx⟩ := asL_rep r1 q1 e1
    exact ⟨l, xs, rfl, sq, fun p hp => (okO.newF r1 (repWs_rev dx) (okO.of h1 (nox_lstF _ _)) hp).2⟩
  · exact False.elim h1⟩
end
end PV

/-! A list of a range. -/
namespace PV
open PySem L2
/-- list(range(a, b)) -/
def rgL (u v : Vl) (S : Sto) : R Vl := match u, v with
  | .p (.int i), .p (.int j) => if -1000000000 ≤ i ∧ i ≤ 1000000000 ∧ -1000000000 ≤ j ∧ j ≤ 1000000000 ∧ j - i ≤ 16777216 then lstF (rngV i j) S else .bad
  | _, _ => .bad
end PV

/-! A list of a range: the rule. -/
namespace PV
open PySem L2 PySem.Spec PyProof.Rows
section
variable {X : Cx} {cA : Nat → Addr} {W : WX}
theorem repWs_rng {K : PySem.W.Frag} {f : Nat → Option Addr} {H : Hp} (i j : Int) : RepWs K cA f H (rngV i j) (rgV i j) := by
  have h := repWs_ints (K := K) (cA := cA) (f := f) (H := H) ((List.range (j - i).toNat).map fun (k : Nat) => i + k)
  rw [List.map_map, List.map_map] at h
  exact h
theorem nox_rgL (u v : Vl) (S : Sto) : NoX (rgL u v S) := by
  unfold rgL
  split
  · split
    · exact nox_lstF _ _
    · exact nox_bad
  · exact nox_bad
theorem e_listRg {a b : Expr} {ma mb : M} {p p2 q pos : Pos} (hc : X.calm = true) (hg : Gl X "list") (hm : X.mg "list" = none) (hg2 : Gl X "range") (hm2 : X.mg "range" = none) (ha : PE X a (tE X.K cA W ma)) (hb : PE X b (tE X.K cA W mb))
    (na : starEach [a, b] X.env = (false, eval a X.env) :: starEach [b] X.env := by rfl) (nb : starEach [b] X.env = (false, eval b X.env) :: starEach [] X.env := by rfl) (hp : (backTo q (starEach [b] X.env)).any (·.1) = false := by rfl)
    (nc : starEach [Expr.Call (.Name "range" p2) [a, b] [] q] X.env = (false, eval (Expr.Call (.Name "range" p2) [a, b] [] q) X.env) :: starEach [] X.env := by rfl) :
    PE X (.Call (.Name "list" p) [.Call (.Name "range" p2) [a, b] [] q] [] pos) (tE X.K cA W (m2 rgL ma mb)) := ⟨fun pins s σ H Q I h => by
  refine thn ((pe_listRg hc hg hm (prg_2 hg2 hm2 ha hb na nb hp) nc).run pins s σ H (fzQ Q) I ?_) fun _ _ z => ep_fz z
  obtain ⟨f, e, S, r, er, q⟩ := h
  refine ⟨f, e, S, r, er, okE.bind q fun g H1 w S1 v X1 r1 q1 h1 => ?_⟩
  refine ⟨g, e, S1, r1, X1.envR er, okE.bind h1 fun g2 H2 w2 S2 v2 X2 r2 q2 h2 => ?_⟩
  have h3 := okO.of h2 (nox_rgL _ _ _)
  unfold rgL at h3
  split at h3
  · rename_i i j
    split at h3
    · rename_i hb2
      have e1 := repD_int.mp (repW_p.mp (X2.repW q1))
      have e2 := repD_int.mp (repW_p.mp q2)
      refine ⟨i, j, e1, e2, ⟨by omega, by omega, by omega, by omega, by omega⟩, fun p hp => ?_⟩
      exact (okO.newF r2 (repWs_rng i j) h3 hp).2
    · exact False.elim h3
  · exact False.elim h3⟩
end
end PV

namespace PV
open PySem L2
def c_LENGTHS : D := .tuple [.int 31, .int 28, .int 31, .int 30, .int 31, .int 30, .int 31, .int 31, .int 30, .int 31, .int 30, .int 31]
/-- year -/
noncomputable def M_is_leap : MS :=
  sSeq (sIf (m2 eqV (m2 modV (mVar 0) (mC (.int 100))) (mC (.int 0)))
  (sRet (m2 eqV (m2 modV (mVar 0) (mC (.int 400))) (mC (.int 0))))
  (sNop)) (
  sRet (m2 eqV (m2 modV (mVar 0) (mC (.int 4))) (mC (.int 0))))
noncomputable def F_is_leap : Fn := fnOf 1 1 M_is_leap
/-- year, month -/
noncomputable def M_days_in : MS :=
  sSeq (sIf (mOr (mNot (mChain leV leV (mC (.int 1)) (mVar 0) (mC (.int 9999)))) (mNot (mChain leV leV (mC (.int 1)) (mVar 1) (mC (.int 12)))))
  (sRaise 1)
  (sNop)) (
  sRet (m2 addV (m2 ixV (mC c_LENGTHS) (m2 subV (mVar 1) (mC (.int 1)))) (mCall (f1 intV) [mAnd (m2 eqV (mVar 1) (mC (.int 2))) (mCall F_is_leap [mVar 0])])))
noncomputable def F_days_in : Fn := fnOf 2 2 M_days_in
/-- _law_year_here, _law_month_here -/
noncomputable def M_long_k01 : MS :=
  sSeq (sKl [0] (sIf (m2 eqV (mVar 1) (mC (.int 2)))
  (sRet (m2 addV (mC (.int 28)) (mCall (f1 intV) [mOr (mAnd (m2 eqV (m2 modV (mVar 0) (mC (.int 4))) (mC (.int 0))) (m2 gtV (m2 modV (mVar 0) (mC (.int 100))) (mC (.int 0)))) (m2 eqV (m2 modV (mVar 0) (mC (.int 400))) (mC (.int 0)))])))
  (sNop))) (
  sRet (m2 ixV (mLstF [mC (.int 31), mC (.int 30)]) (mCall (f1 intV) [m2 (inV false) (mVar 1) (mTup [mC (.int 4), mC (.int 6), mC (.int 9), mC (.int 11)])])))
noncomputable def F_long_k01 : Fn := fnOf 2 2 M_long_k01
/-- _law_error, _law_some -/
noncomputable def M_alone_k01 : MS :=
  sSeq (sIf (mOr (mNot (m1 (isxV (lk [(1, true)])) (mVar 0))) (mOr (mNot (m1 (isxV (lk [(1, true)])) (mVar 0))) (mNot (m1 (isxV (lk [(1, true)])) (mVar 0)))))
  (sRet (mC (.bool false)))
  (sNop)) (
  sSeq (sAsg (gNm 1) (mLstF [m1 (isxV (lk [(1, false)])) (mVar 0), m1 (isxV (lk [(1, false)])) (mVar 0), m1 (isxV (lk [(1, false)])) (mVar 0)])) (
  sSeq (sAsg (gNm 1) (m2 addV (mVar 1) (mLstF [m1 (isxV (lk [(1, false)])) (mVar 0), m1 (isxV (lk [(1, false)])) (mVar 0), m1 (isxV (lk [(1, false)])) (mVar 0)]))) (
  sRet (mNot (mCall (f1 anyV) [m2 addV (mVar 1) (mLstF [m1 (isxV (lk [(1, false)])) (mVar 0), m1 (isxV (lk [(1, false)])) (mVar 0)])])))))
noncomputable def F_alone_k01 : Fn := fnOf 1 2 M_alone_k01
noncomputable def M_right_k01_b1 : MS :=
  sAsg (gNm 3) (mCall F_days_in [mVar 0, mVar 1])
/-- _law_year_here, _law_month_here, _law_fault, _law_found, e -/
noncomputable def M_right_k01 : MS :=
  sSeq (sAsg (gNm 2) (mC .none)) (
  sSeq (sAsg (gNm 3) (mC .none)) (
  sSeq (sKl [4] (sTry 4 (lk [(1, true)])
  (M_right_k01_b1)
  (sAsg (gNm 2) (mVar 4)))) (
  sSeq (sKl [2] (sIf (mOr (mNot (mChain leV leV (mC (.int 1)) (mVar 0) (mC (.int 9999)))) (mNot (mChain leV leV (mC (.int 1)) (mVar 1) (mC (.int 12)))))
  (sRet (mAnd (m2 (isV false) (mVar 3) (mC .none)) (mCall F_alone_k01 [mVar 2])))
  (sNop))) (
  sSeq (sIf (mOr (mNot (m1 (isiV "int") (mVar 3))) (m1 (isiV "bool") (mVar 3)))
  (sRet (mC (.bool false)))
  (sNop)) (
  sRet (m2 eqV (mVar 3) (mCall F_long_k01 [mVar 0, mVar 1])))))))
noncomputable def F_right_k01 : Fn := fnOf 2 5 M_right_k01
/-- _law_cell, _law_most, _law_far -/
noncomputable def M_beyond_k01 : MS :=
  sSeq (sAsg (gNm 2) (m2 modV (m2 fdivV (mVar 0) (mC (.int 8))) (m2 powV (mC (.int 10)) (mC (.int 60))))) (
  sRet (m2 ixV (mLstF [mC (.int 0), m2 addV (mVar 1) (mC (.int 1)), m2 subV (mC (.int 0)) (mVar 2), m2 addV (m2 addV (mVar 1) (mC (.int 1))) (mVar 2), m2 subV (m1 negV (mC (.int 1))) (mVar 2), m2 addV (mVar 1) (mC (.int 12)), m2 subV (mC (.int 0)) (mVar 1), mC (.int 0)]) (m2 modV (mVar 0) (mC (.int 8)))))
noncomputable def F_beyond_k01 : Fn := fnOf 2 3 M_beyond_k01
/-- _law_cell -/
noncomputable def M_year_k01 : MS :=
  sSeq (sIf (m2 eqV (m2 modV (mVar 0) (mC (.int 6))) (mC (.int 5)))
  (sRet (mCall F_beyond_k01 [m2 fdivV (mVar 0) (mC (.int 6)), mC (.int 9999)]))
  (sNop)) (
  sSeq (sIf (m2 eqV (m2 modV (mVar 0) (mC (.int 6))) (mC (.int 4)))
  (sRet (mCall fMin [mC (.int 9999), mCall fMax [mC (.int 1), m2 subV (m2 addV (m2 mulV (m2 modV (m2 fdivV (mVar 0) (mC (.int 6))) (mC (.int 101))) (mC (.int 100))) (m2 modV (m2 fdivV (mVar 0) (mC (.int 606))) (mC (.int 3)))) (mC (.int 1))]]))
  (sNop)) (
  sRet (m2 addV (mC (.int 1)) (m2 modV (m2 fdivV (mVar 0) (mC (.int 6))) (mC (.int 9999))))))
noncomputable def F_year_k01 : Fn := fnOf 1 1 M_year_k01
/-- _law_cell -/
noncomputable def M_month_k01 : MS :=
  sSeq (sIf (m2 eqV (m2 modV (mVar 0) (mC (.int 6))) (mC (.int 5)))
  (sRet (mCall F_beyond_k01 [m2 fdivV (mVar 0) (mC (.int 6)), mC (.int 12)]))
  (sNop)) (
  sRet (m2 addV (mC (.int 1)) (m2 ixV (mLstF [m2 modV (m2 fdivV (mVar 0) (mC (.int 6))) (mC (.int 12)), mC (.int 1)]) (mCall (f1 intV) [m2 eqV (m2 modV (mVar 0) (mC (.int 6))) (mC (.int 4))]))))
noncomputable def F_month_k01 : Fn := fnOf 1 1 M_month_k01
noncomputable def M_law_k01_b1 : MS :=
  sKl [1] (sSeq (sIf (mNot (mCall F_right_k01 [mCall F_year_k01 [m2 fdivV (mVar 1) (mC (.int 36))], mCall F_month_k01 [mVar 1]]))
  (sRet (mC (.bool false)))
  (sNop)) (
  sKl [1] (sIf (mNot (mCall F_right_k01 [mCall F_year_k01 [mVar 1], mCall F_month_k01 [m2 modV (m2 mulV (mVar 1) (mC (.int 48271))) (mC (.int 2147483647))]]))
  (sRet (mC (.bool false)))
  (sNop))))
/-- _law_script, _law_cell -/
noncomputable def M_law_k01 : MS :=
  sSeq (sKl [0] (sFor (gNm 1) (itL (m2 addV (mSl (mVar 0) oNo (oAt (mC (.int 60)))) (mLstF [mC (.int 0)])))
  (M_law_k01_b1))) (
  sRet (mC (.bool true)))
noncomputable def F_law_k01 : Fn := fnOf 1 2 M_law_k01
end PV

namespace PV
open PySem L2
/-- _law_year, _law_month -/
noncomputable def M_long_k02 : MS :=
  sSeq (sKl [0] (sIf (m2 eqV (mVar 1) (mC (.int 2)))
  (sRet (m2 addV (mC (.int 28)) (mCall (f1 intV) [mOr (mAnd (m2 eqV (m2 modV (mVar 0) (mC (.int 4))) (mC (.int 0))) (m2 gtV (m2 modV (mVar 0) (mC (.int 100))) (mC (.int 0)))) (m2 eqV (m2 modV (mVar 0) (mC (.int 400))) (mC (.int 0)))])))
  (sNop))) (
  sRet (m2 ixV (mLstF [mC (.int 31), mC (.int 30)]) (mCall (f1 intV) [m2 (inV false) (mVar 1) (mTup [mC (.int 4), mC (.int 6), mC (.int 9), mC (.int 11)])])))
noncomputable def F_long_k02 : Fn := fnOf 2 2 M_long_k02
noncomputable def M_starts_k02_b1 : MS :=
  sKl [1] (sExpr (mML oApp (mVar 0) [m2 addV (m2 addV (m2 ixV (mVar 0) (m1 negV (mC (.int 1)))) (mC (.int 337))) (mCall F_long_k02 [mVar 1, mC (.int 2)])]))
/-- _law_found, _law_year -/
noncomputable def M_starts_k02 : MS :=
  sSeq (sAsg (gNm 0) (mLstM [mC (.int 0)])) (
  sSeq (sFor (gNm 1) (itR2 (mC (.int 1)) (mC (.int 400)))
  (M_starts_k02_b1)) (
  sSeq (sFz 0) (sRet (mVar 0))))
noncomputable def F_starts_k02 : Fn := fnOf 0 2 M_starts_k02
/-- _law_cell, _law_way -/
noncomputable def M_first_k02 : MS :=
  sSeq (sAsg (gNm 1) (m2 modV (mVar 0) (mC (.int 4)))) (
  sSeq (sIf (m2 eqV (mVar 1) (mC (.int 0)))
  (sRet (m2 modV (m2 fdivV (mVar 0) (mC (.int 4))) (mC (.int 3652059))))
  (sNop)) (
  sSeq (sKl [1] (sIf (m2 eqV (mVar 1) (mC (.int 1)))
  (sRet (m2 ixV (mLstF [mC (.int 0), mC (.int 3652058), mC (.int 58), mC (.int 59), mC (.int 365), mC (.int 146096), mC (.int 146097), mC (.int 3651999)]) (m2 modV (m2 fdivV (mVar 0) (mC (.int 4))) (mC (.int 8)))))
  (sNop))) (
  sRet (mCall fMin [mC (.int 3652058), m2 addV (m2 mulV (m2 modV (m2 fdivV (mVar 0) (mC (.int 4))) (mC (.int 101))) (mC (.int 36524))) (m2 modV (m2 fdivV (mVar 0) (mC (.int 404))) (mC (.int 130)))]))))
noncomputable def F_first_k02 : Fn := fnOf 1 2 M_first_k02
/-- year, gone -/
noncomputable def M_days_ahead : MS :=
  sSeq (sAsg (gNm 1) (m2 subV (mVar 0) (mC (.int 1)))) (
  sRet (m2 addV (m2 subV (m2 addV (m2 mulV (mVar 1) (mC (.int 365))) (m2 fdivV (mVar 1) (mC (.int 4)))) (m2 fdivV (mVar 1) (mC (.int 100)))) (m2 fdivV (mVar 1) (mC (.int 400)))))
noncomputable def F_days_ahead : Fn := fnOf 1 2 M_days_ahead
noncomputable def M_date_of_b1 : MS :=
  sAug 1 (augI (· - ·)) (mC (.int 1))
noncomputable def M_date_of_b2 : MS :=
  sAug 1 (augI (· + ·)) (mC (.int 1))
noncomputable def M_date_of_b3 : MS :=
  sSeq (sAug 2 (augI (· - ·)) (mCall F_days_in [mVar 1, mVar 3])) (
  sAug 3 (augI (· + ·)) (mC (.int 1)))
/-- number, year, left, month -/
noncomputable def M_date_of : MS :=
  sSeq (sIf (mNot (mChain leV leV (mC (.int 0)) (mVar 0) (mC (.int 3652058))))
  (sRaise 1)
  (sNop)) (
  sSeq (sAsg (gNm 1) (m2 addV (m2 fdivV (m2 mulV (mVar 0) (mC (.int 400))) (mC (.int 146097))) (mC (.int 1)))) (
  sSeq (sWhile (m2 gtV (mCall F_days_ahead [mVar 1]) (mVar 0))
  (M_date_of_b1)) (
  sSeq (sWhile (m2 leV (mCall F_days_ahead [m2 addV (mVar 1) (mC (.int 1))]) (mVar 0))
  (M_date_of_b2)) (
  sSeq (sAsg (gNm 2) (m2 subV (mVar 0) (mCall F_days_ahead [mVar 1]))) (
  sSeq (sAsg (gNm 3) (mC (.int 1))) (
  sSeq (sWhile (m2 geV (mVar 2) (mCall F_days_in [mVar 1, mVar 3]))
  (M_date_of_b3)) (
  sRet (mTup [mVar 1, mVar 3, m2 addV (mVar 2) (mC (.int 1))]))))))))
noncomputable def F_date_of : Fn := fnOf 1 4 M_date_of
/-- _law_script, _law_k -/
noncomputable def M_cell_at_k02 : MS :=
  sSeq (sKl [0, 1] (sIf (m2 ltV (mVar 1) (mCall (f1 lenV) [mVar 0]))
  (sRet (m2 ixV (mVar 0) (mVar 1)))
  (sNop))) (
  sRet (mC (.int 0)))
noncomputable def F_cell_at_k02 : Fn := fnOf 2 2 M_cell_at_k02
/-- year, month, day, k -/
noncomputable def M_day_of : MS :=
  sSeq (sIf (mNot (mChain leV leV (mC (.int 1)) (mVar 2) (mCall F_days_in [mVar 0, mVar 1])))
  (sRaise 1)
  (sNop)) (
  sRet (m2 subV (m2 addV (m2 addV (mCall F_days_ahead [mVar 0]) (mCall (f1 sumV) [mLc [3] (gNm 3) (itR2 (mC (.int 1)) (mVar 1)) (mYes) (mCall F_days_in [mVar 0, mVar 3]) lstF])) (mVar 2)) (mC (.int 1))))
noncomputable def F_day_of : Fn := fnOf 3 4 M_day_of
noncomputable def M_is_date_k02_b1 : MS :=
  sKl [1] (sKl [1] (sIf (mOr (mNot (m1 (isiV "int") (mVar 1))) (m1 (isiV "bool") (mVar 1)))
  (sRet (mC (.bool false)))
  (sNop)))
/-- _law_found, _law_part, _law_year, _law_month, _law_day -/
noncomputable def M_is_date_k02 : MS :=
  sSeq (sIf (mOr (mNot (m1 (isiV "tuple") (mVar 0))) (m2 neV (mCall (f1 lenV) [mVar 0]) (mC (.int 3))))
  (sRet (mC (.bool false)))
  (sNop)) (
  sSeq (sFor (gNm 1) (itT (mVar 0))
  (M_is_date_k02_b1)) (
  sSeq (sAsg (gTp [gNm 2, gNm 3, gNm 4]) (mVar 0)) (
  sRet (mAnd (mChain leV leV (mC (.int 1)) (mVar 2) (mC (.int 9999))) (mAnd (mChain leV leV (mC (.int 1)) (mVar 3) (mC (.int 12))) (mChain leV leV (mC (.int 1)) (mVar 4) (mCall F_long_k02 [mVar 2, mVar 3])))))))
noncomputable def F_is_date_k02 : Fn := fnOf 1 5 M_is_date_k02
noncomputable def M_counted_k02_b1 : MS :=
  sKl [6] (sAsg (gNm 5) (m2 addV (mVar 5) (mCall F_long_k02 [mVar 2, mVar 6])))
/-- _law_date, _law_starts_here, _law_year, _law_month, _law_day, _law_number, _law_one -/
noncomputable def M_counted_k02 : MS :=
  sSeq (sAsg (gTp [gNm 2, gNm 3, gNm 4]) (mVar 0)) (
  sSeq (sAsg (gNm 5) (m2 addV (m2 mulV (m2 fdivV (m2 subV (mVar 2) (mC (.int 1))) (mC (.int 400))) (mC (.int 146097))) (m2 ixV (mVar 1) (m2 modV (m2 subV (mVar 2) (mC (.int 1))) (mC (.int 400)))))) (
  sSeq (sKl [2, 3] (sFor (gNm 6) (itR2 (mC (.int 1)) (mVar 3))
  (M_counted_k02_b1))) (
  sRet (m2 subV (m2 addV (mVar 5) (mVar 4)) (mC (.int 1))))))
noncomputable def F_counted_k02 : Fn := fnOf 2 7 M_counted_k02
/-- _law_number, _law_starts_here, _law_date, _law_found -/
noncomputable def M_right_k02 : MS :=
  sSeq (sAsg (gNm 2) (mCall F_date_of [mVar 0])) (
  sSeq (sKl [1] (sIf (mOr (mNot (mCall F_is_date_k02 [mVar 2])) (m2 neV (mCall F_counted_k02 [mVar 2, mVar 1]) (mVar 0)))
  (sRet (mC (.bool false)))
  (sNop))) (
  sSeq (sAsg (gNm 3) (mCall F_day_of [m2 ixV (mVar 2) (mC (.int 0)), m2 ixV (mVar 2) (mC (.int 1)), m2 ixV (mVar 2) (mC (.int 2))])) (
  sRet (mAnd (m1 (isiV "int") (mVar 3)) (mAnd (mNot (m1 (isiV "bool") (mVar 3))) (m2 eqV (mVar 3) (mVar 0)))))))
noncomputable def F_right_k02 : Fn := fnOf 2 4 M_right_k02
/-- _law_date, _law_year, _law_month, _law_day -/
noncomputable def M_next_k02 : MS :=
  sSeq (sAsg (gTp [gNm 1, gNm 2, gNm 3]) (mVar 0)) (
  sSeq (sKl [3] (sIf (m2 ltV (mVar 3) (mCall F_long_k02 [mVar 1, mVar 2]))
  (sRet (mTup [mVar 1, mVar 2, m2 addV (mVar 3) (mC (.int 1))]))
  (sNop))) (
  sSeq (sKl [2] (sIf (m2 ltV (mVar 2) (mC (.int 12)))
  (sRet (mTup [mVar 1, m2 addV (mVar 2) (mC (.int 1)), mC (.int 1)]))
  (sNop))) (
  sRet (mTup [m2 addV (mVar 1) (mC (.int 1)), mC (.int 1), mC (.int 1)]))))
noncomputable def F_next_k02 : Fn := fnOf 1 4 M_next_k02
noncomputable def M_law_k02_b1 : MS :=
  sKl [4] (sSeq (sAsg (gNm 3) (mCall F_next_k02 [mVar 3])) (
  sKl [4] (sIf (mOr (m2 neV (mCall F_date_of [m2 addV (m2 addV (mVar 2) (mVar 4)) (mC (.int 1))]) (mVar 3)) (m2 neV (mCall F_day_of [m2 ixV (mVar 3) (mC (.int 0)), m2 ixV (mVar 3) (mC (.int 1)), m2 ixV (mVar 3) (mC (.int 2))]) (m2 addV (m2 addV (mVar 2) (mVar 4)) (mC (.int 1)))))
  (sRet (mC (.bool false)))
  (sNop))))
noncomputable def M_law_k02_b2 : MS :=
  sKl [5, 6, 7] (sSeq (sAsg (gNm 6) (m2 ixV (mLstF [m2 modV (m2 fdivV (mVar 5) (mC (.int 3))) (mC (.int 32)), m2 modV (m2 fdivV (mVar 5) (mC (.int 3))) (mC (.int 800)), m2 modV (m2 fdivV (mVar 5) (mC (.int 3))) (mC (.int 3652059))]) (m2 modV (mVar 5) (mC (.int 3))))) (
  sSeq (sAsg (gNm 7) (mCall fMin [mC (.int 3652058), mCall fMax [mC (.int 0), m2 addV (mVar 2) (m2 ixV (mLstF [mVar 6, m2 subV (mC (.int 0)) (mVar 6)]) (m2 modV (m2 fdivV (mVar 5) (mC (.int 7))) (mC (.int 2))))]])) (
  sSeq (sIf (mNot (mCall F_right_k02 [mVar 7, mVar 1]))
  (sRet (mC (.bool false)))
  (sNop)) (
  sAsg (gNm 2) (mVar 7)))))
/-- _law_script, _law_starts_here, _law_number, _law_date, _law_k, _law_cell, _law_step, _law_other -/
noncomputable def M_law_k02 : MS :=
  sSeq (sAsg (gNm 1) (mCall F_starts_k02 [])) (
  sSeq (sAsg (gNm 2) (mCall F_first_k02 [mCall F_cell_at_k02 [mVar 0, mC (.int 0)]])) (
  sSeq (sIf (mNot (mCall F_right_k02 [mVar 2, mVar 1]))
  (sRet (mC (.bool false)))
  (sNop)) (
  sSeq (sAsg (gNm 3) (mCall F_date_of [mVar 2])) (
  sSeq (sKl [3] (sFor (gNm 4) (itR1 (mCall fMin [m2 modV (mCall F_cell_at_k02 [mVar 0, mC (.int 1)]) (mC (.int 401)), m2 subV (mC (.int 3652058)) (mVar 2)]))
  (M_law_k02_b1))) (
  sSeq (sKl [0, 1, 2] (sFor (gNm 5) (itL (mSl (mVar 0) (oAt (mC (.int 2))) (oAt (mC (.int 62)))))
  (M_law_k02_b2))) (
  sRet (mC (.bool true))))))))
noncomputable def F_law_k02 : Fn := fnOf 1 8 M_law_k02
end PV

namespace PV
open PySem L2
/-- _law_cell, _law_year, _law_month -/
noncomputable def M_day_k04 : MS :=
  sSeq (sIf (m2 eqV (m2 modV (mVar 0) (mC (.int 2))) (mC (.int 0)))
  (sRet (m2 modV (m2 fdivV (mVar 0) (mC (.int 2))) (mC (.int 3652059))))
  (sNop)) (
  sSeq (sAsg (gNm 1) (m2 addV (mC (.int 1)) (m2 modV (m2 fdivV (mVar 0) (mC (.int 2))) (mC (.int 9999))))) (
  sSeq (sAsg (gNm 2) (m2 addV (mC (.int 1)) (m2 modV (m2 fdivV (mVar 0) (mC (.int 20000))) (mC (.int 12))))) (
  sRet (mCall F_day_of [mVar 1, mVar 2, m2 subV (mCall F_long_k02 [mVar 1, mVar 2]) (m2 modV (m2 fdivV (mVar 0) (mC (.int 240000))) (mC (.int 4)))]))))
noncomputable def F_day_k04 : Fn := fnOf 1 3 M_day_k04
noncomputable def M_due_k04_b1 : MS :=
  sAsg (gNm 4) (m2 subV (mVar 4) (mC (.int 1)))
/-- _law_number, _law_many_here, _law_year, _law_month, _law_day_here, _law_months -/
noncomputable def M_due_k04 : MS :=
  sSeq (sAsg (gTp [gNm 2, gNm 3, gNm 4]) (mCall F_date_of [mVar 0])) (
  sSeq (sAsg (gNm 5) (m2 addV (m2 subV (m2 addV (m2 mulV (m2 subV (mVar 2) (mC (.int 1))) (mC (.int 12))) (mVar 3)) (mC (.int 1))) (mVar 1))) (
  sSeq (sIf (mOr (m2 ltV (mVar 5) (mC (.int 0))) (m2 geV (mVar 5) (mC (.int 119988))))
  (sRet (mC .none))
  (sNop)) (
  sSeq (sAsg (gNm 2) (m2 addV (m2 fdivV (mVar 5) (mC (.int 12))) (mC (.int 1)))) (
  sSeq (sAsg (gNm 3) (m2 addV (m2 modV (mVar 5) (mC (.int 12))) (mC (.int 1)))) (
  sSeq (sWhile (m2 gtV (mVar 4) (mCall F_long_k02 [mVar 2, mVar 3]))
  (M_due_k04_b1)) (
  sRet (mTup [mVar 2, mVar 3, mVar 4])))))))
noncomputable def F_due_k04 : Fn := fnOf 2 6 M_due_k04
/-- number, many, year, month, day, behind -/
noncomputable def M_months_on : MS :=
  sSeq (sAsg (gTp [gNm 2, gNm 3, gNm 4]) (mCall F_date_of [mVar 0])) (
  sSeq (sAsg (gTp [gNm 2, gNm 5]) (mCall (f2 dvmV) [m2 addV (m2 subV (m2 addV (m2 mulV (mVar 2) (mC (.int 12))) (mVar 3)) (mC (.int 1))) (mVar 1), mC (.int 12)])) (
  sRet (mCall F_day_of [mVar 2, m2 addV (mVar 5) (mC (.int 1)), mCall fMin [mVar 4, mCall F_days_in [mVar 2, m2 addV (mVar 5) (mC (.int 1))]]])))
noncomputable def F_months_on : Fn := fnOf 2 6 M_months_on
noncomputable def M_right_k04_b1 : MS :=
  sAsg (gNm 3) (mCall F_months_on [mVar 0, mVar 1])
/-- _law_number, _law_many_here, _law_fault, _law_found, e, _law_due_here -/
noncomputable def M_right_k04 : MS :=
  sSeq (sAsg (gNm 2) (mC .none)) (
  sSeq (sAsg (gNm 3) (mC .none)) (
  sSeq (sKl [4] (sTry 4 (lk [(1, true)])
  (M_right_k04_b1)
  (sAsg (gNm 2) (mVar 4)))) (
  sSeq (sAsg (gNm 5) (mCall F_due_k04 [mVar 0, mVar 1])) (
  sSeq (sKl [2] (sIf (m2 (isV false) (mVar 5) (mC .none))
  (sRet (mAnd (m2 (isV false) (mVar 3) (mC .none)) (mCall F_alone_k01 [mVar 2])))
  (sNop))) (
  sSeq (sKl [5] (sIf (mOr (mNot (m1 (isiV "int") (mVar 3))) (mOr (m1 (isiV "bool") (mVar 3)) (m2 neV (mCall F_date_of [mVar 3]) (mVar 5))))
  (sRet (mC (.bool false)))
  (sNop))) (
  sRet (mOr (m2 gtV (m2 ixV (mCall F_date_of [mVar 0]) (mC (.int 2))) (mC (.int 28))) (m2 eqV (mCall F_months_on [mVar 3, m2 subV (mC (.int 0)) (mVar 1)]) (mVar 0)))))))))
noncomputable def F_right_k04 : Fn := fnOf 2 6 M_right_k04
/-- _law_cell, _law_many_here -/
noncomputable def M_many_k04 : MS :=
  sSeq (sAsg (gNm 1) (m2 ixV (mLstF [m2 modV (m2 fdivV (mVar 0) (mC (.int 8))) (mC (.int 41)), m2 modV (m2 fdivV (mVar 0) (mC (.int 8))) (mC (.int 120001)), m2 modV (m2 fdivV (mVar 0) (mC (.int 8))) (m2 powV (mC (.int 10)) (mC (.int 60))), m2 modV (m2 fdivV (mVar 0) (mC (.int 8))) (mC (.int 13))]) (m2 modV (m2 fdivV (mVar 0) (mC (.int 2))) (mC (.int 4))))) (
  sRet (m2 ixV (mLstF [mVar 1, m2 subV (mC (.int 0)) (mVar 1)]) (m2 modV (mVar 0) (mC (.int 2)))))
noncomputable def F_many_k04 : Fn := fnOf 1 2 M_many_k04
noncomputable def M_law_k04_b1 : MS :=
  sKl [1, 2] (sSeq (sAsg (gNm 2) (mCall F_day_k04 [m2 addV (m2 mulV (mVar 1) (mC (.int 48271))) (mC (.int 11))])) (
  sKl [1, 2] (sIf (mOr (mNot (mCall F_right_k04 [mVar 2, mCall F_many_k04 [mVar 1]])) (mNot (mCall F_right_k04 [mVar 2, mCall F_many_k04 [m2 addV (m2 mulV (mVar 1) (mC (.int 16807))) (mC (.int 3))]])))
  (sRet (mC (.bool false)))
  (sNop))))
/-- _law_script, _law_cell, _law_number -/
noncomputable def M_law_k04 : MS :=
  sSeq (sKl [0] (sFor (gNm 1) (itL (m2 addV (mSl (mVar 0) oNo (oAt (mC (.int 60)))) (mLstF [mC (.int 0)])))
  (M_law_k04_b1))) (
  sRet (mC (.bool true)))
noncomputable def F_law_k04 : Fn := fnOf 1 3 M_law_k04
end PV

namespace PV
open PySem L2
/-- price, count, begin, end -/
noncomputable def M_share : MS :=
  sRet (m2 subV (m2 fdivV (m2 mulV (mVar 0) (mVar 3)) (mVar 1)) (m2 fdivV (m2 mulV (mVar 0) (mVar 2)) (mVar 1)))
noncomputable def F_share : Fn := fnOf 4 4 M_share
/-- _law_found -/
noncomputable def M_whole_k10 : MS :=
  sRet (mAnd (m1 (isiV "int") (mVar 0)) (mNot (m1 (isiV "bool") (mVar 0))))
noncomputable def F_whole_k10 : Fn := fnOf 1 1 M_whole_k10
noncomputable def M_right_k10_b1 : MS :=
  sKl [4, 5] (sSeq (sExpr (mML oApp (mVar 3) [mCall F_share [mVar 0, mVar 1, mVar 4, mVar 5]])) (
  sKl [5] (sIf (mOr (mNot (mCall F_whole_k10 [m2 ixV (mVar 3) (m1 negV (mC (.int 1)))])) (mOr (m2 ltV (m2 ixV (mVar 3) (m1 negV (mC (.int 1)))) (mC (.int 0))) (m2 neV (mCall F_share [mVar 0, mVar 1, mVar 5, mVar 5]) (mC (.int 0)))))
  (sRet (mC (.bool false)))
  (sNop))))
noncomputable def M_right_k10_b2 : MS :=
  sKl [6, 7] (sSeq (sAsg (gNm 7) (mCall F_share [mVar 0, mVar 1, mC (.int 0), mVar 6])) (
  sKl [6, 7] (sIf (mOr (mNot (mCall F_whole_k10 [mVar 7])) (mNot (mChain leV ltV (m2 mulV (mVar 7) (mVar 1)) (m2 mulV (mVar 0) (mVar 6)) (m2 mulV (m2 addV (mVar 7) (mC (.int 1))) (mVar 1)))))
  (sRet (mC (.bool false)))
  (sNop))))
/-- _law_price, _law_count, _law_cuts, _law_parts, _law_one, _law_other, _law_day, _law_found -/
noncomputable def M_right_k10 : MS :=
  sSeq (sAsg (gNm 3) (mLstM [])) (
  sSeq (sFor (gTp [gNm 4, gNm 5]) (itZ (mSl (mVar 2) oNo (oAt (m1 negV (mC (.int 1))))) (mSl (mVar 2) (oAt (mC (.int 1))) oNo))
  (M_right_k10_b1)) (
  sSeq (sFz 3) (sSeq (sFor (gNm 6) (itL (mVar 2))
  (M_right_k10_b2)) (
  sSeq (sKl [2, 3] (sIf (m2 neV (mCall F_share [mVar 0, mVar 1, m2 ixV (mVar 2) (mC (.int 0)), m2 ixV (mVar 2) (m1 negV (mC (.int 1)))]) (mCall (f1 sumV) [mVar 3]))
  (sRet (mC (.bool false)))
  (sNop))) (
  sRet (mAnd (m2 eqV (mCall F_share [mVar 0, mVar 1, mC (.int 0), mVar 1]) (mVar 0)) (m2 eqV (mCall F_share [mVar 0, mVar 1, mVar 1, m2 mulV (mC (.int 3)) (mVar 1)]) (m2 mulV (mC (.int 2)) (mVar 0)))))))))
noncomputable def F_right_k10 : Fn := fnOf 3 8 M_right_k10
/-- _law_cell, _law_start, _law_step -/
noncomputable def M_days_k10 : MS :=
  sSeq (sAsg (gNm 2) (m2 modV (m2 fdivV (mVar 0) (mC (.int 7))) (mC (.int 801)))) (
  sSeq (sIf (m2 eqV (m2 modV (mVar 0) (mC (.int 12))) (mC (.int 5)))
  (sAsg (gNm 2) (m2 modV (m2 fdivV (mVar 0) (mC (.int 7))) (m2 powV (mC (.int 10)) (mC (.int 9)))))
  (sNop)) (
  sSeq (sKl [0] (sIf (m2 eqV (m2 modV (mVar 0) (mC (.int 4))) (mC (.int 0)))
  (sAsg (gNm 2) (m2 modV (m2 fdivV (mVar 0) (mC (.int 7))) (mC (.int 3))))
  (sNop))) (
  sRet (m2 addV (mVar 1) (mVar 2)))))
noncomputable def F_days_k10 : Fn := fnOf 2 3 M_days_k10
noncomputable def M_law_k10_b1 : MS :=
  sKl [6] (sExpr (mML oApp (mVar 5) [mCall F_days_k10 [m2 addV (m2 mulV (mVar 1) (m2 addV (mVar 6) (mC (.int 2)))) (m2 fdivV (mVar 3) (m2 addV (mVar 6) (mC (.int 1)))), m2 ixV (mVar 5) (m1 negV (mC (.int 1)))]]))
noncomputable def M_law_k10_b2 : MS :=
  sKl [1, 2, 3, 4, 5, 6] (sSeq (sAsg (gNm 2) (m2 ixV (mLstF [m2 modV (m2 fdivV (mVar 1) (mC (.int 5))) (mC (.int 1000)), m2 modV (m2 fdivV (mVar 1) (mC (.int 5))) (m2 powV (mC (.int 10)) (mC (.int 40))), m2 modV (m2 fdivV (mVar 1) (mC (.int 5))) (mC (.int 13)), m2 modV (m2 fdivV (mVar 1) (mC (.int 5))) (mC (.int 100000)), mC (.int 0)]) (m2 modV (mVar 1) (mC (.int 5))))) (
  sSeq (sAsg (gNm 3) (m2 modV (m2 mulV (mVar 1) (mC (.int 48271))) (mC (.int 2147483647)))) (
  sSeq (sAsg (gNm 4) (m2 addV (mC (.int 1)) (m2 ixV (mLstF [m2 modV (mVar 3) (mC (.int 400)), m2 modV (mVar 3) (mC (.int 400)), m2 ixV (mLstF [mC (.int 0), mC (.int 6), mC (.int 27), mC (.int 29), mC (.int 30), mC (.int 364)]) (m2 modV (mVar 3) (mC (.int 6))), m2 modV (m2 fdivV (mVar 1) (mC (.int 11))) (m2 powV (mC (.int 10)) (mC (.int 12)))]) (m2 modV (m2 fdivV (mVar 3) (mC (.int 400))) (mC (.int 4)))))) (
  sSeq (sAsg (gNm 5) (mLstM [m2 ixV (mLstF [mC (.int 0), m2 modV (m2 fdivV (mVar 3) (mC (.int 1600))) (mC (.int 500))]) (m2 modV (m2 fdivV (mVar 3) (mC (.int 7))) (mC (.int 2)))])) (
  sSeq (sKl [1, 3] (sFor (gNm 6) (itR1 (mC (.int 3)))
  (M_law_k10_b1))) (
  sSeq (sFz 5) (sKl [2, 4, 5] (sIf (mNot (mCall F_right_k10 [mVar 2, mVar 4, mVar 5]))
  (sRet (mC (.bool false)))
  (sNop)))))))))
/-- _law_script, _law_cell, _law_price, _law_more, _law_count, _law_cuts, _law_k -/
noncomputable def M_law_k10 : MS :=
  sSeq (sKl [0] (sFor (gNm 1) (itL (m2 addV (mSl (mVar 0) oNo (oAt (mC (.int 40)))) (mLstF [mC (.int 0)])))
  (M_law_k10_b2))) (
  sRet (mC (.bool true)))
noncomputable def F_law_k10 : Fn := fnOf 1 7 M_law_k10
end PV

namespace PV
open PySem L2
/-- _law_year, _law_gone -/
noncomputable def M_starts_k20 : MS :=
  sSeq (sAsg (gNm 1) (m2 subV (mVar 0) (mC (.int 1)))) (
  sRet (m2 addV (m2 subV (m2 addV (m2 mulV (mVar 1) (mC (.int 365))) (m2 fdivV (mVar 1) (mC (.int 4)))) (m2 fdivV (mVar 1) (mC (.int 100)))) (m2 fdivV (mVar 1) (mC (.int 400)))))
noncomputable def F_starts_k20 : Fn := fnOf 1 2 M_starts_k20
/-- _law_year, _law_month -/
noncomputable def M_length_k20 : MS :=
  sSeq (sKl [0] (sIf (m2 eqV (mVar 1) (mC (.int 2)))
  (sRet (m2 subV (m2 subV (m2 addV (mC (.int 28)) (mCall F_starts_k20 [m2 addV (mVar 0) (mC (.int 1))])) (mCall F_starts_k20 [mVar 0])) (mC (.int 365))))
  (sNop))) (
  sRet (m2 addV (mC (.int 30)) (mCall (f1 intV) [m2 (inV false) (mVar 1) (mTup [mC (.int 1), mC (.int 3), mC (.int 5), mC (.int 7), mC (.int 8), mC (.int 10), mC (.int 12)])])))
noncomputable def F_length_k20 : Fn := fnOf 2 2 M_length_k20
/-- _law_year, _law_month, _law_day_here, _law_k -/
noncomputable def M_day_k20 : MS :=
  sRet (m2 subV (m2 addV (m2 addV (mCall F_starts_k20 [mVar 0]) (mCall (f1 sumV) [mLc [3] (gNm 3) (itR2 (mC (.int 1)) (mVar 1)) (mYes) (mCall F_length_k20 [mVar 0, mVar 3]) lstF])) (mVar 2)) (mC (.int 1)))
noncomputable def F_day_k20 : Fn := fnOf 3 4 M_day_k20
/-- _law_cell, _law_year, _law_edges -/
noncomputable def M_first_k20 : MS :=
  sSeq (sAsg (gNm 1) (m2 addV (mC (.int 4)) (m2 modV (m2 fdivV (mVar 0) (mC (.int 32))) (mC (.int 9500))))) (
  sSeq (sAsg (gNm 2) (mLstF [mC (.int 0), mC (.int 3500000), mCall F_day_k20 [mVar 1, mC (.int 1), mC (.int 31)], mCall F_day_k20 [mVar 1, mC (.int 1), mC (.int 30)], mCall F_day_k20 [m2 mulV (m2 fdivV (mVar 1) (mC (.int 4))) (mC (.int 4)), mC (.int 2), mC (.int 29)]])) (
  sSeq (sAsg (gNm 2) (m2 addV (mVar 2) (mLstF [mCall F_day_k20 [mVar 1, mC (.int 8), mC (.int 31)], mCall F_day_k20 [mVar 1, mC (.int 12), mC (.int 31)]]))) (
  sRet (m2 ixV (m2 addV (mVar 2) (mLstF [m2 modV (m2 fdivV (mVar 0) (mC (.int 32))) (mC (.int 3500001))])) (m2 modV (m2 fdivV (mVar 0) (mC (.int 4))) (mC (.int 8)))))))
noncomputable def F_first_k20 : Fn := fnOf 1 3 M_first_k20
/-- _law_cell, _law_some -/
noncomputable def M_cycle_k20 : MS :=
  sSeq (sAsg (gNm 1) (mLstF [mTup [mC (.str "days"), m2 addV (mC (.int 1)) (m2 modV (m2 fdivV (mVar 0) (mC (.int 8))) (mC (.int 40)))], mTup [mC (.str "days"), m2 addV (mC (.int 28)) (m2 modV (m2 fdivV (mVar 0) (mC (.int 8))) (mC (.int 4)))], mTup [mC (.str "months"), mC (.int 1)], mTup [mC (.str "months"), m2 addV (mC (.int 1)) (m2 modV (m2 fdivV (mVar 0) (mC (.int 8))) (mC (.int 3)))]])) (
  sSeq (sAsg (gNm 1) (m2 addV (mVar 1) (mLstF [mTup [mC (.str "days"), m2 addV (mC (.int 1)) (m2 modV (m2 fdivV (mVar 0) (mC (.int 8))) (mC (.int 7)))], mTup [mC (.str "months"), m2 addV (mC (.int 1)) (m2 modV (m2 fdivV (mVar 0) (mC (.int 8))) (mC (.int 12)))], mTup [mC (.str "months"), mC (.int 12)]]))) (
  sRet (m2 ixV (m2 addV (mVar 1) (mLstF [mTup [mC (.str "days"), m2 addV (mC (.int 1)) (m2 modV (m2 fdivV (mVar 0) (mC (.int 8))) (mC (.int 400)))]])) (m2 modV (mVar 0) (mC (.int 8))))))
noncomputable def F_cycle_k20 : Fn := fnOf 1 2 M_cycle_k20
noncomputable def M_months_on_k20_b1 : MS :=
  sAsg (gNm 2) (m2 addV (mVar 2) (mC (.int 1)))
noncomputable def M_months_on_k20_b2 : MS :=
  sSeq (sAsg (gNm 3) (m2 subV (mVar 3) (mCall F_length_k20 [mVar 2, mVar 4]))) (
  sAsg (gNm 4) (m2 addV (mVar 4) (mC (.int 1))))
/-- _law_number, _law_many, _law_year, _law_left, _law_month -/
noncomputable def M_months_on_k20 : MS :=
  sSeq (sAsg (gNm 2) (m2 addV (m2 fdivV (mVar 0) (mC (.int 366))) (mC (.int 1)))) (
  sSeq (sWhile (m2 leV (mCall F_starts_k20 [m2 addV (mVar 2) (mC (.int 1))]) (mVar 0))
  (M_months_on_k20_b1)) (
  sSeq (sAsg (gNm 3) (m2 subV (mVar 0) (mCall F_starts_k20 [mVar 2]))) (
  sSeq (sAsg (gNm 4) (mC (.int 1))) (
  sSeq (sWhile (m2 geV (mVar 3) (mCall F_length_k20 [mVar 2, mVar 4]))
  (M_months_on_k20_b2)) (
  sSeq (sAsg (gNm 4) (m2 addV (m2 subV (m2 addV (m2 mulV (mVar 2) (mC (.int 12))) (mVar 4)) (mC (.int 1))) (mVar 1))) (
  sSeq (sAsg (gNm 2) (m2 fdivV (mVar 4) (mC (.int 12)))) (
  sRet (mCall F_day_k20 [mVar 2, m2 addV (m2 modV (mVar 4) (mC (.int 12))) (mC (.int 1)), mCall fMin [m2 addV (mVar 3) (mC (.int 1)), mCall F_length_k20 [mVar 2, m2 addV (m2 modV (mVar 4) (mC (.int 12))) (mC (.int 1))]]]))))))))
noncomputable def F_months_on_k20 : Fn := fnOf 2 5 M_months_on_k20
/-- _law_first_here, _law_cycle_here, _law_many, _law_k -/
noncomputable def M_begins_k20 : MS :=
  sSeq (sIf (m2 eqV (m2 ixV (mVar 1) (mC (.int 0))) (mC (.str "days")))
  (sRet (mLc [3] (gNm 3) (itR1 (m2 addV (mVar 2) (mC (.int 1)))) (mYes) (m2 addV (mVar 0) (m2 mulV (mVar 3) (m2 ixV (mVar 1) (mC (.int 1))))) lstF))
  (sNop)) (
  sRet (mLc [3] (gNm 3) (itR1 (m2 addV (mVar 2) (mC (.int 1)))) (mYes) (mCall F_months_on_k20 [mVar 0, m2 mulV (mVar 3) (m2 ixV (mVar 1) (mC (.int 1)))]) lstF))
noncomputable def F_begins_k20 : Fn := fnOf 3 4 M_begins_k20
/-- self, k -/
noncomputable def M_Days_begin_at : MS :=
  sRet (m2 addV (mAttr [20] "first" (mVar 0)) (m2 mulV (mVar 1) (mAttr [20] "many" (mVar 0))))
noncomputable def F_Days_begin_at : Fn := fnOf 2 2 M_Days_begin_at
/-- self, k -/
noncomputable def M_Months_begin_at : MS :=
  sRet (mCall F_months_on [mAttr [21] "first" (mVar 0), m2 mulV (mVar 1) (mAttr [21] "many" (mVar 0))])
noncomputable def F_Months_begin_at : Fn := fnOf 2 2 M_Months_begin_at
/-- self, first, many -/
noncomputable def M_Months___init__ : MS :=
  sSeq (sAttr [21] "first" (mVar 0) (mVar 1)) (
  sAttr [21] "many" (mVar 0) (mVar 2))
noncomputable def F_Months___init__ : Fn := fnOf 3 3 M_Months___init__
/-- self, first, many -/
noncomputable def M_Days___init__ : MS :=
  sSeq (sAttr [20] "first" (mVar 0) (mVar 1)) (
  sAttr [20] "many" (mVar 0) (mVar 2))
noncomputable def F_Days___init__ : Fn := fnOf 3 3 M_Days___init__
/-- first, cycle -/
noncomputable def M_cycle_of_m : MS :=
  sSeq (sIf (m2 eqV (m2 ixV (mVar 1) (mC (.int 0))) (mC (.str "days")))
  (sRet (mMake 20 F_Days___init__ [mVar 0, m2 ixV (mVar 1) (mC (.int 1))]))
  (sNop)) (
  sRet (mMake 21 F_Months___init__ [mVar 0, m2 ixV (mVar 1) (mC (.int 1))]))
noncomputable def F_cycle_of_m : Fn := fnOfK 2 2 M_cycle_of_m
/-- first, cycle, k -/
noncomputable def M_begin_of : MS :=
  sSeq (sIf (m2 ltV (mVar 2) (mC (.int 0)))
  (sRaise 4)
  (sNop)) (
  sSeq (sIf (m2 gtV (mVar 2) (mC (.int 60)))
  (sRaise 5)
  (sNop)) (
  sRet (mMeth "begin_at" [(20, 2, F_Days_begin_at), (21, 2, F_Months_begin_at)] (mCall F_cycle_of_m [mVar 0, mVar 1]) [mVar 2])))
noncomputable def F_begin_of : Fn := fnOf 3 3 M_begin_of
noncomputable def M_law_k20_b1 : MS :=
  sKl [5, 6, 7] (sSeq (sAsg (gNm 6) (m2 modV (m2 addV (mVar 4) (m2 mulV (mVar 5) (m2 addV (mC (.int 1)) (m2 modV (m2 fdivV (mVar 4) (mC (.int 61))) (mC (.int 60)))))) (mC (.int 61)))) (
  sSeq (sAsg (gNm 7) (mCall F_begin_of [mVar 1, mVar 2, mVar 6])) (
  sKl [6, 7] (sIf (mOr (mNot (mCall F_whole_k10 [mVar 7])) (m2 neV (mVar 7) (m2 ixV (mVar 3) (mVar 6))))
  (sRet (mC (.bool false)))
  (sNop)))))
/-- _law_script, _law_first_here, _law_cycle_here, _law_due, _law_turn, _law_j, _law_k, _law_found -/
noncomputable def M_law_k20 : MS :=
  sSeq (sAsg (gNm 1) (mCall F_first_k20 [mCall F_cell_at_k02 [mVar 0, mC (.int 0)]])) (
  sSeq (sAsg (gNm 2) (mCall F_cycle_k20 [mCall F_cell_at_k02 [mVar 0, mC (.int 1)]])) (
  sSeq (sAsg (gNm 3) (mCall F_begins_k20 [mVar 1, mVar 2, mC (.int 60)])) (
  sSeq (sAsg (gNm 4) (mCall F_cell_at_k02 [mVar 0, mC (.int 2)])) (
  sSeq (sKl [3, 4] (sEk [6] (sFor (gNm 5) (itR1 (mC (.int 61)))
  (M_law_k20_b1)))) (
  sRet (mCall (f1 allV) [mLc [6] (gNm 6) (itR1 (mC (.int 60))) (mYes) (m2 ltV (mCall F_begin_of [mVar 1, mVar 2, mVar 6]) (mCall F_begin_of [mVar 1, mVar 2, m2 addV (mVar 6) (mC (.int 1))])) lstF]))))))
noncomputable def F_law_k20 : Fn := fnOf 1 8 M_law_k20
end PV

namespace PV
open PySem L2
/-- self, day -/
noncomputable def M_Days_number_on : MS :=
  sRet (m2 fdivV (m2 subV (mVar 1) (mAttr [20] "first" (mVar 0))) (mAttr [20] "many" (mVar 0)))
noncomputable def F_Days_number_on : Fn := fnOf 2 2 M_Days_number_on
/-- self, day, here, there, k -/
noncomputable def M_Months_number_on : MS :=
  sSeq (sAsg (gNm 2) (mCall F_date_of [mAttr [21] "first" (mVar 0)])) (
  sSeq (sAsg (gNm 3) (mCall F_date_of [mVar 1])) (
  sSeq (sAsg (gNm 4) (m2 fdivV (m2 subV (m2 addV (m2 mulV (m2 subV (m2 ixV (mVar 3) (mC (.int 0))) (m2 ixV (mVar 2) (mC (.int 0)))) (mC (.int 12))) (m2 ixV (mVar 3) (mC (.int 1)))) (m2 ixV (mVar 2) (mC (.int 1)))) (mAttr [21] "many" (mVar 0)))) (
  sSeq (sKl [0, 1] (sIf (m2 gtV (mMeth "begin_at" [(21, 2, F_Months_begin_at)] (mVar 0) [mVar 4]) (mVar 1))
  (sAug 4 (augI (· - ·)) (mC (.int 1)))
  (sNop))) (
  sRet (mVar 4)))))
noncomputable def F_Months_number_on : Fn := fnOf 2 5 M_Months_number_on
/-- first, cycle, day, spans, k -/
noncomputable def M_span_on : MS :=
  sSeq (sIf (m2 ltV (mVar 2) (mVar 0))
  (sRaise 4)
  (sNop)) (
  sSeq (sAsg (gNm 3) (mCall F_cycle_of_m [mVar 0, mVar 1])) (
  sSeq (sIf (m2 geV (mVar 2) (mMeth "begin_at" [(20, 2, F_Days_begin_at), (21, 2, F_Months_begin_at)] (mVar 3) [mC (.int 60)]))
  (sRaise 5)
  (sNop)) (
  sSeq (sAsg (gNm 4) (mMeth "number_on" [(20, 2, F_Days_number_on), (21, 2, F_Months_number_on)] (mVar 3) [mVar 2])) (
  sRet (mTup [mVar 4, mMeth "begin_at" [(20, 2, F_Days_begin_at), (21, 2, F_Months_begin_at)] (mVar 3) [mVar 4], mMeth "begin_at" [(20, 2, F_Days_begin_at), (21, 2, F_Months_begin_at)] (mVar 3) [m2 addV (mVar 4) (mC (.int 1))]])))))
noncomputable def F_span_on : Fn := fnOf 3 5 M_span_on
noncomputable def M_law_k21_b1 : MS :=
  sKl [4, 5, 6, 7, 8] (sSeq (sAsg (gNm 5) (m2 modV (mVar 4) (mC (.int 60)))) (
  sSeq (sAsg (gNm 6) (m2 subV (m2 ixV (mVar 3) (m2 addV (mVar 5) (mC (.int 1)))) (m2 ixV (mVar 3) (mVar 5)))) (
  sSeq (sAsg (gNm 7) (m2 addV (m2 ixV (mVar 3) (mVar 5)) (m2 ixV (mLstF [mC (.int 0), m2 subV (mVar 6) (mC (.int 1)), m2 modV (m2 fdivV (mVar 4) (mC (.int 240))) (mVar 6), mCall fMax [mC (.int 0), m2 subV (mVar 6) (mC (.int 2))]]) (m2 modV (m2 fdivV (mVar 4) (mC (.int 60))) (mC (.int 4)))))) (
  sSeq (sAsg (gNm 8) (mCall F_span_on [mVar 1, mVar 2, mVar 7])) (
  sSeq (sKl [5] (sIf (mOr (mNot (m1 (isiV "tuple") (mVar 8))) (mOr (m2 neV (mCall (f1 lenV) [mVar 8]) (mC (.int 3))) (m2 neV (mVar 8) (mTup [mVar 5, m2 ixV (mVar 3) (mVar 5), m2 ixV (mVar 3) (m2 addV (mVar 5) (mC (.int 1)))]))))
  (sRet (mC (.bool false)))
  (sNop))) (
  sKl [8] (sIf (mNot (mCall (f1 allV) [mLc [9] (gNm 9) (itT (mVar 8)) (mYes) (mCall F_whole_k10 [mVar 9]) lstF]))
  (sRet (mC (.bool false)))
  (sNop))))))))
/-- _law_script, _law_first_here, _law_cycle_here, _law_begins_here, _law_cell, _law_k, _law_size, _law_day_here, _law_found, _law_number -/
noncomputable def M_law_k21 : MS :=
  sSeq (sAsg (gNm 1) (mCall F_first_k20 [mCall F_cell_at_k02 [mVar 0, mC (.int 0)]])) (
  sSeq (sAsg (gNm 2) (mCall F_cycle_k20 [mCall F_cell_at_k02 [mVar 0, mC (.int 1)]])) (
  sSeq (sAsg (gNm 3) (mCall F_begins_k20 [mVar 1, mVar 2, mC (.int 60)])) (
  sSeq (sKl [0, 1, 2, 3] (sFor (gNm 4) (itL (m2 addV (mLstF [mC (.int 0), mC (.int 59)]) (mSl (mVar 0) (oAt (mC (.int 2))) (oAt (mC (.int 62))))))
  (M_law_k21_b1))) (
  sRet (mC (.bool true))))))
noncomputable def F_law_k21 : Fn := fnOf 1 10 M_law_k21
end PV

namespace PV
open PySem L2
/-- _law_cell, _law_k, _law_number -/
noncomputable def M_mixed_k30 : MS :=
  sSeq (sAsg (gNm 2) (m2 modV (m2 addV (m2 addV (m2 mulV (m2 modV (mVar 0) (mC (.int 2147483647))) (mC (.int 48271))) (m2 mulV (mC (.int 69621)) (mVar 1))) (mC (.int 7919))) (mC (.int 2147483629)))) (
  sSeq (sAsg (gNm 2) (m2 modV (m2 addV (m2 mulV (mVar 2) (mVar 2)) (mVar 1)) (mC (.int 2147483587)))) (
  sRet (m2 modV (m2 mulV (mVar 2) (m2 addV (mVar 2) (mC (.int 69621)))) (mC (.int 2147483563)))))
noncomputable def F_mixed_k30 : Fn := fnOf 2 3 M_mixed_k30
noncomputable def M_words_k30_b1 : MS :=
  sKl [7, 8] (sSeq (sAsg (gNm 8) (m2 ixV (mVar 2) (m2 modV (m2 addV (mMS oIndex (mVar 2) [m2 ixV (mVar 3) (mVar 4)]) (m2 mulV (mVar 7) (mVar 5))) (mC (.int 26))))) (
  sExpr (mML oApp (mVar 6) [mMS oJoin (mC (.str "")) [m2 addV (m2 addV (mSl (mVar 3) oNo (oAt (mVar 4))) (mLstF [mVar 8])) (mSl (mVar 3) (oAt (m2 addV (mVar 4) (mC (.int 1)))) oNo)]])))
/-- _law_cell, _law_many, _law_letters, _law_base, _law_at, _law_step, _law_words_here, _law_k, _law_sign, _law_j -/
noncomputable def M_words_k30 : MS :=
  sSeq (sAsg (gNm 2) (mC (.str "abcdefghijklmnopqrstuvwxyz"))) (
  sSeq (sAsg (gNm 3) (mLc [9] (gNm 9) (itR1 (m2 addV (mC (.int 1)) (m2 modV (mVar 0) (mC (.int 8))))) (mYes) (m2 ixV (mVar 2) (m2 modV (mCall F_mixed_k30 [mVar 0, m2 addV (mC (.int 70)) (mVar 9)]) (mC (.int 26)))) lstF)) (
  sSeq (sAsg (gNm 4) (m2 modV (m2 fdivV (mVar 0) (mC (.int 8))) (mCall (f1 lenV) [mVar 3]))) (
  sSeq (sAsg (gNm 5) (m2 ixV (mLstF [mC (.int 1), mC (.int 3), mC (.int 5), mC (.int 7)]) (m2 modV (m2 fdivV (mVar 0) (mC (.int 64))) (mC (.int 4))))) (
  sSeq (sAsg (gNm 6) (mLstM [])) (
  sSeq (sKl [1, 2, 3, 4, 5] (sFor (gNm 7) (itR1 (mVar 1))
  (M_words_k30_b1))) (
  sSeq (sFz 6) (sRet (mVar 6))))))))
noncomputable def F_words_k30 : Fn := fnOf 2 10 M_words_k30
noncomputable def M_plans_k30_b1 : MS :=
  sKl [4, 5, 6, 7] (sSeq (sAsg (gNm 5) (mCall F_mixed_k30 [mVar 0, mVar 4])) (
  sSeq (sAsg (gNm 6) (m2 ixV (mLstF [m2 modV (m2 fdivV (mVar 5) (mC (.int 32))) (mC (.int 1000)), m2 modV (m2 fdivV (mVar 5) (mC (.int 32))) (mC (.int 7)), m2 modV (m2 fdivV (mVar 0) (m2 addV (mVar 4) (mC (.int 1)))) (m2 powV (mC (.int 10)) (mC (.int 30))), m2 modV (m2 fdivV (mVar 5) (mC (.int 32))) (mC (.int 20000))]) (m2 modV (mVar 5) (mC (.int 4))))) (
  sSeq (sAsg (gNm 7) (m2 ixV (mLstF [mC (.int 0), mC (.int 30), mC (.int 0), m2 addV (mC (.int 28)) (m2 modV (m2 fdivV (mVar 5) (mC (.int 32))) (mC (.int 4))), mC (.int 7), m2 addV (mC (.int 1)) (m2 modV (m2 fdivV (mVar 5) (mC (.int 32))) (mC (.int 400))), mC (.int 0), mC (.int 400)]) (m2 modV (m2 fdivV (mVar 5) (mC (.int 4))) (mC (.int 8))))) (
  sExpr (mML oApp (mVar 3) [mTup [m2 ixV (mVar 2) (mVar 4), mVar 6, mVar 7]])))))
/-- _law_cell, _law_many, _law_names, _law_plans_here, _law_k, _law_m, _law_price, _law_count -/
noncomputable def M_plans_k30 : MS :=
  sSeq (sAsg (gNm 1) (m2 ixV (mLstF [mC (.int 1), mC (.int 2), mC (.int 3), mC (.int 4), mC (.int 2), mC (.int 3), mC (.int 1), mC (.int 8)]) (m2 modV (mVar 0) (mC (.int 8))))) (
  sSeq (sAsg (gNm 2) (mCall F_words_k30 [m2 fdivV (mVar 0) (mC (.int 8)), mVar 1])) (
  sSeq (sAsg (gNm 3) (mLstM [])) (
  sSeq (sKl [0, 1, 2] (sFor (gNm 4) (itR1 (mVar 1))
  (M_plans_k30_b1))) (
  sSeq (sFz 3) (sRet (mVar 3))))))
noncomputable def F_plans_k30 : Fn := fnOf 1 8 M_plans_k30
noncomputable def M_digits_k30_b1 : MS :=
  sKl [3] (sSeq (sExpr (mML oApp (mVar 2) [m2 modV (mVar 0) (mVar 3)])) (
  sAsg (gNm 0) (m2 fdivV (mVar 0) (mVar 3))))
/-- _law_cell, _law_sizes, _law_found, _law_size -/
noncomputable def M_digits_k30 : MS :=
  sSeq (sAsg (gNm 2) (mLstM [])) (
  sSeq (sKl [0, 1] (sFor (gNm 3) (itL (mVar 1))
  (M_digits_k30_b1))) (
  sSeq (sFz 2) (sRet (mVar 2))))
noncomputable def F_digits_k30 : Fn := fnOf 2 4 M_digits_k30
noncomputable def M_any_plans_k30_b1 : MS :=
  sKl [4, 5, 6] (sSeq (sAsg (gNm 5) (mCall F_digits_k30 [mVar 0, m2 addV (m2 addV (mLstF [mC (.int 8)]) (mTmp (m2 repL (mLstM [mC (.int 26)]) (mC (.int 8))))) (mLstF [m2 powV (mC (.int 10)) (mC (.int 30)), mC (.int 401)])])) (
  sSeq (sAsg (gNm 6) (mMS oJoin (mC (.str "")) [mLc [7] (gNm 7) (itL (mSl (mVar 5) (oAt (mC (.int 1))) (oAt (m2 addV (mC (.int 2)) (m2 ixV (mVar 5) (mC (.int 0))))))) (mYes) (m2 ixV (mVar 1) (mVar 7)) lstF])) (
  sSeq (sKl [5, 6] (sIf (m2 (inV true) (mVar 6) (mLcP [8] (gNm 8) (itLp (mVar 2)) (mYes) (m2 ixV (mVar 8) (mC (.int 0))) lstF))
  (sExpr (mML oApp (mVar 2) [mTup [mVar 6, m2 ixV (mVar 5) (mC (.int 9)), m2 ixV (mVar 5) (mC (.int 10))]]))
  (sNop))) (
  sAsg (gNm 0) (m2 fdivV (mVar 0) (m2 mulV (m2 mulV (m2 mulV (mC (.int 8)) (m2 powV (mC (.int 26)) (mC (.int 8)))) (mC (.int 401))) (m2 powV (mC (.int 10)) (mC (.int 30)))))))))
/-- _law_cell, _law_letters, _law_plans_here, _law_many, _law_k, _law_some, _law_name, _law_one, _law_plan -/
noncomputable def M_any_plans_k30 : MS :=
  sSeq (sAsg (gNm 1) (mC (.str "abcdefghijklmnopqrstuvwxyz"))) (
  sSeq (sAsg (gNm 2) (mLstM [])) (
  sSeq (sAsg (gNm 3) (m2 addV (mC (.int 1)) (m2 modV (mVar 0) (mC (.int 8))))) (
  sSeq (sAsg (gNm 0) (m2 fdivV (mVar 0) (mC (.int 8)))) (
  sSeq (sKl [0, 1, 3] (sFor (gNm 4) (itR1 (mVar 3))
  (M_any_plans_k30_b1))) (
  sSeq (sFz 2) (sRet (mVar 2)))))))
noncomputable def F_any_plans_k30 : Fn := fnOf 1 9 M_any_plans_k30
/-- _law_script, _law_plans_here -/
noncomputable def M_account_k30 : MS :=
  sSeq (sAsg (gNm 1) (mCall F_plans_k30 [m2 fdivV (mCall F_cell_at_k02 [mVar 0, mC (.int 0)]) (mC (.int 2))])) (
  sSeq (sIf (m2 eqV (m2 modV (mCall F_cell_at_k02 [mVar 0, mC (.int 0)]) (mC (.int 2))) (mC (.int 1)))
  (sAsg (gNm 1) (mCall F_any_plans_k30 [m2 fdivV (mCall F_cell_at_k02 [mVar 0, mC (.int 0)]) (mC (.int 2))]))
  (sNop)) (
  sRet (mTup [mVar 1, mCall F_first_k20 [mCall F_cell_at_k02 [mVar 0, mC (.int 1)]], mCall F_cycle_k20 [mCall F_cell_at_k02 [mVar 0, mC (.int 2)]]])))
noncomputable def F_account_k30 : Fn := fnOf 1 2 M_account_k30
/-- _law_plans_here, _law_first_here, _law_cycle_here, _law_cell, _law_at, _law_name, _law_price, _law_count, _law_names, _law_k, _law_plan -/
noncomputable def M_bounds_k30 : MS :=
  sSeq (sAsg (gNm 4) (m2 modV (mVar 3) (mCall (f1 lenV) [mVar 0]))) (
  sSeq (sAsg (gTp [gNm 5, gNm 6, gNm 7]) (m2 ixV (mVar 0) (mVar 4))) (
  sSeq (sAsg (gNm 6) (m2 ixV (mLstF [mVar 6, mC (.int 0), m2 subV (m2 powV (mC (.int 10)) (mC (.int 30))) (mC (.int 1))]) (m2 modV (m2 fdivV (mVar 3) (mC (.int 8))) (mC (.int 3))))) (
  sSeq (sAsg (gNm 7) (m2 ixV (mLstF [mVar 7, mC (.int 0), mC (.int 400), mC (.int 1)]) (m2 modV (m2 fdivV (mVar 3) (mC (.int 24))) (mC (.int 4))))) (
  sSeq (sAsg (gNm 1) (m2 ixV (mLstF [mVar 1, mC (.int 0), mC (.int 3500000)]) (m2 modV (m2 fdivV (mVar 3) (mC (.int 96))) (mC (.int 3))))) (
  sSeq (sAsg (gNm 2) (m2 ixV (mLstF [mVar 2, mTup [mC (.str "days"), mC (.int 1)], mTup [mC (.str "days"), mC (.int 400)], mTup [mC (.str "months"), mC (.int 1)], mTup [mC (.str "months"), mC (.int 12)]]) (m2 modV (m2 fdivV (mVar 3) (mC (.int 288))) (mC (.int 5))))) (
  sSeq (sAsg (gNm 0) (m2 addV (m2 addV (mSl (mVar 0) oNo (oAt (mVar 4))) (mLstF [mTup [mVar 5, mVar 6, mVar 7]])) (mSl (mVar 0) (oAt (m2 addV (mVar 4) (mC (.int 1)))) oNo))) (
  sSeq (sKl [3, 5, 8] (sIf (m2 eqV (m2 modV (m2 fdivV (mVar 3) (mC (.int 1440))) (mC (.int 2))) (mC (.int 1)))
  (sSeq (sAsg (gNm 0) (m2 addV (mVar 0) (mLc [9] (gNm 9) (itR1 (mC (.int 8))) (m2 neV (mSl (mC (.str "zzzzzzzz")) oNo (oAt (m2 addV (mVar 9) (mC (.int 1))))) (mVar 5)) (mTup [mSl (mC (.str "zzzzzzzz")) oNo (oAt (m2 addV (mVar 9) (mC (.int 1)))), mVar 9, mVar 9]) lstF))) (
  sSeq (sAsg (gNm 0) (mSl (mVar 0) oNo (oAt (mC (.int 8))))) (
  sSeq (sAsg (gNm 8) (mLc [10] (gNm 10) (itL (mVar 0)) (mYes) (m2 ixV (mVar 10) (mC (.int 0))) lstF)) (
  sAsg (gNm 0) (mLc [9] (gNm 9) (itR1 (mCall (f1 lenV) [mVar 0])) (m2 (inV true) (m2 ixV (mVar 8) (mVar 9)) (mSl (mVar 8) oNo (oAt (mVar 9)))) (m2 ixV (mVar 0) (mVar 9)) lstF)))))
  (sNop))) (
  sRet (mTup [mVar 0, mVar 1, mVar 2])))))))))
noncomputable def F_bounds_k30 : Fn := fnOf 4 11 M_bounds_k30
/-- thing, least, most -/
noncomputable def M_is_between : MS :=
  sRet (mAnd (m1 (isiV "int") (mVar 0)) (mChain leV leV (mVar 1) (mVar 0) (mVar 2)))
noncomputable def F_is_between : Fn := fnOf 3 3 M_is_between
/-- cycle -/
noncomputable def M_is_cycle : MS :=
  sRet (mAnd (m2 eqV (mCall (f1 lenV) [mVar 0]) (mC (.int 2))) (mAnd (m1 (kIn false [("days", .int 400), ("months", .int 12)]) (m2 ixV (mVar 0) (mC (.int 0)))) (mCall F_is_between [m2 ixV (mVar 0) (mC (.int 1)), mC (.int 1), m1 (kIx [("days", .int 400), ("months", .int 12)]) (m2 ixV (mVar 0) (mC (.int 0)))])))
noncomputable def F_is_cycle : Fn := fnOf 1 1 M_is_cycle
/-- thing, sign -/
noncomputable def M_is_word : MS :=
  sSeq (sIf (mOr (mNot (m1 (isiV "str") (mVar 0))) (mNot (mChain leV leV (mC (.int 1)) (mCall (f1 lenV) [mVar 0]) (mC (.int 8)))))
  (sRet (mC (.bool false)))
  (sNop)) (
  sRet (mCall (f1 allV) [mLc [1] (gNm 1) (itS (mVar 0)) (mYes) (m2 (inV false) (mVar 1) (mC (.str "abcdefghijklmnopqrstuvwxyz"))) lstF]))
noncomputable def F_is_word : Fn := fnOf 1 2 M_is_word
/-- plan -/
noncomputable def M_is_plan : MS :=
  sSeq (sIf (mOr (m2 neV (mCall (f1 lenV) [mVar 0]) (mC (.int 3))) (mNot (mCall F_is_word [m2 ixV (mVar 0) (mC (.int 0))])))
  (sRet (mC (.bool false)))
  (sNop)) (
  sRet (mAnd (mCall F_is_between [m2 ixV (mVar 0) (mC (.int 1)), mC (.int 0), m2 subV (mC (.int 1000000000000000000000000000000)) (mC (.int 1))]) (mCall F_is_between [m2 ixV (mVar 0) (mC (.int 2)), mC (.int 0), mC (.int 400)])))
noncomputable def F_is_plan : Fn := fnOf 1 1 M_is_plan
/-- account, plans, first, cycle, plan -/
noncomputable def M_check_account : MS :=
  sSeq (sAsg (gTp [gNm 1, gNm 2, gNm 3]) (mVar 0)) (
  sSeq (sIf (mOr (mNot (mChain leV leV (mC (.int 1)) (mCall (f1 lenV) [mVar 1]) (mC (.int 8)))) (mNot (mCall (f1 allV) [mLc [4] (gNm 4) (itL (mVar 1)) (mYes) (mCall F_is_plan [mVar 4]) lstF])))
  (sRaise 6)
  (sNop)) (
  sSeq (sKl [1] (sIf (m2 ltV (m1 lenSet (mLc [4] (gNm 4) (itL (mVar 1)) (mYes) (m2 ixV (mVar 4) (mC (.int 0))) lstF)) (mCall (f1 lenV) [mVar 1]))
  (sRaise 6)
  (sNop))) (
  sKl [2, 3] (sIf (mOr (mNot (mCall F_is_between [mVar 2, mC (.int 0), mC (.int 3500000)])) (mNot (mCall F_is_cycle [mVar 3])))
  (sRaise 6)
  (sNop)))))
noncomputable def F_check_account : Fn := fnOf 1 5 M_check_account
noncomputable def M_law_k30_b1 : MS :=
  sKl [3, 4] (sSeq (sAsg (gNm 4) (mTup [mCall (f1 lstOfF) [m2 ixV (mVar 3) (mC (.int 0))], m2 ixV (mVar 3) (mC (.int 1)), m2 ixV (mVar 3) (mC (.int 2))])) (
  sKl [3, 4] (sIf (mOr (m2 (isV true) (mCall F_check_account [mVar 4]) (mC .none)) (m2 neV (mVar 4) (mVar 3)))
  (sRet (mC (.bool false)))
  (sNop))))
/-- _law_script, _law_drawn, _law_other, _law_account_here, _law_handed -/
noncomputable def M_law_k30 : MS :=
  sSeq (sAsg (gNm 1) (mCall F_account_k30 [mVar 0])) (
  sSeq (sAsg (gNm 2) (mCall F_bounds_k30 [m2 ixV (mVar 1) (mC (.int 0)), m2 ixV (mVar 1) (mC (.int 1)), m2 ixV (mVar 1) (mC (.int 2)), mCall F_cell_at_k02 [mVar 0, mC (.int 3)]])) (
  sSeq (sKl [1, 2] (sFor (gNm 3) (itL (mLstF [mVar 1, mVar 2, mVar 2, mVar 1]))
  (M_law_k30_b1))) (
  sRet (mC (.bool true)))))
noncomputable def F_law_k30 : Fn := fnOf 1 5 M_law_k30
end PV

namespace PV
open PySem L2
def c_WORDS : D := .tuple [.str "hold", .str "go", .str "stop", .str "last"]
def c_TERMS : D := .tuple [.str "plan", .str "seats", .str "hold", .str "go", .str "stop", .str "last"]
/-- _law_x, _law_day_here, _law_names, _law_live, _law_kind -/
noncomputable def M_change_k32 : MS :=
  sSeq (sAsg (gNm 4) (m2 modV (mVar 0) (mC (.int 13)))) (
  sSeq (sKl [2] (sIf (m2 ltV (mVar 4) (mC (.int 3)))
  (sRet (mTup [mC (.str "plan"), mVar 1, m2 ixV (mVar 2) (m2 modV (m2 fdivV (mVar 0) (mC (.int 13))) (mCall (f1 lenV) [mVar 2]))]))
  (sNop))) (
  sSeq (sIf (m2 ltV (mVar 4) (mC (.int 5)))
  (sRet (mTup [mC (.str "seats"), mVar 1, m2 ixV (mLstF [mC (.int 0), mC (.int 1), mC (.int 2), mC (.int 3), mC (.int 1000000), m2 modV (m2 fdivV (mVar 0) (mC (.int 104))) (mC (.int 1000))]) (m2 modV (m2 fdivV (mVar 0) (mC (.int 13))) (mC (.int 6)))]))
  (sNop)) (
  sSeq (sIf (m2 ltV (mVar 4) (mC (.int 9)))
  (sRet (mTup [m2 ixV (mLstF [mC (.str "hold"), mC (.str "go"), mC (.str "stop"), mC (.str "last")]) (m2 subV (mVar 4) (mC (.int 5))), mVar 1]))
  (sNop)) (
  sSeq (sKl [3] (sIf (mAnd (m2 ltV (mVar 4) (mC (.int 11))) (m2 neV (mVar 3) (mLstF [])))
  (sRet (mTup [mC (.str "undo"), m2 ixV (mVar 3) (m2 modV (m2 fdivV (mVar 0) (mC (.int 13))) (mCall (f1 lenV) [mVar 3]))]))
  (sNop))) (
  sSeq (sIf (m2 eqV (mVar 4) (mC (.int 11)))
  (sRet (mTup [mC (.str "grant"), m2 addV (mC (.int 1)) (m2 ixV (mLstF [m2 modV (m2 fdivV (mVar 0) (mC (.int 26))) (mC (.int 1000)), m2 modV (m2 mulV (m2 fdivV (mVar 0) (mC (.int 26))) (m2 powV (mC (.int 10)) (mC (.int 18)))) (m2 subV (m2 powV (mC (.int 10)) (mC (.int 30))) (mC (.int 1)))]) (m2 modV (m2 fdivV (mVar 0) (mC (.int 13))) (mC (.int 2))))]))
  (sNop)) (
  sSeq (sKl [4] (sIf (m2 eqV (mVar 4) (mC (.int 12)))
  (sRet (mTup [mC (.str "back")]))
  (sNop))) (
  sRet (mTup [m2 ixV (mLstF [mC (.str "go"), mC (.str "stop"), mC (.str "hold"), mC (.str "last")]) (m2 modV (m2 fdivV (mVar 0) (mC (.int 13))) (mC (.int 4))), mVar 1]))))))))
noncomputable def F_change_k32 : Fn := fnOf 4 5 M_change_k32
/-- _law_y, _law_entered, _law_begins_here, _law_spans, _law_day_here -/
noncomputable def M_from_k32 : MS :=
  sSeq (sAsg (gNm 4) (m2 ixV (mLstF [mVar 1, m2 ixV (mVar 2) (m2 modV (m2 fdivV (mVar 0) (mC (.int 8))) (mVar 3)), m2 subV (m2 ixV (mVar 2) (m2 modV (m2 fdivV (mVar 0) (mC (.int 8))) (mVar 3))) (mC (.int 1)), m2 addV (mVar 1) (m2 modV (m2 fdivV (mVar 0) (mC (.int 8))) (mC (.int 40)))]) (m2 modV (mVar 0) (mC (.int 4))))) (
  sSeq (sKl [1] (sIf (m2 eqV (m2 modV (mVar 0) (mC (.int 8))) (mC (.int 4)))
  (sAsg (gNm 4) (m2 subV (mVar 1) (m2 modV (m2 fdivV (mVar 0) (mC (.int 8))) (mC (.int 40)))))
  (sNop))) (
  sSeq (sKl [0, 3] (sIf (m2 eqV (m2 modV (mVar 0) (mC (.int 8))) (mC (.int 5)))
  (sAsg (gNm 4) (m2 addV (m2 ixV (mVar 2) (mC (.int 0))) (m2 modV (m2 fdivV (mVar 0) (mC (.int 8))) (m2 subV (m2 ixV (mVar 2) (mVar 3)) (m2 ixV (mVar 2) (mC (.int 0)))))))
  (sNop))) (
  sRet (mCall fMax [m2 ixV (mVar 2) (mC (.int 0)), mCall fMin [mVar 4, m2 subV (m2 ixV (mVar 2) (m1 negV (mC (.int 1)))) (mC (.int 1))]]))))
noncomputable def F_from_k32 : Fn := fnOf 4 5 M_from_k32
noncomputable def M_entries_k32_b1 : MS :=
  sKl [9, 10, 11, 12] (sSeq (sAsg (gNm 10) (mCall F_mixed_k30 [m2 ixV (m2 addV (mVar 0) (mLstF [mVar 1])) (mCall fMin [mVar 9, mCall (f1 lenV) [mVar 0]]), mVar 9])) (
  sSeq (sAsg (gNm 11) (m2 ixV (mLstF [mC (.int 0), mC (.int 0), mC (.int 1), m2 modV (m2 fdivV (mVar 10) (mC (.int 8))) (mC (.int 40)), m2 modV (m2 fdivV (mVar 10) (mC (.int 8))) (m2 addV (m2 subV (m2 ixV (mVar 2) (mC (.int 1))) (m2 ixV (mVar 2) (mC (.int 0)))) (mC (.int 1))), mC (.int 0), mC (.int 7), m2 modV (m2 fdivV (mVar 10) (mC (.int 8))) (mC (.int 100))]) (m2 modV (mVar 10) (mC (.int 8))))) (
  sSeq (sAsg (gNm 6) (mCall fMax [mVar 6, mCall fMin [m2 addV (mVar 6) (mVar 11), m2 subV (m2 ixV (mVar 2) (m2 subV (mVar 4) (mC (.int 2)))) (mC (.int 1))]])) (
  sSeq (sAsg (gNm 12) (mCall F_change_k32 [m2 fdivV (mVar 10) (mC (.int 64)), mCall F_from_k32 [mCall F_mixed_k30 [mVar 10, mVar 9], mVar 6, mVar 2, mVar 4], mVar 3, mVar 8])) (
  sSeq (sExpr (mML oApp (mVar 7) [mTup [mVar 6, mVar 12]])) (
  sKl [9, 12] (sIf (m2 eqV (m2 ixV (mVar 12) (mC (.int 0))) (mC (.str "undo")))
  (sExpr (mML oRem (mVar 8) [m2 ixV (mVar 12) (mC (.int 1))]))
  (sKl [9, 12] (sIf (m2 (inV true) (m2 ixV (mVar 12) (mC (.int 0))) (mTup [mC (.str "grant"), mC (.str "back")]))
  (sExpr (mML oApp (mVar 8) [mVar 9]))
  (sNop))))))))))
/-- _law_cells, _law_head, _law_begins_here, _law_names, _law_spans, _law_many, _law_entered, _law_entries_here, _law_live, _law_k, _law_x, _law_step, _law_change_here -/
noncomputable def M_entries_k32 : MS :=
  sSeq (sAsg (gNm 4) (m2 ixV (mLstF [mC (.int 10), mC (.int 60)]) (mCall (f1 intV) [m2 eqV (m2 modV (m2 fdivV (mVar 1) (mC (.int 11))) (mC (.int 8))) (mC (.int 5))]))) (
  sSeq (sAsg (gNm 5) (m2 ixV (mLstF [m2 modV (mVar 1) (mC (.int 15)), m2 subV (mC (.int 40)) (m2 modV (m2 fdivV (mVar 1) (mC (.int 704))) (mC (.int 3)))]) (mCall (f1 intV) [m2 eqV (m2 modV (m2 fdivV (mVar 1) (mC (.int 88))) (mC (.int 8))) (mC (.int 5))]))) (
  sSeq (sAsg (gNm 6) (m2 ixV (mVar 2) (mC (.int 0)))) (
  sSeq (sAsg (gNm 7) (mLstM [])) (
  sSeq (sAsg (gNm 8) (mLstM [])) (
  sSeq (sKl [0, 1, 2, 3, 4, 5, 6, 8] (sFor (gNm 9) (itR1 (mVar 5))
  (M_entries_k32_b1))) (
  sSeq (sFz 7) (sRet (mVar 7))))))))
noncomputable def F_entries_k32 : Fn := fnOf 4 13 M_entries_k32
/-- _law_some, _law_begins_here, _law_names, _law_live, _law_day_here -/
noncomputable def M_any_change_k32 : MS :=
  sSeq (sAsg (gNm 4) (m2 addV (m2 ixV (mVar 1) (mC (.int 0))) (m2 modV (m2 ixV (mVar 0) (mC (.int 0))) (m2 subV (m2 ixV (mVar 1) (m1 negV (mC (.int 1)))) (m2 ixV (mVar 1) (mC (.int 0))))))) (
  sSeq (sKl [2] (sIf (m2 ltV (m2 ixV (mVar 0) (mC (.int 1))) (mC (.int 3)))
  (sRet (mTup [mC (.str "plan"), mVar 4, m2 ixV (mVar 2) (m2 modV (m2 ixV (mVar 0) (mC (.int 2))) (mCall (f1 lenV) [mVar 2]))]))
  (sNop))) (
  sSeq (sIf (m2 ltV (m2 ixV (mVar 0) (mC (.int 1))) (mC (.int 5)))
  (sRet (mTup [mC (.str "seats"), mVar 4, m2 modV (m2 ixV (mVar 0) (mC (.int 2))) (mC (.int 1000001))]))
  (sNop)) (
  sSeq (sKl [4] (sIf (m2 ltV (m2 ixV (mVar 0) (mC (.int 1))) (mC (.int 9)))
  (sRet (mTup [m2 ixV (mLstF [mC (.str "hold"), mC (.str "go"), mC (.str "stop"), mC (.str "last")]) (m2 subV (m2 ixV (mVar 0) (mC (.int 1))) (mC (.int 5))), mVar 4]))
  (sNop))) (
  sSeq (sKl [3] (sIf (mAnd (m2 ltV (m2 ixV (mVar 0) (mC (.int 1))) (mC (.int 11))) (m2 neV (mVar 3) (mLstF [])))
  (sRet (mTup [mC (.str "undo"), m2 ixV (mVar 3) (m2 modV (m2 ixV (mVar 0) (mC (.int 2))) (mCall (f1 lenV) [mVar 3]))]))
  (sNop))) (
  sSeq (sKl [0] (sIf (m2 eqV (m2 ixV (mVar 0) (mC (.int 1))) (mC (.int 11)))
  (sRet (mTup [mC (.str "grant"), m2 addV (mC (.int 1)) (m2 modV (m2 ixV (mVar 0) (mC (.int 2))) (m2 subV (m2 powV (mC (.int 10)) (mC (.int 30))) (mC (.int 1))))]))
  (sNop))) (
  sRet (mTup [mC (.str "back")])))))))
noncomputable def F_any_change_k32 : Fn := fnOf 4 5 M_any_change_k32
noncomputable def M_any_entries_k32_b1 : MS :=
  sKl [7, 8, 9, 10, 11] (sSeq (sAsg (gNm 8) (mCall F_digits_k30 [m2 ixV (mVar 0) (mVar 7), mLstF [mC (.int 4), mVar 3, mC (.int 4), mVar 3, mC (.int 13), m2 powV (mC (.int 10)) (mC (.int 30))]])) (
  sSeq (sAsg (gNm 9) (m2 ixV (mLstF [mC (.int 0), m2 modV (m2 ixV (mVar 8) (mC (.int 1))) (mC (.int 8)), m2 modV (m2 ixV (mVar 8) (mC (.int 1))) (mC (.int 100)), m2 ixV (mVar 8) (mC (.int 1))]) (m2 ixV (mVar 8) (mC (.int 0))))) (
  sSeq (sAsg (gNm 4) (mCall fMin [m2 addV (mVar 4) (mVar 9), m2 subV (m2 ixV (mVar 1) (m1 negV (mC (.int 1)))) (mC (.int 1))])) (
  sSeq (sAsg (gNm 10) (m2 ixV (mLstF [m2 subV (mVar 4) (m2 ixV (mVar 1) (mC (.int 0))), m2 addV (m2 subV (mVar 4) (m2 ixV (mVar 1) (mC (.int 0)))) (m2 modV (m2 ixV (mVar 8) (mC (.int 3))) (mC (.int 40))), m2 modV (m2 ixV (mVar 8) (mC (.int 3))) (mC (.int 300)), m2 ixV (mVar 8) (mC (.int 3))]) (m2 ixV (mVar 8) (mC (.int 2))))) (
  sSeq (sAsg (gNm 11) (mCall F_any_change_k32 [m2 addV (mLstF [mVar 10]) (mSl (mVar 8) (oAt (mC (.int 4))) oNo), mVar 1, mVar 2, mVar 6])) (
  sSeq (sExpr (mML oApp (mVar 5) [mTup [mVar 4, mVar 11]])) (
  sKl [7, 11] (sIf (m2 eqV (m2 ixV (mVar 11) (mC (.int 0))) (mC (.str "undo")))
  (sExpr (mML oRem (mVar 6) [m2 ixV (mVar 11) (mC (.int 1))]))
  (sKl [7, 11] (sIf (m2 (inV true) (m2 ixV (mVar 11) (mC (.int 0))) (mTup [mC (.str "grant"), mC (.str "back")]))
  (sExpr (mML oApp (mVar 6) [mVar 7]))
  (sNop)))))))))))
/-- _law_cells, _law_begins_here, _law_names, _law_total, _law_entered, _law_entries_here, _law_live, _law_k, _law_some, _law_step, _law_day_here, _law_change_here -/
noncomputable def M_any_entries_k32 : MS :=
  sSeq (sAsg (gNm 3) (m2 subV (m2 ixV (mVar 1) (m1 negV (mC (.int 1)))) (m2 ixV (mVar 1) (mC (.int 0))))) (
  sSeq (sAsg (gNm 4) (m2 ixV (mVar 1) (mC (.int 0)))) (
  sSeq (sAsg (gNm 5) (mLstM [])) (
  sSeq (sAsg (gNm 6) (mLstM [])) (
  sSeq (sKl [0, 1, 2, 3, 4, 6] (sFor (gNm 7) (itR1 (mCall (f1 lenV) [mVar 0]))
  (M_any_entries_k32_b1))) (
  sSeq (sFz 5) (sRet (mVar 5)))))))
noncomputable def F_any_entries_k32 : Fn := fnOf 3 12 M_any_entries_k32
/-- _law_cells, _law_head, _law_begins_here, _law_names -/
noncomputable def M_listed_k32 : MS :=
  sSeq (sIf (m2 eqV (m2 modV (mVar 1) (mC (.int 2))) (mC (.int 1)))
  (sRet (mCall F_any_entries_k32 [mSl (mVar 0) oNo (oAt (m2 modV (m2 fdivV (mVar 1) (mC (.int 2))) (mC (.int 41)))), mVar 2, mVar 3]))
  (sNop)) (
  sRet (mCall F_entries_k32 [mVar 0, m2 fdivV (mVar 1) (mC (.int 2)), mVar 2, mVar 3]))
noncomputable def F_listed_k32 : Fn := fnOf 4 4 M_listed_k32
/-- self, account, plan -/
noncomputable def M_Ledger___init___m : MS :=
  sSeq (sAttr [23] "names" (mVar 0) (mLc [2] (gNm 2) (itL (m2 ixV (mVar 1) (mC (.int 0)))) (mYes) (m2 ixV (mVar 2) (mC (.int 0))) lstF)) (
  sSeq (sAttr [23] "first" (mVar 0) (m2 ixV (mVar 1) (mC (.int 1)))) (
  sSeq (sAttr [23] "last" (mVar 0) (m2 subV (mCall F_begin_of [m2 ixV (mVar 1) (mC (.int 1)), m2 ixV (mVar 1) (mC (.int 2)), mC (.int 60)]) (mC (.int 1)))) (
  sSeq (sAttr [23] "reached" (mVar 0) (m2 ixV (mVar 1) (mC (.int 1)))) (
  sSeq (sAttr [23] "standing" (mVar 0) (mLstM [])) (
  sAttr [23] "count" (mVar 0) (mC (.int 0)))))))
noncomputable def F_Ledger___init___m : Fn := fnOfK 2 3 M_Ledger___init___m
/-- self, thing -/
noncomputable def M_Ledger_is_day : MS :=
  sRet (mCall F_is_between [mVar 1, mAttr [23] "first" (mVar 0), mAttr [23] "last" (mVar 0)])
noncomputable def F_Ledger_is_day : Fn := fnOf 2 2 M_Ledger_is_day
/-- self, change, word -/
noncomputable def M_Ledger_is_term : MS :=
  sSeq (sAsg (gNm 2) (m2 ixV (mVar 1) (mC (.int 0)))) (
  sSeq (sIf (m2 (inV false) (mVar 2) (mC c_WORDS))
  (sRet (mAnd (m2 eqV (mCall (f1 lenV) [mVar 1]) (mC (.int 2))) (mMeth "is_day" [(23, 2, F_Ledger_is_day)] (mVar 0) [m2 ixV (mVar 1) (mC (.int 1))])))
  (sNop)) (
  sSeq (sIf (mOr (m2 neV (mCall (f1 lenV) [mVar 1]) (mC (.int 3))) (mNot (mMeth "is_day" [(23, 2, F_Ledger_is_day)] (mVar 0) [m2 ixV (mVar 1) (mC (.int 1))])))
  (sRet (mC (.bool false)))
  (sNop)) (
  sSeq (sKl [0] (sIf (m2 eqV (mVar 2) (mC (.str "plan")))
  (sRet (m2 (inV false) (m2 ixV (mVar 1) (mC (.int 2))) (mAttr [23] "names" (mVar 0))))
  (sNop))) (
  sRet (mAnd (m2 eqV (mVar 2) (mC (.str "seats"))) (mCall F_is_between [m2 ixV (mVar 1) (mC (.int 2)), mC (.int 0), mC (.int 1000000)]))))))
noncomputable def F_Ledger_is_term : Fn := fnOf 2 3 M_Ledger_is_term
/-- self, change -/
noncomputable def M_Ledger_is_change : MS :=
  sSeq (sIf (mOr (m2 eqV (mVar 1) (mTup [])) (m2 eqV (m2 ixV (mVar 1) (mC (.int 0))) (mC (.str "back"))))
  (sRet (m2 eqV (mVar 1) (mTup [mC (.str "back")])))
  (sNop)) (
  sSeq (sIf (m2 eqV (m2 ixV (mVar 1) (mC (.int 0))) (mC (.str "undo")))
  (sRet (mAnd (m2 eqV (mCall (f1 lenV) [mVar 1]) (mC (.int 2))) (m2 (inV false) (m2 ixV (mVar 1) (mC (.int 1))) (mAttr [23] "standing" (mVar 0)))))
  (sNop)) (
  sSeq (sIf (m2 eqV (m2 ixV (mVar 1) (mC (.int 0))) (mC (.str "grant")))
  (sRet (mAnd (m2 eqV (mCall (f1 lenV) [mVar 1]) (mC (.int 2))) (mCall F_is_between [m2 ixV (mVar 1) (mC (.int 1)), mC (.int 1), m2 subV (mC (.int 1000000000000000000000000000000)) (mC (.int 1))])))
  (sNop)) (
  sRet (mMeth "is_term" [(23, 2, F_Ledger_is_term)] (mVar 0) [mVar 1]))))
noncomputable def F_Ledger_is_change : Fn := fnOf 2 2 M_Ledger_is_change
/-- self, entered, change -/
noncomputable def M_Ledger_take : MS :=
  sSeq (sIf (mOr (mNot (mMeth "is_day" [(23, 2, F_Ledger_is_day)] (mVar 0) [mVar 1])) (mOr (m2 ltV (mVar 1) (mAttr [23] "reached" (mVar 0))) (mNot (mMeth "is_change" [(23, 2, F_Ledger_is_change)] (mVar 0) [mVar 2]))))
  (sRaiseN 7 (mAttr [23] "count" (mVar 0)))
  (sNop)) (
  sSeq (sAttr [23] "reached" (mVar 0) (mVar 1)) (
  sSeq (sIf (m2 (inV false) (m2 ixV (mVar 2) (mC (.int 0))) (mC c_TERMS))
  (sExpr (mML oApp (mAttr [23] "standing" (mVar 0)) [mAttr [23] "count" (mVar 0)]))
  (sNop)) (
  sSeq (sKl [2] (sIf (m2 eqV (m2 ixV (mVar 2) (mC (.int 0))) (mC (.str "undo")))
  (sExpr (mML oRem (mAttr [23] "standing" (mVar 0)) [m2 ixV (mVar 2) (mC (.int 1))]))
  (sNop))) (
  sAttrAug [23] "count" (· + ·) (mVar 0) (mC (.int 1))))))
noncomputable def F_Ledger_take : Fn := fnOf 3 3 M_Ledger_take
noncomputable def M_check_entries_b1 : MS :=
  sKl [3, 4] (sExpr (mMeth "take" [(23, 3, F_Ledger_take)] (mVar 2) [mVar 3, mVar 4]))
/-- account, entries, ledger, entered, change -/
noncomputable def M_check_entries : MS :=
  sSeq (sIf (m2 gtV (mCall (f1 lenV) [mVar 1]) (mC (.int 40)))
  (sRaise 5)
  (sNop)) (
  sSeq (sAsg (gNm 2) (mMake 23 F_Ledger___init___m [mVar 0])) (
  sKl [1, 2] (sFor (gTp [gNm 3, gNm 4]) (itL (mVar 1))
  (M_check_entries_b1))))
noncomputable def F_check_entries : Fn := fnOf 2 5 M_check_entries
noncomputable def M_law_k32_b1 : MS :=
  sKl [6, 7] (sSeq (sAsg (gNm 7) (mSl (mVar 4) oNo (oAt (mVar 6)))) (
  sKl [6, 7] (sIf (mOr (m2 (isV true) (mCall F_check_entries [mVar 1, mVar 7]) (mC .none)) (m2 neV (mVar 7) (mSl (mVar 4) oNo (oAt (mVar 6)))))
  (sRet (mC (.bool false)))
  (sNop))))
/-- _law_script, _law_account_here, _law_begins_here, _law_names, _law_entries_here, _law_kept, _law_many, _law_handed, _law_plan -/
noncomputable def M_law_k32 : MS :=
  sSeq (sAsg (gNm 1) (mCall F_account_k30 [mVar 0])) (
  sSeq (sAsg (gNm 2) (mCall F_begins_k20 [m2 ixV (mVar 1) (mC (.int 1)), m2 ixV (mVar 1) (mC (.int 2)), mC (.int 60)])) (
  sSeq (sAsg (gNm 3) (mLc [8] (gNm 8) (itL (m2 ixV (mVar 1) (mC (.int 0)))) (mYes) (m2 ixV (mVar 8) (mC (.int 0))) lstF)) (
  sSeq (sAsg (gNm 4) (mCall F_listed_k32 [mSl (mVar 0) (oAt (mC (.int 4))) oNo, mCall F_cell_at_k02 [mVar 0, mC (.int 3)], mVar 2, mVar 3])) (
  sSeq (sAsg (gNm 5) (mTup [mCall (f1 lstOfF) [m2 ixV (mVar 1) (mC (.int 0))], m2 ixV (mVar 1) (mC (.int 1)), m2 ixV (mVar 1) (mC (.int 2))])) (
  sSeq (sKl [4] (sFor (gNm 6) (itR1 (m2 addV (mCall (f1 lenV) [mVar 4]) (mC (.int 1))))
  (M_law_k32_b1))) (
  sRet (m2 eqV (mVar 1) (mVar 5))))))))
noncomputable def F_law_k32 : Fn := fnOf 1 9 M_law_k32
end PV

namespace PV
open PySem L2
noncomputable def M_terms_at_m_b1 : MS :=
  sKl [3, 4, 5, 6] (sSeq (sAsg (gTp [gNm 5, gNm 6]) (mVar 4)) (
  sSeq (sKl [3] (sIf (mAnd (m2 leV (mVar 5) (mVar 1)) (m2 (inV false) (m2 ixV (mVar 6) (mC (.int 0))) (mC c_TERMS)))
  (sDPut (mVar 2) (mVar 3) (mVar 6))
  (sNop))) (
  sKl [5, 6] (sIf (mAnd (m2 leV (mVar 5) (mVar 1)) (m2 eqV (m2 ixV (mVar 6) (mC (.int 0))) (mC (.str "undo"))))
  (sExpr (mDPop (mVar 2) (m2 ixV (mVar 6) (mC (.int 1)))))
  (sNop)))))
/-- entries, moment, known, number, entry, entered, change -/
noncomputable def M_terms_at_m : MS :=
  sSeq (sAsg (gNm 2) (mDNew)) (
  sSeq (sKl [0, 1] (sEk [3] (sFor (gTp [gNm 3, gNm 4]) (itE (mVar 0))
  (M_terms_at_m_b1)))) (
  sSeq (sFz 2) (sRet (mLc [3] (gNm 3) (itK (mVar 2)) (mYes) (mTup [mVar 3, m2 dIx (mVar 2) (mVar 3)]) lstM))))
noncomputable def F_terms_at_m : Fn := fnOfK 2 7 M_terms_at_m
noncomputable def M_right_k34_b1 : MS :=
  sKl [2, 3] (sKl [2, 3] (sIf (mOr (mNot (m1 (isiV "tuple") (mVar 2))) (mOr (m2 neV (mCall (f1 lenV) [mVar 2]) (mC (.int 2))) (mOr (mNot (mCall F_whole_k10 [m2 ixV (mVar 2) (mC (.int 0))])) (m2 neV (mVar 2) (mVar 3)))))
  (sRet (mC (.bool false)))
  (sNop)))
/-- _law_found, _law_due, _law_one, _law_other -/
noncomputable def M_right_k34 : MS :=
  sSeq (sIf (mOr (mNot (m1 (isiV "list") (mVar 0))) (m2 neV (mCall (f1 lenV) [mVar 0]) (mCall (f1 lenV) [mVar 1])))
  (sRet (mC (.bool false)))
  (sNop)) (
  sSeq (sKl [0, 1] (sForP (gTp [gNm 2, gNm 3]) (itZp (mVar 0) (mVar 1))
  (M_right_k34_b1))) (
  sRet (mC (.bool true))))
noncomputable def F_right_k34 : Fn := fnOf 2 4 M_right_k34
noncomputable def M_known_k34_b1 : MS :=
  sKl [4, 5, 6] (sSeq (sAsg (gTp [gNm 5, gNm 6]) (m2 ixV (mVar 0) (mVar 4))) (
  sKl [4, 5, 6] (sIf (mAnd (m2 leV (mVar 5) (mVar 1)) (mAnd (m2 (inV true) (mVar 4) (mVar 2)) (m2 (inV true) (m2 ixV (mVar 6) (mC (.int 0))) (mTup [mC (.str "undo"), mC (.str "grant"), mC (.str "back")]))))
  (sExpr (mML oApp (mVar 3) [mTup [mVar 4, mVar 6]]))
  (sNop))))
/-- _law_entries_here, _law_moment, _law_gone, _law_found, _law_number, _law_entered, _law_change_here -/
noncomputable def M_known_k34 : MS :=
  sSeq (sAsg (gNm 2) (mLc [5, 6] (gTp [gNm 5, gNm 6]) (itL (mVar 0)) (mAnd (m2 eqV (m2 ixV (mVar 6) (mC (.int 0))) (mC (.str "undo"))) (m2 leV (mVar 5) (mVar 1))) (m2 ixV (mVar 6) (mC (.int 1))) lstF)) (
  sSeq (sAsg (gNm 3) (mLstM [])) (
  sSeq (sKl [0, 1, 2] (sEk [5, 6] (sFor (gNm 4) (itR1 (mCall (f1 lenV) [mVar 0]))
  (M_known_k34_b1)))) (
  sSeq (sFz 3) (sRet (mVar 3)))))
noncomputable def F_known_k34 : Fn := fnOf 2 7 M_known_k34
noncomputable def M_law_k34_b1 : MS :=
  sKl [8, 9] (sAsg (gNm 7) (m2 addV (mVar 7) (mLstF [mCall fMax [m2 ixV (mVar 4) (mC (.int 0)), m2 subV (mVar 8) (mC (.int 1))], mVar 8, m2 addV (mVar 8) (mC (.int 1))])))
noncomputable def M_law_k34_b2 : MS :=
  sKl [11, 12] (sSeq (sAsg (gNm 12) (mCall F_terms_at_m [mVar 10, mVar 11])) (
  sSeq (sKl [11] (sIf (mNot (mCall F_right_k34 [mVar 12, mCall F_known_k34 [mVar 6, mVar 11]]))
  (sRet (mC (.bool false)))
  (sNop))) (
  sExpr (mML oClear (mVar 12) []))))
/-- _law_script, _law_plans_here, _law_first_here, _law_cycle_here, _law_begins_here, _law_head, _law_entries_here, _law_days, _law_entered, _law_change_here, _law_handed, _law_day_here, _law_found, _law_plan -/
noncomputable def M_law_k34 : MS :=
  sSeq (sAsg (gTp [gNm 1, gNm 2, gNm 3]) (mCall F_account_k30 [mVar 0])) (
  sSeq (sAsg (gNm 4) (mCall F_begins_k20 [mVar 2, mVar 3, mC (.int 60)])) (
  sSeq (sAsg (gNm 5) (mCall F_cell_at_k02 [mVar 0, mC (.int 3)])) (
  sSeq (sAsg (gNm 6) (mCall F_listed_k32 [mSl (mVar 0) (oAt (mC (.int 4))) oNo, mVar 5, mVar 4, mLc [13] (gNm 13) (itL (mVar 1)) (mYes) (m2 ixV (mVar 13) (mC (.int 0))) lstF])) (
  sSeq (sAsg (gNm 7) (mLstF [m2 ixV (mVar 4) (mC (.int 0)), m2 ixV (mVar 4) (m2 modV (mVar 5) (mC (.int 60))), m2 addV (m2 ixV (mVar 4) (mC (.int 0))) (m2 modV (m2 fdivV (mVar 5) (mC (.int 82))) (m2 subV (m2 ixV (mVar 4) (m1 negV (mC (.int 1)))) (m2 ixV (mVar 4) (mC (.int 0)))))])) (
  sSeq (sKl [4] (sFor (gTp [gNm 8, gNm 9]) (itL (mVar 6))
  (M_law_k34_b1))) (
  sSeq (sAsg (gNm 10) (mCall (f1 lstOfF) [mVar 6])) (
  sSeq (sKl [7] (sFor (gNm 11) (itL (m2 addV (mVar 7) (m1 revV (mVar 7))))
  (M_law_k34_b2))) (
  sRet (m2 eqV (mVar 10) (mVar 6))))))))))
noncomputable def F_law_k34 : Fn := fnOf 1 14 M_law_k34
end PV

namespace PV
open PySem L2
/-- _law_cell, _law_begins_here, _law_names, _law_k, _law_size, _law_day_here, _law_some -/
noncomputable def M_term_k40 : MS :=
  sSeq (sAsg (gNm 3) (m2 ixV (mLstF [m2 modV (m2 fdivV (mVar 0) (mC (.int 8))) (mC (.int 60)), mC (.int 59), mC (.int 0), m2 modV (m2 fdivV (mVar 0) (mC (.int 8))) (mC (.int 3))]) (m2 modV (m2 fdivV (mVar 0) (mC (.int 2))) (mC (.int 4))))) (
  sSeq (sAsg (gNm 4) (m2 subV (m2 ixV (mVar 1) (m2 addV (mVar 3) (mC (.int 1)))) (m2 ixV (mVar 1) (mVar 3)))) (
  sSeq (sAsg (gNm 5) (m2 addV (m2 ixV (mVar 1) (mVar 3)) (m2 ixV (mLstF [mC (.int 0), m2 subV (mVar 4) (mC (.int 1)), m2 modV (m2 fdivV (mVar 0) (mC (.int 512))) (mVar 4), mCall fMin [mC (.int 1), m2 subV (mVar 4) (mC (.int 1))]]) (m2 modV (m2 fdivV (mVar 0) (mC (.int 64))) (mC (.int 4)))))) (
  sSeq (sIf (m2 eqV (m2 modV (mVar 0) (mC (.int 2))) (mC (.int 0)))
  (sRet (mTup [mC (.str "last"), mVar 5]))
  (sNop)) (
  sSeq (sAsg (gNm 6) (mLstF [mTup [mC (.str "plan"), mVar 5, m2 ixV (mVar 2) (m2 modV (m2 fdivV (mVar 0) (mC (.int 8))) (mCall (f1 lenV) [mVar 2]))], mTup [mC (.str "seats"), mVar 5, m2 modV (m2 fdivV (mVar 0) (mC (.int 8))) (mC (.int 1000001))], mTup [mC (.str "hold"), mVar 5]])) (
  sRet (m2 ixV (m2 addV (mVar 6) (mLstF [mTup [mC (.str "go"), mVar 5], mTup [mC (.str "stop"), mVar 5]])) (m2 modV (m2 fdivV (mVar 0) (mC (.int 3))) (mC (.int 5)))))))))
noncomputable def F_term_k40 : Fn := fnOf 3 7 M_term_k40
/-- account, change -/
noncomputable def M_counts_from : MS :=
  sSeq (sKl [0] (sIf (m2 eqV (m2 ixV (mVar 1) (mC (.int 0))) (mC (.str "last")))
  (sRet (m2 ixV (mCall F_span_on [m2 ixV (mVar 0) (mC (.int 1)), m2 ixV (mVar 0) (mC (.int 2)), m2 ixV (mVar 1) (mC (.int 1))]) (mC (.int 2))))
  (sNop))) (
  sRet (m2 ixV (mVar 1) (mC (.int 1))))
noncomputable def F_counts_from : Fn := fnOf 2 2 M_counts_from
noncomputable def M_law_k40_b1 : MS :=
  sKl [5, 6, 7, 8] (sSeq (sAsg (gNm 6) (mCall F_term_k40 [mVar 5, mVar 4, mLc [9] (gNm 9) (itL (mVar 1)) (mYes) (m2 ixV (mVar 9) (mC (.int 0))) lstF])) (
  sSeq (sAsg (gNm 7) (m2 ixV (mVar 6) (mC (.int 1)))) (
  sSeq (sIf (m2 eqV (m2 ixV (mVar 6) (mC (.int 0))) (mC (.str "last")))
  (sAsg (gNm 7) (mCall fMin [mLc [10] (gNm 10) (itL (mVar 4)) (m2 gtV (mVar 10) (m2 ixV (mVar 6) (mC (.int 1)))) (mVar 10) lstF]))
  (sNop)) (
  sSeq (sAsg (gNm 8) (mCall F_counts_from [mTup [mCall (f1 lstOfF) [mVar 1], mVar 2, mVar 3], mVar 6])) (
  sKl [7, 8] (sIf (mOr (mNot (mCall F_whole_k10 [mVar 8])) (m2 neV (mVar 8) (mVar 7)))
  (sRet (mC (.bool false)))
  (sNop)))))))
/-- _law_script, _law_plans_here, _law_first_here, _law_cycle_here, _law_begins_here, _law_cell, _law_change, _law_due, _law_found, _law_plan, _law_day_here -/
noncomputable def M_law_k40 : MS :=
  sSeq (sAsg (gTp [gNm 1, gNm 2, gNm 3]) (mCall F_account_k30 [mVar 0])) (
  sSeq (sAsg (gNm 4) (mCall F_begins_k20 [mVar 2, mVar 3, mC (.int 60)])) (
  sSeq (sKl [0, 1, 2, 3, 4] (sFor (gNm 5) (itL (m2 addV (mLstF [mC (.int 0), mC (.int 2)]) (mSl (mVar 0) (oAt (mC (.int 3))) (oAt (mC (.int 43))))))
  (M_law_k40_b1))) (
  sRet (mC (.bool true)))))
noncomputable def F_law_k40 : Fn := fnOf 1 11 M_law_k40
end PV

namespace PV
open PySem L2
/-- _law_entries_here, _law_begins_here, _law_cell, _law_k, _law_size, _law_day_here, _law_entered, _law_two, _law_entry -/
noncomputable def M_with_two_k41 : MS :=
  sSeq (sAsg (gNm 3) (m2 modV (mVar 2) (mC (.int 9)))) (
  sSeq (sAsg (gNm 4) (m2 subV (m2 ixV (mVar 1) (m2 addV (mVar 3) (mC (.int 1)))) (m2 ixV (mVar 1) (mVar 3)))) (
  sSeq (sAsg (gNm 5) (m2 addV (m2 ixV (mVar 1) (mVar 3)) (m2 modV (m2 fdivV (mVar 2) (mC (.int 9))) (mVar 4)))) (
  sSeq (sAsg (gNm 6) (mCall fMax [m2 addV (mLc [8] (gNm 8) (itL (mSl (mVar 0) oNo (oAt (mC (.int 38))))) (mYes) (m2 ixV (mVar 8) (mC (.int 0))) lstF) (mLstF [m2 ixV (mVar 1) (mC (.int 0))])])) (
  sSeq (sAsg (gNm 7) (mLstM [mTup [m2 ixV (mLstF [mC (.str "hold"), mC (.str "go")]) (m2 modV (mVar 2) (mC (.int 2))), m2 ixV (mVar 1) (m2 addV (mVar 3) (mC (.int 1)))], mTup [mC (.str "last"), mVar 5]])) (
  sSeq (sKl [2] (sIf (m2 eqV (m2 modV (m2 fdivV (mVar 2) (mC (.int 2))) (mC (.int 3))) (mC (.int 2)))
  (sExpr (mML oRev (mVar 7) []))
  (sNop))) (
  sSeq (sFz 7) (sRet (m2 addV (mSl (mVar 0) oNo (oAt (mC (.int 38)))) (mLstF [mTup [mVar 6, m2 ixV (mVar 7) (mC (.int 0))], mTup [mVar 6, m2 ixV (mVar 7) (mC (.int 1))]])))))))))
noncomputable def F_with_two_k41 : Fn := fnOf 3 9 M_with_two_k41
/-- _law_change_here, _law_begins_here, _law_day_here -/
noncomputable def M_counts_k41 : MS :=
  sSeq (sIf (m2 neV (m2 ixV (mVar 0) (mC (.int 0))) (mC (.str "last")))
  (sRet (m2 ixV (mVar 0) (mC (.int 1))))
  (sNop)) (
  sRet (mCall fMin [mLc [2] (gNm 2) (itL (mVar 1)) (m2 gtV (mVar 2) (m2 ixV (mVar 0) (mC (.int 1)))) (mVar 2) lstF]))
noncomputable def F_counts_k41 : Fn := fnOf 2 3 M_counts_k41
/-- _law_found, _law_due -/
noncomputable def M_right_k41 : MS :=
  sSeq (sKl [1] (sIf (mOr (mNot (m1 (isiV "tuple") (mVar 0))) (mOr (m2 neV (mCall (f1 lenV) [mVar 0]) (mC (.int 3))) (m2 neV (mVar 0) (mVar 1))))
  (sRet (mC (.bool false)))
  (sNop))) (
  sRet (mAnd (mCall F_whole_k10 [m2 ixV (mVar 0) (mC (.int 1))]) (m1 (isiV "str") (m2 ixV (mVar 0) (mC (.int 2))))))
noncomputable def F_right_k41 : Fn := fnOf 2 2 M_right_k41
noncomputable def M_latest_b1 : MS :=
  sKl [4] (sKl [4] (sIf (mAnd (m2 (inV false) (m2 ixV (m2 ixV (mVar 4) (mC (.int 3))) (mC (.int 0))) (mVar 1)) (mAnd (m2 leV (m2 ixV (mVar 4) (mC (.int 0))) (mVar 2)) (mOr (m2 (isV false) (mVar 3) (mC .none)) (m2 ltV (mSl (mVar 3) oNo (oAt (mC (.int 3)))) (mSl (mVar 4) oNo (oAt (mC (.int 3))))))))
  (sAsg (gNm 3) (mVar 4))
  (sNop)))
/-- rows, words, day, found, row -/
noncomputable def M_latest : MS :=
  sSeq (sAsg (gNm 3) (mC .none)) (
  sSeq (sKl [0, 1, 2] (sFor (gNm 4) (itL (mVar 0))
  (M_latest_b1))) (
  sSeq (sIf (m2 (isV false) (mVar 3) (mC .none))
  (sRet (mC .none))
  (sNop)) (
  sRet (m2 ixV (mVar 3) (mC (.int 3))))))
noncomputable def F_latest : Fn := fnOf 3 5 M_latest
/-- rows, day, plan, seats, word, state -/
noncomputable def M_state_by : MS :=
  sSeq (sAsg (gNm 2) (mCall F_latest [mVar 0, mTup [mC (.str "plan")], mVar 1])) (
  sSeq (sAsg (gNm 3) (mCall F_latest [mVar 0, mTup [mC (.str "seats")], mVar 1])) (
  sSeq (sAsg (gNm 4) (mCall F_latest [mVar 0, mC c_WORDS, mVar 1])) (
  sSeq (sAsg (gNm 5) (mLstM [mC .none, mC (.int 1), mC (.str "on")])) (
  sSeq (sKl [2] (sIf (m2 (isV true) (mVar 2) (mC .none))
  (sSub (mVar 5) (mC (.int 0)) (m2 ixV (mVar 2) (mC (.int 2))))
  (sNop))) (
  sSeq (sKl [3] (sIf (m2 (isV true) (mVar 3) (mC .none))
  (sSub (mVar 5) (mC (.int 1)) (m2 ixV (mVar 3) (mC (.int 2))))
  (sNop))) (
  sSeq (sKl [4] (sIf (m2 (isV true) (mVar 4) (mC .none))
  (sSub (mVar 5) (mC (.int 2)) (m1 (kIx [("hold", .str "held"), ("go", .str "on"), ("stop", .str "off"), ("last", .str "off")]) (m2 ixV (mVar 4) (mC (.int 0)))))
  (sNop))) (
  sSeq (sFz 5) (sRet (mCall (f1 tupOf) [mVar 5])))))))))
noncomputable def F_state_by : Fn := fnOf 2 6 M_state_by
/-- account, terms, number, change -/
noncomputable def M_counted : MS :=
  sRet (mLc [2, 3] (gTp [gNm 2, gNm 3]) (itL (mVar 1)) (mYes) (mTup [mCall F_counts_from [mVar 0, mVar 3], m2 ixV (mVar 3) (mC (.int 1)), mVar 2, mVar 3]) lstF)
noncomputable def F_counted : Fn := fnOf 2 4 M_counted
/-- account, terms, day -/
noncomputable def M_state_on : MS :=
  sSeq (sExpr (mCall F_span_on [m2 ixV (mVar 0) (mC (.int 1)), m2 ixV (mVar 0) (mC (.int 2)), mVar 2])) (
  sRet (mCall F_state_by [mCall F_counted [mVar 0, mVar 1], mVar 2]))
noncomputable def F_state_on : Fn := fnOf 3 3 M_state_on
noncomputable def M_state_k41_b1 : MS :=
  sKl [4, 5, 6, 7, 8] (sSeq (sAsg (gNm 6) (mTup [mCall F_counts_k41 [mVar 5, mVar 1], m2 ixV (mVar 5) (mC (.int 1)), mVar 4])) (
  sSeq (sAsg (gNm 7) (m2 ixV (mVar 5) (mC (.int 0)))) (
  sSeq (sAsg (gNm 8) (m2 ixV (mVar 5) (m1 negV (mC (.int 1))))) (
  sSeq (sIf (m2 (inV false) (mVar 7) (mTup [mC (.str "hold"), mC (.str "go"), mC (.str "stop"), mC (.str "last")]))
  (sSeq (sAsg (gNm 8) (mTmp (m2 dIx (mDisp [.inr "hold", .inr "go", .inr "stop", .inr "last"] [mC (.str "held"), mC (.str "on"), mC (.str "off"), mC (.str "off")]) (mVar 7)))) (
  sAsg (gNm 7) (mC (.str "word"))))
  (sNop)) (
  sKl [6, 7, 8] (sIf (mAnd (m2 leV (m2 ixV (mVar 6) (mC (.int 0))) (mVar 2)) (mOr (m2 (isV false) (m2 ixV (m2 dIx (mVar 3) (mVar 7)) (mC (.int 0))) (mC .none)) (m2 ltV (m2 ixV (m2 dIx (mVar 3) (mVar 7)) (mC (.int 0))) (mVar 6))))
  (sDPut (mVar 3) (mVar 7) (mTup [mVar 6, mVar 8]))
  (sNop)))))))
/-- _law_known_here, _law_begins_here, _law_day_here, _law_found, _law_number, _law_change_here, _law_rank, _law_word, _law_told -/
noncomputable def M_state_k41 : MS :=
  sSeq (sAsg (gNm 3) (mDisp [.inr "plan", .inr "seats", .inr "word"] [mTup [mC .none, mC .none], mTup [mC .none, mC (.int 1)], mTup [mC .none, mC (.str "on")]])) (
  sSeq (sKl [0, 1, 2] (sFor (gTp [gNm 4, gNm 5]) (itL (mVar 0))
  (M_state_k41_b1))) (
  sSeq (sFz 3) (sRet (mTup [m2 ixV (m2 dIx (mVar 3) (mC (.str "plan"))) (mC (.int 1)), m2 ixV (m2 dIx (mVar 3) (mC (.str "seats"))) (mC (.int 1)), m2 ixV (m2 dIx (mVar 3) (mC (.str "word"))) (mC (.int 1))]))))
noncomputable def F_state_k41 : Fn := fnOf 3 9 M_state_k41
noncomputable def M_law_k41_b1 : MS :=
  sKl [8, 9, 10] (sSeq (sAsg (gNm 10) (mCall F_counts_k41 [mVar 9, mVar 2])) (
  sAsg (gNm 7) (m2 addV (mVar 7) (mLstF [mVar 10, m2 subV (mVar 10) (mC (.int 1)), m2 ixV (mVar 9) (mC (.int 1))]))))
noncomputable def M_law_k41_b2 : MS :=
  sKl [10] (sKl [10] (sIf (mNot (mCall F_right_k41 [mCall F_state_on [mVar 1, mVar 11, mVar 10], mCall F_state_k41 [mVar 6, mVar 2, mVar 10]]))
  (sRet (mC (.bool false)))
  (sNop)))
/-- _law_script, _law_account_here, _law_begins_here, _law_head, _law_entries_here, _law_moment, _law_known_here, _law_days, _law_number, _law_change_here, _law_day_here, _law_handed, _law_plan -/
noncomputable def M_law_k41 : MS :=
  sSeq (sAsg (gNm 1) (mCall F_account_k30 [mVar 0])) (
  sSeq (sAsg (gNm 2) (mCall F_begins_k20 [m2 ixV (mVar 1) (mC (.int 1)), m2 ixV (mVar 1) (mC (.int 2)), mC (.int 60)])) (
  sSeq (sAsg (gNm 3) (mCall F_cell_at_k02 [mVar 0, mC (.int 3)])) (
  sSeq (sAsg (gNm 4) (mCall F_listed_k32 [mSl (mVar 0) (oAt (mC (.int 4))) oNo, mVar 3, mVar 2, mLc [12] (gNm 12) (itL (m2 ixV (mVar 1) (mC (.int 0)))) (mYes) (m2 ixV (mVar 12) (mC (.int 0))) lstF])) (
  sSeq (sIf (m2 eqV (m2 modV (m2 fdivV (mVar 3) (mC (.int 9))) (mC (.int 3))) (mC (.int 1)))
  (sAsg (gNm 4) (mCall F_with_two_k41 [mVar 4, mVar 2, m2 fdivV (mVar 3) (mC (.int 27))]))
  (sNop)) (
  sSeq (sAsg (gNm 5) (m2 subV (m2 ixV (mVar 2) (m1 negV (mC (.int 1)))) (mC (.int 1)))) (
  sSeq (sIf (mAnd (m2 eqV (m2 modV (mVar 3) (mC (.int 3))) (mC (.int 1))) (m2 neV (mVar 4) (mLstF [])))
  (sAsg (gNm 5) (m2 ixV (m2 ixV (mVar 4) (m2 modV (m2 fdivV (mVar 3) (mC (.int 3))) (mCall (f1 lenV) [mVar 4]))) (mC (.int 0))))
  (sNop)) (
  sSeq (sAsg (gNm 6) (mCall F_known_k34 [mVar 4, mVar 5])) (
  sSeq (sAsg (gNm 7) (mLstM [m2 ixV (mVar 2) (mC (.int 0)), m2 subV (m2 ixV (mVar 2) (m1 negV (mC (.int 1)))) (mC (.int 1)), m2 ixV (mVar 2) (m2 modV (m2 fdivV (mVar 3) (mC (.int 7))) (mC (.int 60))), m2 addV (m2 ixV (mVar 2) (m2 modV (m2 fdivV (mVar 3) (mC (.int 7))) (mC (.int 60)))) (m2 modV (mVar 3) (mC (.int 5)))])) (
  sSeq (sExpr (mML oApp (mVar 7) [m2 addV (m2 ixV (mVar 2) (mC (.int 0))) (m2 modV (m2 fdivV (mVar 3) (mC (.int 82))) (m2 subV (m2 ixV (mVar 2) (m1 negV (mC (.int 1)))) (m2 ixV (mVar 2) (mC (.int 0)))))])) (
  sSeq (sFz 7) (sSeq (sEk [10] (sFor (gTp [gNm 8, gNm 9]) (itL (mVar 6))
  (M_law_k41_b1))) (
  sSeq (sAsg (gNm 7) (mLc [10] (gNm 10) (itL (mVar 7)) (mChain leV ltV (m2 ixV (mVar 2) (mC (.int 0))) (mVar 10) (m2 ixV (mVar 2) (m1 negV (mC (.int 1))))) (mVar 10) lstM)) (
  sSeq (sFz 7) (sSeq (sAsg (gNm 11) (mCall (f1 lstOfF) [mVar 6])) (
  sSeq (sKl [1, 2, 7] (sEk [10] (sFor (gNm 10) (itL (mVar 7))
  (M_law_k41_b2)))) (
  sRet (m2 eqV (mVar 11) (mVar 6))))))))))))))))))
noncomputable def F_law_k41 : Fn := fnOf 1 13 M_law_k41
end PV

namespace PV
open PySem L2
/-- _law_known_here, _law_begins_here, _law_x, _law_y, _law_some, _law_begin, _law_number, _law_change_here -/
noncomputable def M_two_k42 : MS :=
  sSeq (sAsg (gNm 4) (mLstF [m2 ixV (mVar 1) (m2 modV (m2 fdivV (mVar 2) (mC (.int 8))) (mC (.int 10))), m2 ixV (mVar 1) (mC (.int 0)), m2 ixV (mVar 1) (m2 modV (m2 fdivV (mVar 2) (mC (.int 8))) (mC (.int 60)))])) (
  sSeq (sAsg (gNm 4) (m2 addV (mVar 4) (mLc [6, 7] (gTp [gNm 6, gNm 7]) (itL (mVar 0)) (mYes) (mCall F_counts_k41 [mVar 7, mVar 1]) lstF))) (
  sSeq (sAsg (gNm 5) (mCall fMax [m2 ixV (mVar 1) (mC (.int 0)), m2 subV (m2 ixV (mVar 4) (m2 modV (mVar 2) (mCall (f1 lenV) [mVar 4]))) (m2 modV (m2 fdivV (mVar 2) (mC (.int 80))) (mC (.int 9)))])) (
  sSeq (sAsg (gNm 5) (mCall fMin [mVar 5, m2 subV (m2 ixV (mVar 1) (m1 negV (mC (.int 1)))) (mC (.int 1))])) (
  sSeq (sIf (m2 eqV (m2 modV (mVar 3) (mC (.int 8))) (mC (.int 1)))
  (sRet (mTup [m2 ixV (mVar 1) (mC (.int 0)), m2 ixV (mVar 1) (m1 negV (mC (.int 1)))]))
  (sNop)) (
  sSeq (sKl [2] (sIf (m2 eqV (m2 modV (mVar 3) (mC (.int 8))) (mC (.int 6)))
  (sSeq (sAsg (gNm 5) (m2 addV (m2 ixV (mVar 1) (mC (.int 0))) (m2 modV (mVar 2) (m2 subV (m2 ixV (mVar 1) (m1 negV (mC (.int 1)))) (m2 ixV (mVar 1) (mC (.int 0))))))) (
  sRet (mTup [mVar 5, m2 addV (mVar 5) (m2 modV (m2 fdivV (mVar 3) (mC (.int 8))) (m2 addV (m2 subV (m2 ixV (mVar 1) (m1 negV (mC (.int 1)))) (mVar 5)) (mC (.int 1))))])))
  (sNop))) (
  sRet (mTup [mVar 5, mCall fMin [m2 addV (mVar 5) (m2 modV (m2 ixV (mLstF [m2 modV (m2 fdivV (mVar 3) (mC (.int 8))) (mC (.int 100)), m2 modV (m2 fdivV (mVar 3) (mC (.int 8))) (mC (.int 10)), mC (.int 0), m2 subV (m2 ixV (mVar 1) (mC (.int 1))) (m2 ixV (mVar 1) (mC (.int 0)))]) (m2 modV (mVar 3) (mC (.int 4)))) (mC (.int 120))), m2 ixV (mVar 1) (m1 negV (mC (.int 1)))]])))))))
noncomputable def F_two_k42 : Fn := fnOf 4 8 M_two_k42
noncomputable def M_stretches_m_b1 : MS :=
  sKl [7, 8, 9, 10] (sSeq (sAsg (gNm 9) (m2 ixV (m2 addV (mVar 5) (mLstF [mVar 3])) (m2 addV (mVar 7) (mC (.int 1))))) (
  sSeq (sAsg (gNm 10) (mCall F_state_by [mVar 4, mVar 8])) (
  sKl [8, 9, 10] (sIf (mAnd (m2 neV (mVar 6) (mLstF [])) (m2 eqV (m2 ixV (m2 ixV (mVar 6) (m1 negV (mC (.int 1)))) (mC (.int 2))) (mVar 10)))
  (sSub (mVar 6) (m1 negV (mC (.int 1))) (mTup [m2 ixV (m2 ixV (mVar 6) (m1 negV (mC (.int 1)))) (mC (.int 0)), mVar 9, mVar 10]))
  (sKl [8, 9, 10] (sIf (m2 ltV (mVar 8) (mVar 9))
  (sExpr (mML oApp (mVar 6) [mTup [mVar 8, mVar 9, mVar 10]]))
  (sNop)))))))
/-- account, terms, begin, end, rows, cuts, found, k, day, behind, state, row -/
noncomputable def M_stretches_m : MS :=
  sSeq (sAsg (gNm 4) (mCall F_counted [mVar 0, mVar 1])) (
  sSeq (sAsg (gNm 5) (m1 ssetV (m2 addV (mLstF [mVar 2]) (mLc [11] (gNm 11) (itL (mVar 4)) (mChain ltV ltV (mVar 2) (m2 ixV (mVar 11) (mC (.int 0))) (mVar 3)) (m2 ixV (mVar 11) (mC (.int 0))) lstF)))) (
  sSeq (sAsg (gNm 6) (mLstM [])) (
  sSeq (sKl [3, 4, 5] (sFor (gTp [gNm 7, gNm 8]) (itE (mVar 5))
  (M_stretches_m_b1))) (
  sRet (mVar 6)))))
noncomputable def F_stretches_m : Fn := fnOfK 4 12 M_stretches_m
noncomputable def M_days_k42_b1 : MS :=
  sKl [5, 6, 7] (sSeq (sAsg (gNm 7) (mCall F_counts_k41 [mVar 6, mVar 1])) (
  sAsg (gNm 4) (m2 addV (mVar 4) (mLstF [m2 subV (mVar 7) (mC (.int 1)), mVar 7]))))
/-- _law_known_here, _law_begins_here, _law_begin, _law_end, _law_days_here, _law_number, _law_change_here, _law_day_here -/
noncomputable def M_days_k42 : MS :=
  sSeq (sIf (m2 leV (m2 subV (mVar 3) (mVar 2)) (mC (.int 130)))
  (sRet (m2 rgL (mVar 2) (mVar 3)))
  (sNop)) (
  sSeq (sAsg (gNm 4) (mLstF [mVar 2, m2 subV (mVar 3) (mC (.int 1))])) (
  sSeq (sKl [0, 1] (sEk [7] (sFor (gTp [gNm 5, gNm 6]) (itL (mVar 0))
  (M_days_k42_b1)))) (
  sRet (mLc [7] (gNm 7) (itL (mVar 4)) (mChain leV ltV (mVar 2) (mVar 7) (mVar 3)) (mVar 7) lstF))))
noncomputable def F_days_k42 : Fn := fnOf 4 8 M_days_k42
noncomputable def M_lie_behind_k42_b1 : MS :=
  sKl [4] (sSeq (sIf (mOr (mNot (m1 (isiV "tuple") (mVar 4))) (mOr (m2 neV (mCall (f1 lenV) [mVar 4]) (mC (.int 3))) (mOr (mNot (mCall F_whole_k10 [m2 ixV (mVar 4) (mC (.int 0))])) (mNot (mCall F_whole_k10 [m2 ixV (mVar 4) (mC (.int 1))])))))
  (sRet (mC (.bool false)))
  (sNop)) (
  sSeq (sKl [3] (sIf (mOr (m2 neV (m2 ixV (mVar 4) (mC (.int 0))) (mVar 3)) (mOr (m2 leV (m2 ixV (mVar 4) (mC (.int 1))) (mVar 3)) (mOr (mNot (m1 (isiV "tuple") (m2 ixV (mVar 4) (mC (.int 2))))) (m2 neV (mCall (f1 lenV) [m2 ixV (mVar 4) (mC (.int 2))]) (mC (.int 3))))))
  (sRet (mC (.bool false)))
  (sNop))) (
  sAsg (gNm 3) (m2 ixV (mVar 4) (mC (.int 1))))))
noncomputable def M_lie_behind_k42_b2 : MS :=
  sKl [5, 6] (sKl [5, 6] (sIf (m2 eqV (m2 ixV (mVar 5) (mC (.int 2))) (m2 ixV (mVar 6) (mC (.int 2))))
  (sRet (mC (.bool false)))
  (sNop)))
/-- _law_found, _law_begin, _law_end, _law_at, _law_row, _law_one, _law_other -/
noncomputable def M_lie_behind_k42 : MS :=
  sSeq (sAsg (gNm 3) (mVar 1)) (
  sSeq (sForP (gNm 4) (itLp (mVar 0))
  (M_lie_behind_k42_b1)) (
  sSeq (sKl [0] (sFor (gTp [gNm 5, gNm 6]) (itZ (mSl (mVar 0) oNo (oAt (m1 negV (mC (.int 1))))) (mSl (mVar 0) (oAt (mC (.int 1))) oNo))
  (M_lie_behind_k42_b2))) (
  sRet (m2 eqV (mVar 3) (mVar 2)))))
noncomputable def F_lie_behind_k42 : Fn := fnOf 3 7 M_lie_behind_k42
noncomputable def M_right_k42_b1 : MS :=
  sKl [5, 6] (sSeq (sAsg (gNm 6) (m2 ixV (mLcP [7] (gNm 7) (itLp (mVar 0)) (mChain leV ltV (m2 ixV (mVar 7) (mC (.int 0))) (mVar 5) (m2 ixV (mVar 7) (mC (.int 1)))) (m2 ixV (mVar 7) (mC (.int 2))) lstF) (mC (.int 0)))) (
  sKl [5, 6] (sIf (mOr (m2 neV (mVar 6) (mCall F_state_k41 [mVar 1, mVar 2, mVar 5])) (mNot (mCall F_whole_k10 [m2 ixV (mVar 6) (mC (.int 1))])))
  (sRet (mC (.bool false)))
  (sNop))))
/-- _law_found, _law_known_here, _law_begins_here, _law_begin, _law_end, _law_day_here, _law_state_here, _law_row -/
noncomputable def M_right_k42 : MS :=
  sSeq (sIf (mOr (mNot (m1 (isiV "list") (mVar 0))) (mNot (mCall F_lie_behind_k42 [mVar 0, mVar 3, mVar 4])))
  (sRet (mC (.bool false)))
  (sNop)) (
  sSeq (sKl [0, 1, 2, 3, 4] (sFor (gNm 5) (itL (mCall F_days_k42 [mVar 1, mVar 2, mVar 3, mVar 4]))
  (M_right_k42_b1))) (
  sRet (mC (.bool true))))
noncomputable def F_right_k42 : Fn := fnOf 5 8 M_right_k42
noncomputable def M_law_k42_b1 : MS :=
  sKl [5, 6, 7, 8, 9, 10] (sSeq (sAsg (gTp [gNm 6, gNm 7]) (mCall F_two_k42 [mVar 4, mVar 2, mCall F_cell_at_k02 [mVar 0, m2 addV (mC (.int 4)) (mVar 5)], mCall F_cell_at_k02 [mVar 0, m2 subV (mC (.int 5)) (mVar 5)]])) (
  sSeq (sAsg (gNm 8) (mCall (f1 lstOfF) [mVar 4])) (
  sSeq (sAsg (gNm 9) (mCall F_stretches_m [mVar 1, mVar 8, mVar 6, mVar 7])) (
  sSeq (sIf (mOr (mNot (mCall F_right_k42 [mVar 9, mVar 4, mVar 2, mVar 6, mVar 7])) (m2 neV (mVar 8) (mVar 4)))
  (sRet (mC (.bool false)))
  (sNop)) (
  sSeq (sAsg (gNm 10) (mCall (f1 lstOfF) [mVar 9])) (
  sSeq (sExpr (mML oClear (mVar 9) [])) (
  sKl [6, 7, 8, 10] (sIf (mOr (m2 neV (mCall F_stretches_m [mVar 1, mVar 8, mVar 6, mVar 7]) (mVar 10)) (m2 neV (mCall F_stretches_m [mVar 1, mVar 8, mVar 6, mVar 6]) (mLstF [])))
  (sRet (mC (.bool false)))
  (sNop)))))))))
/-- _law_script, _law_account_here, _law_begins_here, _law_entries_here, _law_known_here, _law_turn, _law_begin, _law_end, _law_handed, _law_found, _law_kept, _law_plan -/
noncomputable def M_law_k42 : MS :=
  sSeq (sAsg (gNm 1) (mCall F_account_k30 [mVar 0])) (
  sSeq (sAsg (gNm 2) (mCall F_begins_k20 [m2 ixV (mVar 1) (mC (.int 1)), m2 ixV (mVar 1) (mC (.int 2)), mC (.int 60)])) (
  sSeq (sAsg (gNm 3) (mCall F_listed_k32 [mSl (mVar 0) (oAt (mC (.int 6))) oNo, mCall F_cell_at_k02 [mVar 0, mC (.int 3)], mVar 2, mLc [11] (gNm 11) (itL (m2 ixV (mVar 1) (mC (.int 0)))) (mYes) (m2 ixV (mVar 11) (mC (.int 0))) lstF])) (
  sSeq (sAsg (gNm 4) (mCall F_known_k34 [mVar 3, m2 ixV (mVar 2) (m1 negV (mC (.int 1)))])) (
  sSeq (sKl [0, 1, 2, 4] (sFor (gNm 5) (itR1 (mC (.int 2)))
  (M_law_k42_b1))) (
  sRet (mC (.bool true)))))))
noncomputable def F_law_k42 : Fn := fnOf 1 12 M_law_k42
end PV

namespace PV.K42
open PySem L2 PV PySem.Spec PyProof.Rows
def top (i : Nat) : Stmt := PySem.Challenge.pw_paidspan_k42_stretches_day_by_day.main.body.getD i (.Pass ⟨0, 0, 0, 0⟩)
abbrev P : Program := PySem.Challenge.pw_paidspan_k42_stretches_day_by_day
abbrev s__law_mixed : Stmt := top 33
abbrev N__law_mixed : List Str := ["_law_cell", "_law_k", "_law_number"]
theorem sc__law_mixed : FnScope N__law_mixed ["_law_cell", "_law_k"] (defScope s__law_mixed) := ⟨rfl, rfl, rfl, by decide +kernel, rfl, by decide +kernel, by decide +kernel⟩
def d__law_mixed : He.DefD := ⟨("_law_mixed", none), "_law_mixed", "_law_mixed", defArgs s__law_mixed, defBody s__law_mixed, defScope s__law_mixed, [], []⟩
abbrev s__law_words : Stmt := top 42
abbrev N__law_words : List Str := ["_law_cell", "_law_many", "_law_letters", "_law_base", "_law_at", "_law_step", "_law_words_here", "_law_k", "_law_sign", "_law_j"]
theorem sc__law_words : FnScope N__law_words ["_law_cell", "_law_many"] (defScope s__law_words) := ⟨rfl, rfl, rfl, by decide +kernel, rfl, by decide +kernel, by decide +kernel⟩
def d__law_words : He.DefD := ⟨("_law_words", none), "_law_words", "_law_words", defArgs s__law_words, defBody s__law_words, defScope s__law_words, [], []⟩
abbrev s__law_plans : Stmt := top 43
abbrev N__law_plans : List Str := ["_law_cell", "_law_many", "_law_names", "_law_plans_here", "_law_k", "_law_m", "_law_price", "_law_count"]
theorem sc__law_plans : FnScope N__law_plans ["_law_cell"] (defScope s__law_plans) := ⟨rfl, rfl, rfl, by decide +kernel, rfl, by decide +kernel, by decide +kernel⟩
def d__law_plans : He.DefD := ⟨("_law_plans", none), "_law_plans", "_law_plans", defArgs s__law_plans, defBody s__law_plans, defScope s__law_plans, [], []⟩
abbrev s__law_digits : Stmt := top 44
abbrev N__law_digits : List Str := ["_law_cell", "_law_sizes", "_law_found", "_law_size"]
theorem sc__law_digits : FnScope N__law_digits ["_law_cell", "_law_sizes"] (defScope s__law_digits) := ⟨rfl, rfl, rfl, by decide +kernel, rfl, by decide +kernel, by decide +kernel⟩
def d__law_digits : He.DefD := ⟨("_law_digits", none), "_law_digits", "_law_digits", defArgs s__law_digits, defBody s__law_digits, defScope s__law_digits, [], []⟩
abbrev s__law_any_plans : Stmt := top 45
abbrev N__law_any_plans : List Str := ["_law_cell", "_law_letters", "_law_plans_here", "_law_many", "_law_k", "_law_some", "_law_name", "_law_one", "_law_plan"]
theorem sc__law_any_plans : FnScope N__law_any_plans ["_law_cell"] (defScope s__law_any_plans) := ⟨rfl, rfl, rfl, by decide +kernel, rfl, by decide +kernel, by decide +kernel⟩
def d__law_any_plans : He.DefD := ⟨("_law_any_plans", none), "_law_any_plans", "_law_any_plans", defArgs s__law_any_plans, defBody s__law_any_plans, defScope s__law_any_plans, [], []⟩
abbrev s__law_starts : Stmt := top 35
abbrev N__law_starts : List Str := ["_law_year", "_law_gone"]
theorem sc__law_starts : FnScope N__law_starts ["_law_year"] (defScope s__law_starts) := ⟨rfl, rfl, rfl, by decide +kernel, rfl, by decide +kernel, by decide +kernel⟩
def d__law_starts : He.DefD := ⟨("_law_starts", none), "_law_starts", "_law_starts", defArgs s__law_starts, defBody s__law_starts, defScope s__law_starts, [], []⟩
abbrev s__law_length : Stmt := top 36
abbrev N__law_length : List Str := ["_law_year", "_law_month"]
theorem sc__law_length : FnScope N__law_length ["_law_year", "_law_month"] (defScope s__law_length) := ⟨rfl, rfl, rfl, by decide +kernel, rfl, by decide +kernel, by decide +kernel⟩
def d__law_length : He.DefD := ⟨("_law_length", none), "_law_length", "_law_length", defArgs s__law_length, defBody s__law_length, defScope s__law_length, [], []⟩
abbrev s__law_day : Stmt := top 37
abbrev N__law_day : List Str := ["_law_year", "_law_month", "_law_day_here", "_law_k"]
theorem sc__law_day : FnScope N__law_day ["_law_year", "_law_month", "_law_day_here"] (defScope s__law_day) := ⟨rfl, rfl, rfl, by decide +kernel, rfl, by decide +kernel, by decide +kernel⟩
def d__law_day : He.DefD := ⟨("_law_day", none), "_law_day", "_law_day", defArgs s__law_day, defBody s__law_day, defScope s__law_day, [], []⟩
abbrev s__law_first : Stmt := top 40
abbrev N__law_first : List Str := ["_law_cell", "_law_year", "_law_edges"]
theorem sc__law_first : FnScope N__law_first ["_law_cell"] (defScope s__law_first) := ⟨rfl, rfl, rfl, by decide +kernel, rfl, by decide +kernel, by decide +kernel⟩
def d__law_first : He.DefD := ⟨("_law_first", none), "_law_first", "_law_first", defArgs s__law_first, defBody s__law_first, defScope s__law_first, [], []⟩
abbrev s__law_cycle : Stmt := top 41
abbrev N__law_cycle : List Str := ["_law_cell", "_law_some"]
theorem sc__law_cycle : FnScope N__law_cycle ["_law_cell"] (defScope s__law_cycle) := ⟨rfl, rfl, rfl, by decide +kernel, rfl, by decide +kernel, by decide +kernel⟩
def d__law_cycle : He.DefD := ⟨("_law_cycle", none), "_law_cycle", "_law_cycle", defArgs s__law_cycle, defBody s__law_cycle, defScope s__law_cycle, [], []⟩
abbrev s__law_cell_at : Stmt := top 32
abbrev N__law_cell_at : List Str := ["_law_script", "_law_k"]
theorem sc__law_cell_at : FnScope N__law_cell_at ["_law_script", "_law_k"] (defScope s__law_cell_at) := ⟨rfl, rfl, rfl, by decide +kernel, rfl, by decide +kernel, by decide +kernel⟩
def d__law_cell_at : He.DefD := ⟨("_law_cell_at", none), "_law_cell_at", "_law_cell_at", defArgs s__law_cell_at, defBody s__law_cell_at, defScope s__law_cell_at, [], []⟩
abbrev s__law_account : Stmt := top 46
abbrev N__law_account : List Str := ["_law_script", "_law_plans_here"]
theorem sc__law_account : FnScope N__law_account ["_law_script"] (defScope s__law_account) := ⟨rfl, rfl, rfl, by decide +kernel, rfl, by decide +kernel, by decide +kernel⟩
def d__law_account : He.DefD := ⟨("_law_account", none), "_law_account", "_law_account", defArgs s__law_account, defBody s__law_account, defScope s__law_account, [], []⟩
abbrev s__law_months_on : Stmt := top 38
abbrev N__law_months_on : List Str := ["_law_number", "_law_many", "_law_year", "_law_left", "_law_month"]
theorem sc__law_months_on : FnScope N__law_months_on ["_law_number", "_law_many"] (defScope s__law_months_on) := ⟨rfl, rfl, rfl, by decide +kernel, rfl, by decide +kernel, by decide +kernel⟩
def d__law_months_on : He.DefD := ⟨("_law_months_on", none), "_law_months_on", "_law_months_on", defArgs s__law_months_on, defBody s__law_months_on, defScope s__law_months_on, [], []⟩
abbrev s__law_begins : Stmt := top 39
abbrev N__law_begins : List Str := ["_law_first_here", "_law_cycle_here", "_law_many", "_law_k"]
theorem sc__law_begins : FnScope N__law_begins ["_law_first_here", "_law_cycle_here", "_law_many"] (defScope s__law_begins) := ⟨rfl, rfl, rfl, by decide +kernel, rfl, by decide +kernel, by decide +kernel⟩
def d__law_begins : He.DefD := ⟨("_law_begins", none), "_law_begins", "_law_begins", defArgs s__law_begins, defBody s__law_begins, defScope s__law_begins, [], []⟩
abbrev s__law_change : Stmt := top 48
abbrev N__law_change : List Str := ["_law_x", "_law_day_here", "_law_names", "_law_live", "_law_kind"]
theorem sc__law_change : FnScope N__law_change ["_law_x", "_law_day_here", "_law_names", "_law_live"] (defScope s__law_change) := ⟨rfl, rfl, rfl, by decide +kernel, rfl, by decide +kernel, by decide +kernel⟩
def d__law_change : He.DefD := ⟨("_law_change", none), "_law_change", "_law_change", defArgs s__law_change, defBody s__law_change, defScope s__law_change, [], []⟩
abbrev s__law_from : Stmt := top 47
abbrev N__law_from : List Str := ["_law_y", "_law_entered", "_law_begins_here", "_law_spans", "_law_day_here"]
theorem sc__law_from : FnScope N__law_from ["_law_y", "_law_entered", "_law_begins_here", "_law_spans"] (defScope s__law_from) := ⟨rfl, rfl, rfl, by decide +kernel, rfl, by decide +kernel, by decide +kernel⟩
def d__law_from : He.DefD := ⟨("_law_from", none), "_law_from", "_law_from", defArgs s__law_from, defBody s__law_from, defScope s__law_from, [], []⟩
abbrev s__law_entries : Stmt := top 49
abbrev N__law_entries : List Str := ["_law_cells", "_law_head", "_law_begins_here", "_law_names", "_law_spans", "_law_many", "_law_entered", "_law_entries_here", "_law_live", "_law_k", "_law_x", "_law_step", "_law_change_here"]
theorem sc__law_entries : FnScope N__law_entries ["_law_cells", "_law_head", "_law_begins_here", "_law_names"] (defScope s__law_entries) := ⟨rfl, rfl, rfl, by decide +kernel, rfl, by decide +kernel, by decide +kernel⟩
def d__law_entries : He.DefD := ⟨("_law_entries", none), "_law_entries", "_law_entries", defArgs s__law_entries, defBody s__law_entries, defScope s__law_entries, [], []⟩
abbrev s__law_any_change : Stmt := top 50
abbrev N__law_any_change : List Str := ["_law_some", "_law_begins_here", "_law_names", "_law_live", "_law_day_here"]
theorem sc__law_any_change : FnScope N__law_any_change ["_law_some", "_law_begins_here", "_law_names", "_law_live"] (defScope s__law_any_change) := ⟨rfl, rfl, rfl, by decide +kernel, rfl, by decide +kernel, by decide +kernel⟩
def d__law_any_change : He.DefD := ⟨("_law_any_change", none), "_law_any_change", "_law_any_change", defArgs s__law_any_change, defBody s__law_any_change, defScope s__law_any_change, [], []⟩
abbrev s__law_any_entries : Stmt := top 51
abbrev N__law_any_entries : List Str := ["_law_cells", "_law_begins_here", "_law_names", "_law_total", "_law_entered", "_law_entries_here", "_law_live", "_law_k", "_law_some", "_law_step", "_law_day_here", "_law_change_here"]
theorem sc__law_any_entries : FnScope N__law_any_entries ["_law_cells", "_law_begins_here", "_law_names"] (defScope s__law_any_entries) := ⟨rfl, rfl, rfl, by decide +kernel, rfl, by decide +kernel, by decide +kernel⟩
def d__law_any_entries : He.DefD := ⟨("_law_any_entries", none), "_law_any_entries", "_law_any_entries", defArgs s__law_any_entries, defBody s__law_any_entries, defScope s__law_any_entries, [], []⟩
abbrev s__law_listed : Stmt := top 52
abbrev N__law_listed : List Str := ["_law_cells", "_law_head", "_law_begins_here", "_law_names"]
theorem sc__law_listed : FnScope N__law_listed ["_law_cells", "_law_head", "_law_begins_here", "_law_names"] (defScope s__law_listed) := ⟨rfl, rfl, rfl, by decide +kernel, rfl, by decide +kernel, by decide +kernel⟩
def d__law_listed : He.DefD := ⟨("_law_listed", none), "_law_listed", "_law_listed", defArgs s__law_listed, defBody s__law_listed, defScope s__law_listed, [], []⟩
abbrev s__law_known : Stmt := top 53
abbrev N__law_known : List Str := ["_law_entries_here", "_law_moment", "_law_gone", "_law_found", "_law_number", "_law_entered", "_law_change_here"]
theorem sc__law_known : FnScope N__law_known ["_law_entries_here", "_law_moment"] (defScope s__law_known) := ⟨rfl, rfl, rfl, by decide +kernel, rfl, by decide +kernel, by decide +kernel⟩
def d__law_known : He.DefD := ⟨("_law_known", none), "_law_known", "_law_known", defArgs s__law_known, defBody s__law_known, defScope s__law_known, [], []⟩
abbrev s__law_counts : Stmt := top 54
abbrev N__law_counts : List Str := ["_law_change_here", "_law_begins_here", "_law_day_here"]
theorem sc__law_counts : FnScope N__law_counts ["_law_change_here", "_law_begins_here"] (defScope s__law_counts) := ⟨rfl, rfl, rfl, by decide +kernel, rfl, by decide +kernel, by decide +kernel⟩
def d__law_counts : He.DefD := ⟨("_law_counts", none), "_law_counts", "_law_counts", defArgs s__law_counts, defBody s__law_counts, defScope s__law_counts, [], []⟩
abbrev s__law_two : Stmt := top 59
abbrev N__law_two : List Str := ["_law_known_here", "_law_begins_here", "_law_x", "_law_y", "_law_some", "_law_begin", "_law_number", "_law_change_here"]
theorem sc__law_two : FnScope N__law_two ["_law_known_here", "_law_begins_here", "_law_x", "_law_y"] (defScope s__law_two) := ⟨rfl, rfl, rfl, by decide +kernel, rfl, by decide +kernel, by decide +kernel⟩
def d__law_two : He.DefD := ⟨("_law_two", none), "_law_two", "_law_two", defArgs s__law_two, defBody s__law_two, defScope s__law_two, [], []⟩
abbrev s_Months___init__ : Stmt := inClass (top 18) 0
abbrev N_Months___init__ : List Str := ["self", "first", "many"]
theorem sc_Months___init__ : FnScope N_Months___init__ ["self", "first", "many"] (defScope s_Months___init__) := ⟨rfl, rfl, rfl, by decide +kernel, rfl, by decide +kernel, by decide +kernel⟩
def d_Months___init__ : He.DefD := ⟨("Months", some "__init__"), "__init__", "Cycle.__init__", defArgs s_Months___init__, defBody s_Months___init__, defScope s_Months___init__, [], []⟩
abbrev s_Days___init__ : Stmt := inClass (top 18) 0
abbrev N_Days___init__ : List Str := ["self", "first", "many"]
theorem sc_Days___init__ : FnScope N_Days___init__ ["self", "first", "many"] (defScope s_Days___init__) := ⟨rfl, rfl, rfl, by decide +kernel, rfl, by decide +kernel, by decide +kernel⟩
def d_Days___init__ : He.DefD := ⟨("Days", some "__init__"), "__init__", "Cycle.__init__", defArgs s_Days___init__, defBody s_Days___init__, defScope s_Days___init__, [], []⟩
abbrev s_cycle_of : Stmt := top 21
abbrev N_cycle_of : List Str := ["first", "cycle"]
theorem sc_cycle_of : FnScope N_cycle_of ["first", "cycle"] (defScope s_cycle_of) := ⟨rfl, rfl, rfl, by decide +kernel, rfl, by decide +kernel, by decide +kernel⟩
def d_cycle_of : He.DefD := ⟨("cycle_of", none), "cycle_of", "cycle_of", defArgs s_cycle_of, defBody s_cycle_of, defScope s_cycle_of, [], []⟩
abbrev s_Days_number_on : Stmt := inClass (top 19) 1
abbrev N_Days_number_on : List Str := ["self", "day"]
theorem sc_Days_number_on : FnScope N_Days_number_on ["self", "day"] (defScope s_Days_number_on) := ⟨rfl, rfl, rfl, by decide +kernel, rfl, by decide +kernel, by decide +kernel⟩
def d_Days_number_on : He.DefD := ⟨("Days", some "number_on"), "number_on", "Days.number_on", defArgs s_Days_number_on, defBody s_Days_number_on, defScope s_Days_number_on, [], []⟩
abbrev s_days_ahead : Stmt := top 12
abbrev N_days_ahead : List Str := ["year", "gone"]
theorem sc_days_ahead : FnScope N_days_ahead ["year"] (defScope s_days_ahead) := ⟨rfl, rfl, rfl, by decide +kernel, rfl, by decide +kernel, by decide +kernel⟩
def d_days_ahead : He.DefD := ⟨("days_ahead", none), "days_ahead", "days_ahead", defArgs s_days_ahead, defBody s_days_ahead, defScope s_days_ahead, [], []⟩
abbrev s_is_leap : Stmt := top 10
abbrev N_is_leap : List Str := ["year"]
theorem sc_is_leap : FnScope N_is_leap ["year"] (defScope s_is_leap) := ⟨rfl, rfl, rfl, by decide +kernel, rfl, by decide +kernel, by decide +kernel⟩
def d_is_leap : He.DefD := ⟨("is_leap", none), "is_leap", "is_leap", defArgs s_is_leap, defBody s_is_leap, defScope s_is_leap, [], []⟩
abbrev s_days_in : Stmt := top 11
abbrev N_days_in : List Str := ["year", "month"]
theorem sc_days_in : FnScope N_days_in ["year", "month"] (defScope s_days_in) := ⟨rfl, rfl, rfl, by decide +kernel, rfl, by decide +kernel, by decide +kernel⟩
def d_days_in : He.DefD := ⟨("days_in", none), "days_in", "days_in", defArgs s_days_in, defBody s_days_in, defScope s_days_in, [], []⟩
abbrev s_date_of : Stmt := top 14
abbrev N_date_of : List Str := ["number", "year", "left", "month"]
theorem sc_date_of : FnScope N_date_of ["number"] (defScope s_date_of) := ⟨rfl, rfl, rfl, by decide +kernel, rfl, by decide +kernel, by decide +kernel⟩
def d_date_of : He.DefD := ⟨("date_of", none), "date_of", "date_of", defArgs s_date_of, defBody s_date_of, defScope s_date_of, [], []⟩
abbrev s_day_of : Stmt := top 13
abbrev N_day_of : List Str := ["year", "month", "day", "k"]
theorem sc_day_of : FnScope N_day_of ["year", "month", "day"] (defScope s_day_of) := ⟨rfl, rfl, rfl, by decide +kernel, rfl, by decide +kernel, by decide +kernel⟩
def d_day_of : He.DefD := ⟨("day_of", none), "day_of", "day_of", defArgs s_day_of, defBody s_day_of, defScope s_day_of, [], []⟩
abbrev s_months_on : Stmt := top 15
abbrev N_months_on : List Str := ["number", "many", "year", "month", "day", "behind"]
theorem sc_months_on : FnScope N_months_on ["number", "many"] (defScope s_months_on) := ⟨rfl, rfl, rfl, by decide +kernel, rfl, by decide +kernel, by decide +kernel⟩
def d_months_on : He.DefD := ⟨("months_on", none), "months_on", "months_on", defArgs s_months_on, defBody s_months_on, defScope s_months_on, [], []⟩
abbrev s_Months_begin_at : Stmt := inClass (top 20) 0
abbrev N_Months_begin_at : List Str := ["self", "k"]
theorem sc_Months_begin_at : FnScope N_Months_begin_at ["self", "k"] (defScope s_Months_begin_at) := ⟨rfl, rfl, rfl, by decide +kernel, rfl, by decide +kernel, by decide +kernel⟩
def d_Months_begin_at : He.DefD := ⟨("Months", some "begin_at"), "begin_at", "Months.begin_at", defArgs s_Months_begin_at, defBody s_Months_begin_at, defScope s_Months_begin_at, [], []⟩
abbrev s_Months_number_on : Stmt := inClass (top 20) 1
abbrev N_Months_number_on : List Str := ["self", "day", "here", "there", "k"]
theorem sc_Months_number_on : FnScope N_Months_number_on ["self", "day"] (defScope s_Months_number_on) := ⟨rfl, rfl, rfl, by decide +kernel, rfl, by decide +kernel, by decide +kernel⟩
def d_Months_number_on : He.DefD := ⟨("Months", some "number_on"), "number_on", "Months.number_on", defArgs s_Months_number_on, defBody s_Months_number_on, defScope s_Months_number_on, [], []⟩
abbrev s_Days_begin_at : Stmt := inClass (top 19) 0
abbrev N_Days_begin_at : List Str := ["self", "k"]
theorem sc_Days_begin_at : FnScope N_Days_begin_at ["self", "k"] (defScope s_Days_begin_at) := ⟨rfl, rfl, rfl, by decide +kernel, rfl, by decide +kernel, by decide +kernel⟩
def d_Days_begin_at : He.DefD := ⟨("Days", some "begin_at"), "begin_at", "Days.begin_at", defArgs s_Days_begin_at, defBody s_Days_begin_at, defScope s_Days_begin_at, [], []⟩
abbrev s_span_on : Stmt := top 22
abbrev N_span_on : List Str := ["first", "cycle", "day", "spans", "k"]
theorem sc_span_on : FnScope N_span_on ["first", "cycle", "day"] (defScope s_span_on) := ⟨rfl, rfl, rfl, by decide +kernel, rfl, by decide +kernel, by decide +kernel⟩
def d_span_on : He.DefD := ⟨("span_on", none), "span_on", "span_on", defArgs s_span_on, defBody s_span_on, defScope s_span_on, [], []⟩
abbrev s_counts_from : Stmt := top 26
abbrev N_counts_from : List Str := ["account", "change"]
theorem sc_counts_from : FnScope N_counts_from ["account", "change"] (defScope s_counts_from) := ⟨rfl, rfl, rfl, by decide +kernel, rfl, by decide +kernel, by decide +kernel⟩
def d_counts_from : He.DefD := ⟨("counts_from", none), "counts_from", "counts_from", defArgs s_counts_from, defBody s_counts_from, defScope s_counts_from, [], []⟩
abbrev s_counted : Stmt := top 27
abbrev N_counted : List Str := ["account", "terms", "number", "change"]
theorem sc_counted : FnScope N_counted ["account", "terms"] (defScope s_counted) := ⟨rfl, rfl, rfl, by decide +kernel, rfl, by decide +kernel, by decide +kernel⟩
def d_counted : He.DefD := ⟨("counted", none), "counted", "counted", defArgs s_counted, defBody s_counted, defScope s_counted, [], []⟩
abbrev s_latest : Stmt := top 28
abbrev N_latest : List Str := ["rows", "words", "day", "found", "row"]
theorem sc_latest : FnScope N_latest ["rows", "words", "day"] (defScope s_latest) := ⟨rfl, rfl, rfl, by decide +kernel, rfl, by decide +kernel, by decide +kernel⟩
def d_latest : He.DefD := ⟨("latest", none), "latest", "latest", defArgs s_latest, defBody s_latest, defScope s_latest, [], []⟩
abbrev s_state_by : Stmt := top 29
abbrev N_state_by : List Str := ["rows", "day", "plan", "seats", "word", "state"]
theorem sc_state_by : FnScope N_state_by ["rows", "day"] (defScope s_state_by) := ⟨rfl, rfl, rfl, by decide +kernel, rfl, by decide +kernel, by decide +kernel⟩
def d_state_by : He.DefD := ⟨("state_by", none), "state_by", "state_by", defArgs s_state_by, defBody s_state_by, defScope s_state_by, [], []⟩
abbrev s_stretches : Stmt := top 30
abbrev N_stretches : List Str := ["account", "terms", "begin", "end", "rows", "cuts", "found", "k", "day", "behind", "state", "row"]
theorem sc_stretches : FnScope N_stretches ["account", "terms", "begin", "end"] (defScope s_stretches) := ⟨rfl, rfl, rfl, by decide +kernel, rfl, by decide +kernel, by decide +kernel⟩
def d_stretches : He.DefD := ⟨("stretches", none), "stretches", "stretches", defArgs s_stretches, defBody s_stretches, defScope s_stretches, [], []⟩
abbrev s__law_days : Stmt := top 57
abbrev N__law_days : List Str := ["_law_known_here", "_law_begins_here", "_law_begin", "_law_end", "_law_days_here", "_law_number", "_law_change_here", "_law_day_here"]
theorem sc__law_days : FnScope N__law_days ["_law_known_here", "_law_begins_here", "_law_begin", "_law_end"] (defScope s__law_days) := ⟨rfl, rfl, rfl, by decide +kernel, rfl, by decide +kernel, by decide +kernel⟩
def d__law_days : He.DefD := ⟨("_law_days", none), "_law_days", "_law_days", defArgs s__law_days, defBody s__law_days, defScope s__law_days, [], []⟩
abbrev s__law_whole : Stmt := top 34
abbrev N__law_whole : List Str := ["_law_found"]
theorem sc__law_whole : FnScope N__law_whole ["_law_found"] (defScope s__law_whole) := ⟨rfl, rfl, rfl, by decide +kernel, rfl, by decide +kernel, by decide +kernel⟩
def d__law_whole : He.DefD := ⟨("_law_whole", none), "_law_whole", "_law_whole", defArgs s__law_whole, defBody s__law_whole, defScope s__law_whole, [], []⟩
abbrev s__law_lie_behind : Stmt := top 56
abbrev N__law_lie_behind : List Str := ["_law_found", "_law_begin", "_law_end", "_law_at", "_law_row", "_law_one", "_law_other"]
theorem sc__law_lie_behind : FnScope N__law_lie_behind ["_law_found", "_law_begin", "_law_end"] (defScope s__law_lie_behind) := ⟨rfl, rfl, rfl, by decide +kernel, rfl, by decide +kernel, by decide +kernel⟩
def d__law_lie_behind : He.DefD := ⟨("_law_lie_behind", none), "_law_lie_behind", "_law_lie_behind", defArgs s__law_lie_behind, defBody s__law_lie_behind, defScope s__law_lie_behind, [], []⟩
abbrev s__law_state : Stmt := top 55
abbrev N__law_state : List Str := ["_law_known_here", "_law_begins_here", "_law_day_here", "_law_found", "_law_number", "_law_change_here", "_law_rank", "_law_word", "_law_told"]
theorem sc__law_state : FnScope N__law_state ["_law_known_here", "_law_begins_here", "_law_day_here"] (defScope s__law_state) := ⟨rfl, rfl, rfl, by decide +kernel, rfl, by decide +kernel, by decide +kernel⟩
def d__law_state : He.DefD := ⟨("_law_state", none), "_law_state", "_law_state", defArgs s__law_state, defBody s__law_state, defScope s__law_state, [], []⟩
abbrev s__law_right : Stmt := top 58
abbrev N__law_right : List Str := ["_law_found", "_law_known_here", "_law_begins_here", "_law_begin", "_law_end", "_law_day_here", "_law_state_here", "_law_row"]
theorem sc__law_right : FnScope N__law_right ["_law_found", "_law_known_here", "_law_begins_here", "_law_begin", "_law_end"] (defScope s__law_right) := ⟨rfl, rfl, rfl, by decide +kernel, rfl, by decide +kernel, by decide +kernel⟩
def d__law_right : He.DefD := ⟨("_law_right", none), "_law_right", "_law_right", defArgs s__law_right, defBody s__law_right, defScope s__law_right, [], []⟩
abbrev s_law : Stmt := top 60
abbrev N_law : List Str := ["_law_script", "_law_account_here", "_law_begins_here", "_law_entries_here", "_law_known_here", "_law_turn", "_law_begin", "_law_end", "_law_handed", "_law_found", "_law_kept", "_law_plan"]
theorem sc_law : FnScope N_law ["_law_script"] (defScope s_law) := ⟨rfl, rfl, rfl, by decide +kernel, rfl, by decide +kernel, by decide +kernel⟩
def d_law : He.DefD := ⟨("law", none), "law", "law", defArgs s_law, defBody s_law, defScope s_law, [], []⟩
def fn0 : List He.DefD := [d__law_mixed, d__law_words, d__law_plans, d__law_digits, d__law_any_plans, d__law_starts, d__law_length, d__law_day, d__law_first, d__law_cycle, d__law_cell_at, d__law_account, d__law_months_on, d__law_begins, d__law_change, d__law_from, d__law_entries, d__law_any_change, d__law_any_entries, d__law_listed, d__law_known, d__law_counts, d__law_two, d_Months___init__, d_Days___init__]
def fn1 : List He.DefD := [d_cycle_of, d_Days_number_on, d_days_ahead, d_is_leap, d_days_in, d_date_of, d_day_of, d_months_on, d_Months_begin_at, d_Months_number_on, d_Days_begin_at, d_span_on, d_counts_from, d_counted, d_latest, d_state_by, d_stretches, d__law_days, d__law_whole, d__law_lie_behind, d__law_state, d__law_right, d_law]
abbrev fn : List He.DefD := fn0 ++ fn1
def fa0 : List He.Fa := [.glo "_law_mixed", .glo "_law_words", .free "range", .free "len", .glo "_law_plans", .glo "_law_digits", .glo "_law_any_plans", .glo "_law_starts", .glo "_law_length", .free "int", .glo "_law_day", .free "sum", .glo "_law_first", .glo "_law_cycle", .glo "_law_cell_at", .glo "_law_account", .glo "_law_months_on", .free "min", .glo "_law_begins", .glo "_law_change", .glo "_law_from", .free "max", .glo "_law_entries", .glo "_law_any_change", .glo "_law_any_entries"]
def fa1 : List He.Fa := [.glo "_law_listed", .glo "_law_known", .glo "_law_counts", .glo "_law_two", .cls "Months", .noat "Months" "first", .noat "Months" "many", .cls "Days", .noat "Days" "first", .noat "Days" "many", .glo "cycle_of", .glo "days_ahead", .glo "is_leap", .glo "days_in", .int "LAST_YEAR" 9999, .glo "NoDate", .exc "NoDate", .glo "date_of", .int "LAST_DAY" 3652058, .int "LONG" 146097, .glo "day_of", .glo "months_on", .free "divmod", .glo "span_on", .glo "NoSpan"]
def fa2 : List He.Fa := [.exc "NoSpan", .int "SPANS" 60, .glo "TooLong", .exc "TooLong", .glo "counts_from", .glo "counted", .glo "latest", .glo "state_by", .glo "STATES", .free "tuple", .glo "stretches", .free "sorted", .free "set", .free "enumerate", .glo "_law_days", .free "list", .glo "_law_whole", .free "isinstance", .free "bool", .glo "_law_lie_behind", .free "zip", .glo "_law_state", .glo "_law_right", .glo "law", .glo "Months"]
def fa3 : List He.Fa := [.mkr "Months", .glo "Days", .mkr "Days", .meth "Days" "number_on", .meth "Months" "begin_at", .meth "Months" "number_on", .meth "Days" "begin_at"]
abbrev fa : List He.Fa := fa0 ++ fa1 ++ fa2 ++ fa3
def tb : List Tb := [.v "LENGTHS" c_LENGTHS, .v "WORDS" c_WORDS, .d "STATES" [("hold", .str "held"), ("go", .str "on"), ("stop", .str "off"), ("last", .str "off")]]
section
variable {w : World} {K : PySem.W.Frag} {mg : Str → Option Value} {base : Heap}
theorem O__law_mixed (T : Tx fa fn tb K mg w) {a : Addr} {fd : FuncData} (F : FunD K d__law_mixed.name d__law_mixed.qual d__law_mixed.params d__law_mixed.body d__law_mixed.scope [] [] a fd) : FnOk P w K mg base (L2.CX P w) 1 a fd ["_law_cell", "_law_k"] (spF K (cAof K) 2 F_mixed_k30) :=
  fn_ok F sc__law_mixed rfl rfl fun cdv A outer s H E hr =>
  s_cons (s_set sc__law_mixed.nd rfl (Or.inl rfl) (e_op op2_mod (e_op op2_add (e_op op2_add (e_op op2_mul (e_op op2_mod (ev 0) (e_int)) (e_int)) (e_op op2_mul (e_int) (ev 1))) (e_int)) (e_int)))
  (s_cons (s_set sc__law_mixed.nd rfl (Or.inl rfl) (e_op op2_mod (e_op op2_add (e_op op2_mul (ev 2) (ev 2)) (ev 1)) (e_int)))
  (s_one (s_ret (e_op op2_mod (e_op op2_mul (ev 2) (e_op op2_add (ev 2) (e_int))) (e_int)))))
theorem D__law_mixed (T : Tx fa fn tb K mg w) : DefOk P w K mg base (cAof K) "_law_mixed" 1 2 F_mixed_k30 :=
  T.defOk (ps := ["_law_cell", "_law_k"]) 0 0 rfl rfl rfl rfl rfl (fun _ _ _ _ _ _ us hl => match us, hl with | [_, _], _ => rfl) fun a fd F => O__law_mixed T F
theorem O__law_words (T : Tx fa fn tb K mg w) {a : Addr} {fd : FuncData} (F : FunD K d__law_words.name d__law_words.qual d__law_words.params d__law_words.body d__law_words.scope [] [] a fd) : FnOk P w K mg base (L2.CX P w) 2 a fd ["_law_cell", "_law_many"] (spF K (cAof K) 2 F_words_k30) :=
  fn_ok F sc__law_words rfl rfl fun cdv A outer s H E hr =>
  s_cons (s_set sc__law_words.nd rfl (Or.inr rfl) (e_str))
  (s_cons (s_setLcF (own := [("_law_j", 9)]) (t := (.nm 9)) rfl sc__law_words.nd rfl rfl (sw_true rfl rfl rfl (by decide +kernel)) (i_r1 rfl (T.free 2) (e_op op2_add (e_int) (e_op op2_mod (ev 0) (e_int)))) (show BlkOk N__law_words (defScope s__law_words) _ [("_law_j", 9)] from blkOk_by (by decide +kernel)) (fun s H C cl fp => c_nm sc__law_words.nd rfl (Or.inl rfl)) (fun s H C cl fp => ts_nil) (fun s H C cl fp => e_ix (ev 2) (e_op op2_mod (e_cd (D__law_mixed T) hr takes0 (a_cons (ev 0) (a_cons (e_op op2_add (e_int) (ev 9)) (a_nil)))) (e_int))))
  (s_cons (s_set sc__law_words.nd rfl (Or.inl rfl) (e_op op2_mod (e_op op2_fdiv (ev 0) (e_int)) (e_callB b_len rfl (T.free 3) bt_len (a_cons (ev 3) (a_nil)))))
  (s_cons (s_set sc__law_words.nd rfl (Or.inl rfl) (e_ix (e_lstF (a_cons (e_int) (a_cons (e_int) (a_cons (e_int) (a_cons (e_int) (a_nil)))))) (e_op op2_mod (e_op op2_fdiv (ev 0) (e_int)) (e_int))))
  (s_cons (s_set sc__law_words.nd rfl (Or.inl rfl) (e_lstM (a_nil)))
  (s_cons (s_kl (s_for (passes_of rfl) rfl (i_r1 rfl (T.free 2) (ev 1)) (g_nm sc__law_words.nd rfl (Or.inl rfl))
  (s_klb (s_cons (s_set sc__law_words.nd rfl (Or.inl rfl) (e_ix (ev 2) (e_op op2_mod (e_op op2_add (e_mS PySem.F.plainAttrs_str PySem.F.slot_str_index PySem.F.type_str_index mt_oIndex (ev 2) (a_cons (e_ix (ev 3) (ev 4)) (a_nil))) (e_op op2_mul (ev 7) (ev 5))) (e_int))))
  (s_one (s_expr (e_mL PySem.F.plainAttrs_list PySem.F.slot_list_append PySem.F.type_list_append mt_app (ev 6) (a_cons (e_mS PySem.F.plainAttrs_str PySem.F.slot_str_join PySem.F.type_str_join mt_oJoin (e_str) (a_cons (e_op op2_add (e_op op2_add (e_sl (ev 3) o_no (o_at (ev 4))) (e_lstF (a_cons (ev 8) (a_nil)))) (e_sl (ev 3) (o_at (e_op op2_add (ev 4) (e_int))) o_no)) (a_nil))) (a_nil)))))))))
  (s_fz (s_one (s_ret (ev 6)))))))))
theorem D__law_words (T : Tx fa fn tb K mg w) : DefOk P w K mg base (cAof K) "_law_words" 2 2 F_words_k30 :=
  T.defOk (ps := ["_law_cell", "_law_many"]) 1 1 rfl rfl rfl rfl rfl (fun _ _ _ _ _ _ us hl => match us, hl with | [_, _], _ => rfl) fun a fd F => O__law_words T F
theorem O__law_plans (T : Tx fa fn tb K mg w) {a : Addr} {fd : FuncData} (F : FunD K d__law_plans.name d__law_plans.qual d__law_plans.params d__law_plans.body d__law_plans.scope [] [] a fd) : FnOk P w K mg base (L2.CX P w) 3 a fd ["_law_cell"] (spF K (cAof K) 1 F_plans_k30) :=
  fn_ok F sc__law_plans rfl rfl fun cdv A outer s H E hr =>
  s_cons (s_set sc__law_plans.nd rfl (Or.inl rfl) (e_ix (e_lstF (a_cons (e_int) (a_cons (e_int) (a_cons (e_int) (a_cons (e_int) (a_cons (e_int) (a_cons (e_int) (a_cons (e_int) (a_cons (e_int) (a_nil)))))))))) (e_op op2_mod (ev 0) (e_int))))
  (s_cons (s_set sc__law_plans.nd rfl (Or.inl rfl) (e_cd (D__law_words T) hr (takes_of rfl rfl rfl rfl) (a_cons (e_op op2_fdiv (ev 0) (e_int)) (a_cons (ev 1) (a_nil)))))
  (s_cons (s_set sc__law_plans.nd rfl (Or.inl rfl) (e_lstM (a_nil)))
  (s_cons (s_kl (s_for (passes_of rfl) rfl (i_r1 rfl (T.free 2) (ev 1)) (g_nm sc__law_plans.nd rfl (Or.inl rfl))
  (s_klb (s_cons (s_set sc__law_plans.nd rfl (Or.inl rfl) (e_cd (D__law_mixed T) hr (takes_of rfl rfl rfl rfl) (a_cons (ev 0) (a_cons (ev 4) (a_nil)))))
  (s_cons (s_set sc__law_plans.nd rfl (Or.inl rfl) (e_ix (e_lstF (a_cons (e_op op2_mod (e_op op2_fdiv (ev 5) (e_int)) (e_int)) (a_cons (e_op op2_mod (e_op op2_fdiv (ev 5) (e_int)) (e_int)) (a_cons (e_op op2_mod (e_op op2_fdiv (ev 0) (e_op op2_add (ev 4) (e_int))) (e_op op2_pow (e_int) (e_int))) (a_cons (e_op op2_mod (e_op op2_fdiv (ev 5) (e_int)) (e_int)) (a_nil)))))) (e_op op2_mod (ev 5) (e_int))))
  (s_cons (s_set sc__law_plans.nd rfl (Or.inl rfl) (e_ix (e_lstF (a_cons (e_int) (a_cons (e_int) (a_cons (e_int) (a_cons (e_op op2_add (e_int) (e_op op2_mod (e_op op2_fdiv (ev 5) (e_int)) (e_int))) (a_cons (e_int) (a_cons (e_op op2_add (e_int) (e_op op2_mod (e_op op2_fdiv (ev 5) (e_int)) (e_int))) (a_cons (e_int) (a_cons (e_int) (a_nil)))))))))) (e_op op2_mod (e_op op2_fdiv (ev 5) (e_int)) (e_int))))
  (s_one (s_expr (e_mL PySem.F.plainAttrs_list PySem.F.slot_list_append PySem.F.type_list_append mt_app (ev 3) (a_cons (e_tup (a_cons (e_ix (ev 2) (ev 4)) (a_cons (ev 6) (a_cons (ev 7) (a_nil))))) (a_nil)))))))))))
  (s_fz (s_one (s_ret (ev 3)))))))
theorem D__law_plans (T : Tx fa fn tb K mg w) : DefOk P w K mg base (cAof K) "_law_plans" 3 1 F_plans_k30 :=
  T.defOk (ps := ["_law_cell"]) 2 4 rfl rfl rfl rfl rfl (fun _ _ _ _ _ _ us hl => match us, hl with | [_], _ => rfl) fun a fd F => O__law_plans T F
theorem O__law_digits (T : Tx fa fn tb K mg w) {a : Addr} {fd : FuncData} (F : FunD K d__law_digits.name d__law_digits.qual d__law_digits.params d__law_digits.body d__law_digits.scope [] [] a fd) : FnOk P w K mg base (L2.CX P w) 1 a fd ["_law_cell", "_law_sizes"] (spF K (cAof K) 2 F_digits_k30) :=
  fn_ok F sc__law_digits rfl rfl fun cdv A outer s H E hr =>
  s_cons (s_set sc__law_digits.nd rfl (Or.inl rfl) (e_lstM (a_nil)))
  (s_cons (s_kl (s_for (passes_of rfl) rfl (i_list (ev 1)) (g_nm sc__law_digits.nd rfl (Or.inl rfl))
  (s_klb (s_cons (s_expr (e_mL PySem.F.plainAttrs_list PySem.F.slot_list_append PySem.F.type_list_append mt_app (ev 2) (a_cons (e_op op2_mod (ev 0) (ev 3)) (a_nil))))
  (s_one (s_set sc__law_digits.nd rfl (Or.inl rfl) (e_op op2_fdiv (ev 0) (ev 3))))))))
  (s_fz (s_one (s_ret (ev 2)))))
theorem D__law_digits (T : Tx fa fn tb K mg w) : DefOk P w K mg base (cAof K) "_law_digits" 1 2 F_digits_k30 :=
  T.defOk (ps := ["_law_cell", "_law_sizes"]) 3 5 rfl rfl rfl rfl rfl (fun _ _ _ _ _ _ us hl => match us, hl with | [_, _], _ => rfl) fun a fd F => O__law_digits T F
theorem O__law_any_plans (T : Tx fa fn tb K mg w) {a : Addr} {fd : FuncData} (F : FunD K d__law_any_plans.name d__law_any_plans.qual d__law_any_plans.params d__law_any_plans.body d__law_any_plans.scope [] [] a fd) : FnOk P w K mg base (L2.CX P w) 2 a fd ["_law_cell"] (spF K (cAof K) 1 F_any_plans_k30) :=
  fn_ok F sc__law_any_plans rfl rfl fun cdv A outer s H E hr =>
  s_cons (s_set sc__law_any_plans.nd rfl (Or.inr rfl) (e_str))
  (s_cons (s_set sc__law_any_plans.nd rfl (Or.inl rfl) (e_lstM (a_nil)))
  (s_cons (s_set sc__law_any_plans.nd rfl (Or.inl rfl) (e_op op2_add (e_int) (e_op op2_mod (ev 0) (e_int))))
  (s_cons (s_set sc__law_any_plans.nd rfl (Or.inl rfl) (e_op op2_fdiv (ev 0) (e_int)))
  (s_cons (s_kl (s_for (passes_of rfl) rfl (i_r1 rfl (T.free 2) (ev 3)) (g_nm sc__law_any_plans.nd rfl (Or.inl rfl))
  (s_klb (s_cons (s_set sc__law_any_plans.nd rfl (Or.inl rfl) (e_cd (D__law_digits T) hr (takes_of rfl rfl rfl rfl) (a_cons (ev 0) (a_cons (e_op op2_add (e_op op2_add (e_lstF (a_cons (e_int) (a_nil))) (e_tmp (e_op op2_repL (e_lstM (a_cons (e_int) (a_nil))) (e_int)))) (e_lstF (a_cons (e_op op2_pow (e_int) (e_int)) (a_cons (e_int) (a_nil))))) (a_nil)))))
  (s_cons (s_set sc__law_any_plans.nd rfl (Or.inl rfl) (e_mS PySem.F.plainAttrs_str PySem.F.slot_str_join PySem.F.type_str_join mt_oJoin (e_str) (a_cons (e_lcF (own := [("_law_one", 7)]) (t := (.nm 7)) rfl sc__law_any_plans.nd (i_list (e_sl (ev 5) (o_at (e_int)) (o_at (e_op op2_add (e_int) (e_ix (ev 5) (e_int)))))) (show BlkOk N__law_any_plans (defScope s__law_any_plans) _ [("_law_one", 7)] from blkOk_by (by decide +kernel)) (fun s H C cl fp => c_nm sc__law_any_plans.nd rfl (Or.inl rfl)) (fun s H C cl fp => ts_nil) (fun s H C cl fp => e_ix (ev 1) (ev 7))) (a_nil))))
  (s_cons (s_kl (s_if (t_cmp (op2_notin hr.units) (ev 6) (e_lcFp (own := [("_law_plan", 8)]) (t := (.nm 8)) rfl sc__law_any_plans.nd (i_listP (ev 2)) (show BlkOk N__law_any_plans (defScope s__law_any_plans) _ [("_law_plan", 8)] from blkOk_by (by decide +kernel)) (fun s H C cl fp => c_nm sc__law_any_plans.nd rfl (Or.inl rfl)) (fun s H C cl fp => ts_nil) (fun s H C cl fp => e_ix (ev 8) (e_int))))
  (s_one (s_expr (e_mL PySem.F.plainAttrs_list PySem.F.slot_list_append PySem.F.type_list_append mt_app (ev 2) (a_cons (e_tup (a_cons (ev 6) (a_cons (e_ix (ev 5) (e_int)) (a_cons (e_ix (ev 5) (e_int)) (a_nil))))) (a_nil)))))
  (s_nil)))
  (s_one (s_set sc__law_any_plans.nd rfl (Or.inl rfl) (e_op op2_fdiv (ev 0) (e_op op2_mul (e_op op2_mul (e_op op2_mul (e_int) (e_op op2_pow (e_int) (e_int))) (e_int)) (e_op op2_pow (e_int) (e_int))))))))))))
  (s_fz (s_one (s_ret (ev 2))))))))
theorem D__law_any_plans (T : Tx fa fn tb K mg w) : DefOk P w K mg base (cAof K) "_law_any_plans" 2 1 F_any_plans_k30 :=
  T.defOk (ps := ["_law_cell"]) 4 6 rfl rfl rfl rfl rfl (fun _ _ _ _ _ _ us hl => match us, hl with | [_], _ => rfl) fun a fd F => O__law_any_plans T F
theorem O__law_starts (T : Tx fa fn tb K mg w) {a : Addr} {fd : FuncData} (F : FunD K d__law_starts.name d__law_starts.qual d__law_starts.params d__law_starts.body d__law_starts.scope [] [] a fd) : FnOk P w K mg base (L2.CX P w) 1 a fd ["_law_year"] (spF K (cAof K) 1 F_starts_k20) :=
  fn_ok F sc__law_starts rfl rfl fun cdv A outer s H E hr =>
  s_cons (s_set sc__law_starts.nd rfl (Or.inl rfl) (e_op op2_sub (ev 0) (e_int)))
  (s_one (s_ret (e_op op2_add (e_op op2_sub (e_op op2_add (e_op op2_mul (ev 1) (e_int)) (e_op op2_fdiv (ev 1) (e_int))) (e_op op2_fdiv (ev 1) (e_int))) (e_op op2_fdiv (ev 1) (e_int)))))
theorem D__law_starts (T : Tx fa fn tb K mg w) : DefOk P w K mg base (cAof K) "_law_starts" 1 1 F_starts_k20 :=
  T.defOk (ps := ["_law_year"]) 5 7 rfl rfl rfl rfl rfl (fun _ _ _ _ _ _ us hl => match us, hl with | [_], _ => rfl) fun a fd F => O__law_starts T F
theorem O__law_length (T : Tx fa fn tb K mg w) {a : Addr} {fd : FuncData} (F : FunD K d__law_length.name d__law_length.qual d__law_length.params d__law_length.body d__law_length.scope [] [] a fd) : FnOk P w K mg base (L2.CX P w) 2 a fd ["_law_year", "_law_month"] (spF K (cAof K) 2 F_length_k20) :=
  fn_ok F sc__law_length rfl rfl fun cdv A outer s H E hr =>
  s_cons (s_kl (s_if (t_cmp (op2_eq hr.units) (ev 1) (e_int))
  (s_one (s_ret (e_op op2_sub (e_op op2_sub (e_op op2_add (e_int) (e_cd (D__law_starts T) hr (takes_of rfl rfl rfl rfl) (a_cons (e_op op2_add (ev 0) (e_int)) (a_nil)))) (e_cd (D__law_starts T) hr (takes_of rfl rfl rfl rfl) (a_cons (ev 0) (a_nil)))) (e_int))))
  (s_nil)))
  (s_one (s_ret (e_op op2_add (e_int) (e_callTy b_int rfl (T.free 9) bt_int (a_cons (e_cmp (op2_in hr.units) (ev 1) (e_tup (a_cons (e_int) (a_cons (e_int) (a_cons (e_int) (a_cons (e_int) (a_cons (e_int) (a_cons (e_int) (a_cons (e_int) (a_nil)))))))))) (a_nil))))))
theorem D__law_length (T : Tx fa fn tb K mg w) : DefOk P w K mg base (cAof K) "_law_length" 2 2 F_length_k20 :=
  T.defOk (ps := ["_law_year", "_law_month"]) 6 8 rfl rfl rfl rfl rfl (fun _ _ _ _ _ _ us hl => match us, hl with | [_, _], _ => rfl) fun a fd F => O__law_length T F
theorem O__law_day (T : Tx fa fn tb K mg w) {a : Addr} {fd : FuncData} (F : FunD K d__law_day.name d__law_day.qual d__law_day.params d__law_day.body d__law_day.scope [] [] a fd) : FnOk P w K mg base (L2.CX P w) 3 a fd ["_law_year", "_law_month", "_law_day_here"] (spF K (cAof K) 3 F_day_k20) :=
  fn_ok F sc__law_day rfl rfl fun cdv A outer s H E hr =>
  s_one (s_ret (e_op op2_sub (e_op op2_add (e_op op2_add (e_cd (D__law_starts T) hr (takes_of rfl rfl rfl rfl) (a_cons (ev 0) (a_nil))) (e_callB (b_sum rfl) rfl (T.free 11) bt_sum (a_cons (e_lcF (own := [("_law_k", 3)]) (t := (.nm 3)) rfl sc__law_day.nd (i_r2 rfl (T.free 2) (e_int) (ev 1)) (show BlkOk N__law_day (defScope s__law_day) _ [("_law_k", 3)] from blkOk_by (by decide +kernel)) (fun s H C cl fp => c_nm sc__law_day.nd rfl (Or.inl rfl)) (fun s H C cl fp => ts_nil) (fun s H C cl fp => e_cd (D__law_length T) hr takes0 (a_cons (ev 0) (a_cons (ev 3) (a_nil))))) (a_nil)))) (ev 2)) (e_int)))
theorem D__law_day (T : Tx fa fn tb K mg w) : DefOk P w K mg base (cAof K) "_law_day" 3 3 F_day_k20 :=
  T.defOk (ps := ["_law_year", "_law_month", "_law_day_here"]) 7 10 rfl rfl rfl rfl rfl (fun _ _ _ _ _ _ us hl => match us, hl with | [_, _, _], _ => rfl) fun a fd F => O__law_day T F
theorem O__law_first (T : Tx fa fn tb K mg w) {a : Addr} {fd : FuncData} (F : FunD K d__law_first.name d__law_first.qual d__law_first.params d__law_first.body d__law_first.scope [] [] a fd) : FnOk P w K mg base (L2.CX P w) 4 a fd ["_law_cell"] (spF K (cAof K) 1 F_first_k20) :=
  fn_ok F sc__law_first rfl rfl fun cdv A outer s H E hr =>
  s_cons (s_set sc__law_first.nd rfl (Or.inl rfl) (e_op op2_add (e_int) (e_op op2_mod (e_op op2_fdiv (ev 0) (e_int)) (e_int))))
  (s_cons (s_set sc__law_first.nd rfl (Or.inl rfl) (e_lstF (a_cons (e_int) (a_cons (e_int) (a_cons (e_cd (D__law_day T) hr (takes_of rfl rfl rfl rfl) (a_cons (ev 1) (a_cons (e_int) (a_cons (e_int) (a_nil))))) (a_cons (e_cd (D__law_day T) hr (takes_of rfl rfl rfl rfl) (a_cons (ev 1) (a_cons (e_int) (a_cons (e_int) (a_nil))))) (a_cons (e_cd (D__law_day T) hr (takes_of rfl rfl rfl rfl) (a_cons (e_op op2_mul (e_op op2_fdiv (ev 1) (e_int)) (e_int)) (a_cons (e_int) (a_cons (e_int) (a_nil))))) (a_nil))))))))
  (s_cons (s_set sc__law_first.nd rfl (Or.inl rfl) (e_op op2_add (ev 2) (e_lstF (a_cons (e_cd (D__law_day T) hr (takes_of rfl rfl rfl rfl) (a_cons (ev 1) (a_cons (e_int) (a_cons (e_int) (a_nil))))) (a_cons (e_cd (D__law_day T) hr (takes_of rfl rfl rfl rfl) (a_cons (ev 1) (a_cons (e_int) (a_cons (e_int) (a_nil))))) (a_nil))))))
  (s_one (s_ret (e_ix (e_op op2_add (ev 2) (e_lstF (a_cons (e_op op2_mod (e_op op2_fdiv (ev 0) (e_int)) (e_int)) (a_nil)))) (e_op op2_mod (e_op op2_fdiv (ev 0) (e_int)) (e_int)))))))
theorem D__law_first (T : Tx fa fn tb K mg w) : DefOk P w K mg base (cAof K) "_law_first" 4 1 F_first_k20 :=
  T.defOk (ps := ["_law_cell"]) 8 12 rfl rfl rfl rfl rfl (fun _ _ _ _ _ _ us hl => match us, hl with | [_], _ => rfl) fun a fd F => O__law_first T F
theorem O__law_cycle (T : Tx fa fn tb K mg w) {a : Addr} {fd : FuncData} (F : FunD K d__law_cycle.name d__law_cycle.qual d__law_cycle.params d__law_cycle.body d__law_cycle.scope [] [] a fd) : FnOk P w K mg base (L2.CX P w) 1 a fd ["_law_cell"] (spF K (cAof K) 1 F_cycle_k20) :=
  fn_ok F sc__law_cycle rfl rfl fun cdv A outer s H E hr =>
  s_cons (s_set sc__law_cycle.nd rfl (Or.inl rfl) (e_lstF (a_cons (e_tup (a_cons (e_str) (a_cons (e_op op2_add (e_int) (e_op op2_mod (e_op op2_fdiv (ev 0) (e_int)) (e_int))) (a_nil)))) (a_cons (e_tup (a_cons (e_str) (a_cons (e_op op2_add (e_int) (e_op op2_mod (e_op op2_fdiv (ev 0) (e_int)) (e_int))) (a_nil)))) (a_cons (e_tup (a_cons (e_str) (a_cons (e_int) (a_nil)))) (a_cons (e_tup (a_cons (e_str) (a_cons (e_op op2_add (e_int) (e_op op2_mod (e_op op2_fdiv (ev 0) (e_int)) (e_int))) (a_nil)))) (a_nil)))))))
  (s_cons (s_set sc__law_cycle.nd rfl (Or.inl rfl) (e_op op2_add (ev 1) (e_lstF (a_cons (e_tup (a_cons (e_str) (a_cons (e_op op2_add (e_int) (e_op op2_mod (e_op op2_fdiv (ev 0) (e_int)) (e_int))) (a_nil)))) (a_cons (e_tup (a_cons (e_str) (a_cons (e_op op2_add (e_int) (e_op op2_mod (e_op op2_fdiv (ev 0) (e_int)) (e_int))) (a_nil)))) (a_cons (e_tup (a_cons (e_str) (a_cons (e_int) (a_nil)))) (a_nil)))))))
  (s_one (s_ret (e_ix (e_op op2_add (ev 1) (e_lstF (a_cons (e_tup (a_cons (e_str) (a_cons (e_op op2_add (e_int) (e_op op2_mod (e_op op2_fdiv (ev 0) (e_int)) (e_int))) (a_nil)))) (a_nil)))) (e_op op2_mod (ev 0) (e_int))))))
theorem D__law_cycle (T : Tx fa fn tb K mg w) : DefOk P w K mg base (cAof K) "_law_cycle" 1 1 F_cycle_k20 :=
  T.defOk (ps := ["_law_cell"]) 9 13 rfl rfl rfl rfl rfl (fun _ _ _ _ _ _ us hl => match us, hl with | [_], _ => rfl) fun a fd F => O__law_cycle T F
theorem O__law_cell_at (T : Tx fa fn tb K mg w) {a : Addr} {fd : FuncData} (F : FunD K d__law_cell_at.name d__law_cell_at.qual d__law_cell_at.params d__law_cell_at.body d__law_cell_at.scope [] [] a fd) : FnOk P w K mg base (L2.CX P w) 1 a fd ["_law_script", "_law_k"] (spF K (cAof K) 2 F_cell_at_k02) :=
  fn_ok F sc__law_cell_at rfl rfl fun cdv A outer s H E hr =>
  s_cons (s_kl (s_if (t_cmp (op2_lt hr.units0) (ev 1) (e_callB b_len rfl (T.free 3) bt_len (a_cons (ev 0) (a_nil))))
  (s_one (s_ret (e_ix (ev 0) (ev 1))))
  (s_nil)))
  (s_one (s_ret (e_int)))
theorem D__law_cell_at (T : Tx fa fn tb K mg w) : DefOk P w K mg base (cAof K) "_law_cell_at" 1 2 F_cell_at_k02 :=
  T.defOk (ps := ["_law_script", "_law_k"]) 10 14 rfl rfl rfl rfl rfl (fun _ _ _ _ _ _ us hl => match us, hl with | [_, _], _ => rfl) fun a fd F => O__law_cell_at T F
theorem O__law_account (T : Tx fa fn tb K mg w) {a : Addr} {fd : FuncData} (F : FunD K d__law_account.name d__law_account.qual d__law_account.params d__law_account.body d__law_account.scope [] [] a fd) : FnOk P w K mg base (L2.CX P w) 5 a fd ["_law_script"] (spF K (cAof K) 1 F_account_k30) :=
  fn_ok F sc__law_account rfl rfl fun cdv A outer s H E hr =>
  s_cons (s_set sc__law_account.nd rfl (Or.inl rfl) (e_cd (D__law_plans T) hr (takes_of rfl rfl rfl rfl) (a_cons (e_op op2_fdiv (e_cd (D__law_cell_at T) hr (takes_of rfl rfl rfl rfl) (a_cons (ev 0) (a_cons (e_int) (a_nil)))) (e_int)) (a_nil))))
  (s_cons (s_if (t_cmp (op2_eq hr.units) (e_op op2_mod (e_cd (D__law_cell_at T) hr (takes_of rfl rfl rfl rfl) (a_cons (ev 0) (a_cons (e_int) (a_nil)))) (e_int)) (e_int))
  (s_one (s_set sc__law_account.nd rfl (Or.inl rfl) (e_cd (D__law_any_plans T) hr (takes_of rfl rfl rfl rfl) (a_cons (e_op op2_fdiv (e_cd (D__law_cell_at T) hr (takes_of rfl rfl rfl rfl) (a_cons (ev 0) (a_cons (e_int) (a_nil)))) (e_int)) (a_nil)))))
  (s_nil))
  (s_one (s_ret (e_tup (a_cons (ev 1) (a_cons (e_cd (D__law_first T) hr (takes_of rfl rfl rfl rfl) (a_cons (e_cd (D__law_cell_at T) hr (takes_of rfl rfl rfl rfl) (a_cons (ev 0) (a_cons (e_int) (a_nil)))) (a_nil))) (a_cons (e_cd (D__law_cycle T) hr (takes_of rfl rfl rfl rfl) (a_cons (e_cd (D__law_cell_at T) hr (takes_of rfl rfl rfl rfl) (a_cons (ev 0) (a_cons (e_int) (a_nil)))) (a_nil))) (a_nil))))))))
theorem D__law_account (T : Tx fa fn tb K mg w) : DefOk P w K mg base (cAof K) "_law_account" 5 1 F_account_k30 :=
  T.defOk (ps := ["_law_script"]) 11 15 rfl rfl rfl rfl rfl (fun _ _ _ _ _ _ us hl => match us, hl with | [_], _ => rfl) fun a fd F => O__law_account T F
theorem O__law_months_on (T : Tx fa fn tb K mg w) {a : Addr} {fd : FuncData} (F : FunD K d__law_months_on.name d__law_months_on.qual d__law_months_on.params d__law_months_on.body d__law_months_on.scope [] [] a fd) : FnOk P w K mg base (L2.CX P w) 4 a fd ["_law_number", "_law_many"] (spF K (cAof K) 2 F_months_on_k20) :=
  fn_ok F sc__law_months_on rfl rfl fun cdv A outer s H E hr =>
  s_cons (s_set sc__law_months_on.nd rfl (Or.inl rfl) (e_op op2_add (e_op op2_fdiv (ev 0) (e_int)) (e_int)))
  (s_cons (s_while (passes_of rfl) (t_cmp op2_le (e_cd (D__law_starts T) hr (takes_of rfl rfl rfl rfl) (a_cons (e_op op2_add (ev 2) (e_int)) (a_nil))) (ev 0))
  (s_one (s_set sc__law_months_on.nd rfl (Or.inl rfl) (e_op op2_add (ev 2) (e_int)))))
  (s_cons (s_set sc__law_months_on.nd rfl (Or.inl rfl) (e_op op2_sub (ev 0) (e_cd (D__law_starts T) hr (takes_of rfl rfl rfl rfl) (a_cons (ev 2) (a_nil)))))
  (s_cons (s_set sc__law_months_on.nd rfl (Or.inl rfl) (e_int))
  (s_cons (s_while (passes_of rfl) (t_cmp op2_ge (ev 3) (e_cd (D__law_length T) hr (takes_of rfl rfl rfl rfl) (a_cons (ev 2) (a_cons (ev 4) (a_nil)))))
  (s_cons (s_set sc__law_months_on.nd rfl (Or.inl rfl) (e_op op2_sub (ev 3) (e_cd (D__law_length T) hr (takes_of rfl rfl rfl rfl) (a_cons (ev 2) (a_cons (ev 4) (a_nil))))))
  (s_one (s_set sc__law_months_on.nd rfl (Or.inl rfl) (e_op op2_add (ev 4) (e_int))))))
  (s_cons (s_set sc__law_months_on.nd rfl (Or.inl rfl) (e_op op2_add (e_op op2_sub (e_op op2_add (e_op op2_mul (ev 2) (e_int)) (ev 4)) (e_int)) (ev 1)))
  (s_cons (s_set sc__law_months_on.nd rfl (Or.inl rfl) (e_op op2_fdiv (ev 4) (e_int)))
  (s_one (s_ret (e_cd (D__law_day T) hr (takes_of rfl rfl rfl rfl) (a_cons (ev 2) (a_cons (e_op op2_add (e_op op2_mod (ev 4) (e_int)) (e_int)) (a_cons (e_callB (b_min rfl) rfl (T.free 17) bt_min (a_cons (e_op op2_add (ev 3) (e_int)) (a_cons (e_cd (D__law_length T) hr (takes_of rfl rfl rfl rfl) (a_cons (ev 2) (a_cons (e_op op2_add (e_op op2_mod (ev 4) (e_int)) (e_int)) (a_nil)))) (a_nil)))) (a_nil)))))))))))))
theorem D__law_months_on (T : Tx fa fn tb K mg w) : DefOk P w K mg base (cAof K) "_law_months_on" 4 2 F_months_on_k20 :=
  T.defOk (ps := ["_law_number", "_law_many"]) 12 16 rfl rfl rfl rfl rfl (fun _ _ _ _ _ _ us hl => match us, hl with | [_, _], _ => rfl) fun a fd F => O__law_months_on T F
theorem O__law_begins (T : Tx fa fn tb K mg w) {a : Addr} {fd : FuncData} (F : FunD K d__law_begins.name d__law_begins.qual d__law_begins.params d__law_begins.body d__law_begins.scope [] [] a fd) : FnOk P w K mg base (L2.CX P w) 5 a fd ["_law_first_here", "_law_cycle_here", "_law_many"] (spF K (cAof K) 3 F_begins_k20) :=
  fn_ok F sc__law_begins rfl rfl fun cdv A outer s H E hr =>
  s_cons (s_if (t_cmp (op2_eq hr.units) (e_ix (ev 1) (e_int)) (e_str))
  (s_one (s_ret (e_lcF (own := [("_law_k", 3)]) (t := (.nm 3)) rfl sc__law_begins.nd (i_r1 rfl (T.free 2) (e_op op2_add (ev 2) (e_int))) (show BlkOk N__law_begins (defScope s__law_begins) _ [("_law_k", 3)] from blkOk_by (by decide +kernel)) (fun s H C cl fp => c_nm sc__law_begins.nd rfl (Or.inl rfl)) (fun s H C cl fp => ts_nil) (fun s H C cl fp => e_op op2_add (ev 0) (e_op op2_mul (ev 3) (e_ix (ev 1) (e_int)))))))
  (s_nil))
  (s_one (s_ret (e_lcF (own := [("_law_k", 3)]) (t := (.nm 3)) rfl sc__law_begins.nd (i_r1 rfl (T.free 2) (e_op op2_add (ev 2) (e_int))) (show BlkOk N__law_begins (defScope s__law_begins) _ [("_law_k", 3)] from blkOk_by (by decide +kernel)) (fun s H C cl fp => c_nm sc__law_begins.nd rfl (Or.inl rfl)) (fun s H C cl fp => ts_nil) (fun s H C cl fp => e_cd (D__law_months_on T) hr takes0 (a_cons (ev 0) (a_cons (e_op op2_mul (ev 3) (e_ix (ev 1) (e_int))) (a_nil)))))))
theorem D__law_begins (T : Tx fa fn tb K mg w) : DefOk P w K mg base (cAof K) "_law_begins" 5 3 F_begins_k20 :=
  T.defOk (ps := ["_law_first_here", "_law_cycle_here", "_law_many"]) 13 18 rfl rfl rfl rfl rfl (fun _ _ _ _ _ _ us hl => match us, hl with | [_, _, _], _ => rfl) fun a fd F => O__law_begins T F
theorem O__law_change (T : Tx fa fn tb K mg w) {a : Addr} {fd : FuncData} (F : FunD K d__law_change.name d__law_change.qual d__law_change.params d__law_change.body d__law_change.scope [] [] a fd) : FnOk P w K mg base (L2.CX P w) 1 a fd ["_law_x", "_law_day_here", "_law_names", "_law_live"] (spF K (cAof K) 4 F_change_k32) :=
  fn_ok F sc__law_change rfl rfl fun cdv A outer s H E hr =>
  s_cons (s_set sc__law_change.nd rfl (Or.inl rfl) (e_op op2_mod (ev 0) (e_int)))
  (s_cons (s_kl (s_if (t_cmp (op2_lt hr.units0) (ev 4) (e_int))
  (s_one (s_ret (e_tup (a_cons (e_str) (a_cons (ev 1) (a_cons (e_ix (ev 2) (e_op op2_mod (e_op op2_fdiv (ev 0) (e_int)) (e_callB b_len rfl (T.free 3) bt_len (a_cons (ev 2) (a_nil))))) (a_nil)))))))
  (s_nil)))
  (s_cons (s_if (t_cmp (op2_lt hr.units0) (ev 4) (e_int))
  (s_one (s_ret (e_tup (a_cons (e_str) (a_cons (ev 1) (a_cons (e_ix (e_lstF (a_cons (e_int) (a_cons (e_int) (a_cons (e_int) (a_cons (e_int) (a_cons (e_int) (a_cons (e_op op2_mod (e_op op2_fdiv (ev 0) (e_int)) (e_int)) (a_nil)))))))) (e_op op2_mod (e_op op2_fdiv (ev 0) (e_int)) (e_int))) (a_nil)))))))
  (s_nil))
  (s_cons (s_if (t_cmp (op2_lt hr.units0) (ev 4) (e_int))
  (s_one (s_ret (e_tup (a_cons (e_ix (e_lstF (a_cons (e_str) (a_cons (e_str) (a_cons (e_str) (a_cons (e_str) (a_nil)))))) (e_op op2_sub (ev 4) (e_int))) (a_cons (ev 1) (a_nil))))))
  (s_nil))
  (s_cons (s_kl (s_if (PW.pt (w_and (t_cmp (op2_lt hr.units0) (ev 4) (e_int)) (w_and1 (t_cmp (op2_ne hr.units) (ev 3) (e_lstF (a_nil))))))
  (s_one (s_ret (e_tup (a_cons (e_str) (a_cons (e_ix (ev 3) (e_op op2_mod (e_op op2_fdiv (ev 0) (e_int)) (e_callB b_len rfl (T.free 3) bt_len (a_cons (ev 3) (a_nil))))) (a_nil))))))
  (s_nil)))
  (s_cons (s_if (t_cmp (op2_eq hr.units) (ev 4) (e_int))
  (s_one (s_ret (e_tup (a_cons (e_str) (a_cons (e_op op2_add (e_int) (e_ix (e_lstF (a_cons (e_op op2_mod (e_op op2_fdiv (ev 0) (e_int)) (e_int)) (a_cons (e_op op2_mod (e_op op2_mul (e_op op2_fdiv (ev 0) (e_int)) (e_op op2_pow (e_int) (e_int))) (e_op op2_sub (e_op op2_pow (e_int) (e_int)) (e_int))) (a_nil)))) (e_op op2_mod (e_op op2_fdiv (ev 0) (e_int)) (e_int)))) (a_nil))))))
  (s_nil))
  (s_cons (s_kl (s_if (t_cmp (op2_eq hr.units) (ev 4) (e_int))
  (s_one (s_ret (e_tup (a_cons (e_str) (a_nil)))))
  (s_nil)))
  (s_one (s_ret (e_tup (a_cons (e_ix (e_lstF (a_cons (e_str) (a_cons (e_str) (a_cons (e_str) (a_cons (e_str) (a_nil)))))) (e_op op2_mod (e_op op2_fdiv (ev 0) (e_int)) (e_int))) (a_cons (ev 1) (a_nil))))))))))))
theorem D__law_change (T : Tx fa fn tb K mg w) : DefOk P w K mg base (cAof K) "_law_change" 1 4 F_change_k32 :=
  T.defOk (ps := ["_law_x", "_law_day_here", "_law_names", "_law_live"]) 14 19 rfl rfl rfl rfl rfl (fun _ _ _ _ _ _ us hl => match us, hl with | [_, _, _, _], _ => rfl) fun a fd F => O__law_change T F
theorem O__law_from (T : Tx fa fn tb K mg w) {a : Addr} {fd : FuncData} (F : FunD K d__law_from.name d__law_from.qual d__law_from.params d__law_from.body d__law_from.scope [] [] a fd) : FnOk P w K mg base (L2.CX P w) 1 a fd ["_law_y", "_law_entered", "_law_begins_here", "_law_spans"] (spF K (cAof K) 4 F_from_k32) :=
  fn_ok F sc__law_from rfl rfl fun cdv A outer s H E hr =>
  s_cons (s_set sc__law_from.nd rfl (Or.inl rfl) (e_ix (e_lstF (a_cons (ev 1) (a_cons (e_ix (ev 2) (e_op op2_mod (e_op op2_fdiv (ev 0) (e_int)) (ev 3))) (a_cons (e_op op2_sub (e_ix (ev 2) (e_op op2_mod (e_op op2_fdiv (ev 0) (e_int)) (ev 3))) (e_int)) (a_cons (e_op op2_add (ev 1) (e_op op2_mod (e_op op2_fdiv (ev 0) (e_int)) (e_int))) (a_nil)))))) (e_op op2_mod (ev 0) (e_int))))
  (s_cons (s_kl (s_if (t_cmp (op2_eq hr.units) (e_op op2_mod (ev 0) (e_int)) (e_int))
  (s_one (s_set sc__law_from.nd rfl (Or.inl rfl) (e_op op2_sub (ev 1) (e_op op2_mod (e_op op2_fdiv (ev 0) (e_int)) (e_int)))))
  (s_nil)))
  (s_cons (s_kl (s_if (t_cmp (op2_eq hr.units) (e_op op2_mod (ev 0) (e_int)) (e_int))
  (s_one (s_set sc__law_from.nd rfl (Or.inl rfl) (e_op op2_add (e_ix (ev 2) (e_int)) (e_op op2_mod (e_op op2_fdiv (ev 0) (e_int)) (e_op op2_sub (e_ix (ev 2) (ev 3)) (e_ix (ev 2) (e_int)))))))
  (s_nil)))
  (s_one (s_ret (e_callB (b_max rfl) rfl (T.free 21) bt_max (a_cons (e_ix (ev 2) (e_int)) (a_cons (e_callB (b_min rfl) rfl (T.free 17) bt_min (a_cons (ev 4) (a_cons (e_op op2_sub (e_ix (ev 2) (e_un op1_neg (e_int))) (e_int)) (a_nil)))) (a_nil))))))))
theorem D__law_from (T : Tx fa fn tb K mg w) : DefOk P w K mg base (cAof K) "_law_from" 1 4 F_from_k32 :=
  T.defOk (ps := ["_law_y", "_law_entered", "_law_begins_here", "_law_spans"]) 15 20 rfl rfl rfl rfl rfl (fun _ _ _ _ _ _ us hl => match us, hl with | [_, _, _, _], _ => rfl) fun a fd F => O__law_from T F
theorem O__law_entries (T : Tx fa fn tb K mg w) {a : Addr} {fd : FuncData} (F : FunD K d__law_entries.name d__law_entries.qual d__law_entries.params d__law_entries.body d__law_entries.scope [] [] a fd) : FnOk P w K mg base (L2.CX P w) 2 a fd ["_law_cells", "_law_head", "_law_begins_here", "_law_names"] (spF K (cAof K) 4 F_entries_k32) :=
  fn_ok F sc__law_entries rfl rfl fun cdv A outer s H E hr =>
  s_cons (s_set sc__law_entries.nd rfl (Or.inl rfl) (e_ix (e_lstF (a_cons (e_int) (a_cons (e_int) (a_nil)))) (e_callTy b_int rfl (T.free 9) bt_int (a_cons (e_cmp (op2_eq hr.units) (e_op op2_mod (e_op op2_fdiv (ev 1) (e_int)) (e_int)) (e_int)) (a_nil)))))
  (s_cons (s_set sc__law_entries.nd rfl (Or.inl rfl) (e_ix (e_lstF (a_cons (e_op op2_mod (ev 1) (e_int)) (a_cons (e_op op2_sub (e_int) (e_op op2_mod (e_op op2_fdiv (ev 1) (e_int)) (e_int))) (a_nil)))) (e_callTy b_int rfl (T.free 9) bt_int (a_cons (e_cmp (op2_eq hr.units) (e_op op2_mod (e_op op2_fdiv (ev 1) (e_int)) (e_int)) (e_int)) (a_nil)))))
  (s_cons (s_set sc__law_entries.nd rfl (Or.inl rfl) (e_ix (ev 2) (e_int)))
  (s_cons (s_set sc__law_entries.nd rfl (Or.inl rfl) (e_lstM (a_nil)))
  (s_cons (s_set sc__law_entries.nd rfl (Or.inl rfl) (e_lstM (a_nil)))
  (s_cons (s_kl (s_for (passes_of rfl) rfl (i_r1 rfl (T.free 2) (ev 5)) (g_nm sc__law_entries.nd rfl (Or.inl rfl))
  (s_klb (s_cons (s_set sc__law_entries.nd rfl (Or.inl rfl) (e_cd (D__law_mixed T) hr (takes_of rfl rfl rfl rfl) (a_cons (e_ix (e_op op2_add (ev 0) (e_lstF (a_cons (ev 1) (a_nil)))) (e_callB (b_min rfl) rfl (T.free 17) bt_min (a_cons (ev 9) (a_cons (e_callB b_len rfl (T.free 3) bt_len (a_cons (ev 0) (a_nil))) (a_nil))))) (a_cons (ev 9) (a_nil)))))
  (s_cons (s_set sc__law_entries.nd rfl (Or.inl rfl) (e_ix (e_lstF (a_cons (e_int) (a_cons (e_int) (a_cons (e_int) (a_cons (e_op op2_mod (e_op op2_fdiv (ev 10) (e_int)) (e_int)) (a_cons (e_op op2_mod (e_op op2_fdiv (ev 10) (e_int)) (e_op op2_add (e_op op2_sub (e_ix (ev 2) (e_int)) (e_ix (ev 2) (e_int))) (e_int))) (a_cons (e_int) (a_cons (e_int) (a_cons (e_op op2_mod (e_op op2_fdiv (ev 10) (e_int)) (e_int)) (a_nil)))))))))) (e_op op2_mod (ev 10) (e_int))))
  (s_cons (s_set sc__law_entries.nd rfl (Or.inl rfl) (e_callB (b_max rfl) rfl (T.free 21) bt_max (a_cons (ev 6) (a_cons (e_callB (b_min rfl) rfl (T.free 17) bt_min (a_cons (e_op op2_add (ev 6) (ev 11)) (a_cons (e_op op2_sub (e_ix (ev 2) (e_op op2_sub (ev 4) (e_int))) (e_int)) (a_nil)))) (a_nil)))))
  (s_cons (s_set sc__law_entries.nd rfl (Or.inl rfl) (e_cd (D__law_change T) hr (takes_of rfl rfl rfl rfl) (a_cons (e_op op2_fdiv (ev 10) (e_int)) (a_cons (e_cd (D__law_from T) hr (takes_of rfl rfl rfl rfl) (a_cons (e_cd (D__law_mixed T) hr (takes_of rfl rfl rfl rfl) (a_cons (ev 10) (a_cons (ev 9) (a_nil)))) (a_cons (ev 6) (a_cons (ev 2) (a_cons (ev 4) (a_nil)))))) (a_cons (ev 3) (a_cons (ev 8) (a_nil)))))))
  (s_cons (s_expr (e_mL PySem.F.plainAttrs_list PySem.F.slot_list_append PySem.F.type_list_append mt_app (ev 7) (a_cons (e_tup (a_cons (ev 6) (a_cons (ev 12) (a_nil)))) (a_nil))))
  (s_one (s_kl (s_if (t_cmp (op2_eq hr.units) (e_ix (ev 12) (e_int)) (e_str))
  (s_one (s_expr (e_mL PySem.F.plainAttrs_list PySem.F.slot_list_remove PySem.F.type_list_remove mt_oRem (ev 8) (a_cons (e_ix (ev 12) (e_int)) (a_nil)))))
  (s_one (s_kl (s_if (t_cmp (op2_notin hr.units) (e_ix (ev 12) (e_int)) (e_tup (a_cons (e_str) (a_cons (e_str) (a_nil)))))
  (s_one (s_expr (e_mL PySem.F.plainAttrs_list PySem.F.slot_list_append PySem.F.type_list_append mt_app (ev 8) (a_cons (ev 9) (a_nil)))))
  (s_nil)))))))))))))))
  (s_fz (s_one (s_ret (ev 7)))))))))
theorem D__law_entries (T : Tx fa fn tb K mg w) : DefOk P w K mg base (cAof K) "_law_entries" 2 4 F_entries_k32 :=
  T.defOk (ps := ["_law_cells", "_law_head", "_law_begins_here", "_law_names"]) 16 22 rfl rfl rfl rfl rfl (fun _ _ _ _ _ _ us hl => match us, hl with | [_, _, _, _], _ => rfl) fun a fd F => O__law_entries T F
theorem O__law_any_change (T : Tx fa fn tb K mg w) {a : Addr} {fd : FuncData} (F : FunD K d__law_any_change.name d__law_any_change.qual d__law_any_change.params d__law_any_change.body d__law_any_change.scope [] [] a fd) : FnOk P w K mg base (L2.CX P w) 1 a fd ["_law_some", "_law_begins_here", "_law_names", "_law_live"] (spF K (cAof K) 4 F_any_change_k32) :=
  fn_ok F sc__law_any_change rfl rfl fun cdv A outer s H E hr =>
  s_cons (s_set sc__law_any_change.nd rfl (Or.inl rfl) (e_op op2_add (e_ix (ev 1) (e_int)) (e_op op2_mod (e_ix (ev 0) (e_int)) (e_op op2_sub (e_ix (ev 1) (e_un op1_neg (e_int))) (e_ix (ev 1) (e_int))))))
  (s_cons (s_kl (s_if (t_cmp (op2_lt hr.units0) (e_ix (ev 0) (e_int)) (e_int))
  (s_one (s_ret (e_tup (a_cons (e_str) (a_cons (ev 4) (a_cons (e_ix (ev 2) (e_op op2_mod (e_ix (ev 0) (e_int)) (e_callB b_len rfl (T.free 3) bt_len (a_cons (ev 2) (a_nil))))) (a_nil)))))))
  (s_nil)))
  (s_cons (s_if (t_cmp (op2_lt hr.units0) (e_ix (ev 0) (e_int)) (e_int))
  (s_one (s_ret (e_tup (a_cons (e_str) (a_cons (ev 4) (a_cons (e_op op2_mod (e_ix (ev 0) (e_int)) (e_int)) (a_nil)))))))
  (s_nil))
  (s_cons (s_kl (s_if (t_cmp (op2_lt hr.units0) (e_ix (ev 0) (e_int)) (e_int))
  (s_one (s_ret (e_tup (a_cons (e_ix (e_lstF (a_cons (e_str) (a_cons (e_str) (a_cons (e_str) (a_cons (e_str) (a_nil)))))) (e_op op2_sub (e_ix (ev 0) (e_int)) (e_int))) (a_cons (ev 4) (a_nil))))))
  (s_nil)))
  (s_cons (s_kl (s_if (PW.pt (w_and (t_cmp (op2_lt hr.units0) (e_ix (ev 0) (e_int)) (e_int)) (w_and1 (t_cmp (op2_ne hr.units) (ev 3) (e_lstF (a_nil))))))
  (s_one (s_ret (e_tup (a_cons (e_str) (a_cons (e_ix (ev 3) (e_op op2_mod (e_ix (ev 0) (e_int)) (e_callB b_len rfl (T.free 3) bt_len (a_cons (ev 3) (a_nil))))) (a_nil))))))
  (s_nil)))
  (s_cons (s_kl (s_if (t_cmp (op2_eq hr.units) (e_ix (ev 0) (e_int)) (e_int))
  (s_one (s_ret (e_tup (a_cons (e_str) (a_cons (e_op op2_add (e_int) (e_op op2_mod (e_ix (ev 0) (e_int)) (e_op op2_sub (e_op op2_pow (e_int) (e_int)) (e_int)))) (a_nil))))))
  (s_nil)))
  (s_one (s_ret (e_tup (a_cons (e_str) (a_nil))))))))))
theorem D__law_any_change (T : Tx fa fn tb K mg w) : DefOk P w K mg base (cAof K) "_law_any_change" 1 4 F_any_change_k32 :=
  T.defOk (ps := ["_law_some", "_law_begins_here", "_law_names", "_law_live"]) 17 23 rfl rfl rfl rfl rfl (fun _ _ _ _ _ _ us hl => match us, hl with | [_, _, _, _], _ => rfl) fun a fd F => O__law_any_change T F
theorem O__law_any_entries (T : Tx fa fn tb K mg w) {a : Addr} {fd : FuncData} (F : FunD K d__law_any_entries.name d__law_any_entries.qual d__law_any_entries.params d__law_any_entries.body d__law_any_entries.scope [] [] a fd) : FnOk P w K mg base (L2.CX P w) 2 a fd ["_law_cells", "_law_begins_here", "_law_names"] (spF K (cAof K) 3 F_any_entries_k32) :=
  fn_ok F sc__law_any_entries rfl rfl fun cdv A outer s H E hr =>
  s_cons (s_set sc__law_any_entries.nd rfl (Or.inl rfl) (e_op op2_sub (e_ix (ev 1) (e_un op1_neg (e_int))) (e_ix (ev 1) (e_int))))
  (s_cons (s_set sc__law_any_entries.nd rfl (Or.inl rfl) (e_ix (ev 1) (e_int)))
  (s_cons (s_set sc__law_any_entries.nd rfl (Or.inl rfl) (e_lstM (a_nil)))
  (s_cons (s_set sc__law_any_entries.nd rfl (Or.inl rfl) (e_lstM (a_nil)))
  (s_cons (s_kl (s_for (passes_of rfl) rfl (i_r1 rfl (T.free 2) (e_callB b_len rfl (T.free 3) bt_len (a_cons (ev 0) (a_nil)))) (g_nm sc__law_any_entries.nd rfl (Or.inl rfl))
  (s_klb (s_cons (s_set sc__law_any_entries.nd rfl (Or.inl rfl) (e_cd (D__law_digits T) hr (takes_of rfl rfl rfl rfl) (a_cons (e_ix (ev 0) (ev 7)) (a_cons (e_lstF (a_cons (e_int) (a_cons (ev 3) (a_cons (e_int) (a_cons (ev 3) (a_cons (e_int) (a_cons (e_op op2_pow (e_int) (e_int)) (a_nil)))))))) (a_nil)))))
  (s_cons (s_set sc__law_any_entries.nd rfl (Or.inl rfl) (e_ix (e_lstF (a_cons (e_int) (a_cons (e_op op2_mod (e_ix (ev 8) (e_int)) (e_int)) (a_cons (e_op op2_mod (e_ix (ev 8) (e_int)) (e_int)) (a_cons (e_ix (ev 8) (e_int)) (a_nil)))))) (e_ix (ev 8) (e_int))))
  (s_cons (s_set sc__law_any_entries.nd rfl (Or.inl rfl) (e_callB (b_min rfl) rfl (T.free 17) bt_min (a_cons (e_op op2_add (ev 4) (ev 9)) (a_cons (e_op op2_sub (e_ix (ev 1) (e_un op1_neg (e_int))) (e_int)) (a_nil)))))
  (s_cons (s_set sc__law_any_entries.nd rfl (Or.inl rfl) (e_ix (e_lstF (a_cons (e_op op2_sub (ev 4) (e_ix (ev 1) (e_int))) (a_cons (e_op op2_add (e_op op2_sub (ev 4) (e_ix (ev 1) (e_int))) (e_op op2_mod (e_ix (ev 8) (e_int)) (e_int))) (a_cons (e_op op2_mod (e_ix (ev 8) (e_int)) (e_int)) (a_cons (e_ix (ev 8) (e_int)) (a_nil)))))) (e_ix (ev 8) (e_int))))
  (s_cons (s_set sc__law_any_entries.nd rfl (Or.inl rfl) (e_cd (D__law_any_change T) hr (takes_of rfl rfl rfl rfl) (a_cons (e_op op2_add (e_lstF (a_cons (ev 10) (a_nil))) (e_sl (ev 8) (o_at (e_int)) o_no)) (a_cons (ev 1) (a_cons (ev 2) (a_cons (ev 6) (a_nil)))))))
  (s_cons (s_expr (e_mL PySem.F.plainAttrs_list PySem.F.slot_list_append PySem.F.type_list_append mt_app (ev 5) (a_cons (e_tup (a_cons (ev 4) (a_cons (ev 11) (a_nil)))) (a_nil))))
  (s_one (s_kl (s_if (t_cmp (op2_eq hr.units) (e_ix (ev 11) (e_int)) (e_str))
  (s_one (s_expr (e_mL PySem.F.plainAttrs_list PySem.F.slot_list_remove PySem.F.type_list_remove mt_oRem (ev 6) (a_cons (e_ix (ev 11) (e_int)) (a_nil)))))
  (s_one (s_kl (s_if (t_cmp (op2_notin hr.units) (e_ix (ev 11) (e_int)) (e_tup (a_cons (e_str) (a_cons (e_str) (a_nil)))))
  (s_one (s_expr (e_mL PySem.F.plainAttrs_list PySem.F.slot_list_append PySem.F.type_list_append mt_app (ev 6) (a_cons (ev 7) (a_nil)))))
  (s_nil))))))))))))))))
  (s_fz (s_one (s_ret (ev 5))))))))
theorem D__law_any_entries (T : Tx fa fn tb K mg w) : DefOk P w K mg base (cAof K) "_law_any_entries" 2 3 F_any_entries_k32 :=
  T.defOk (ps := ["_law_cells", "_law_begins_here", "_law_names"]) 18 24 rfl rfl rfl rfl rfl (fun _ _ _ _ _ _ us hl => match us, hl with | [_, _, _], _ => rfl) fun a fd F => O__law_any_entries T F
theorem O__law_listed (T : Tx fa fn tb K mg w) {a : Addr} {fd : FuncData} (F : FunD K d__law_listed.name d__law_listed.qual d__law_listed.params d__law_listed.body d__law_listed.scope [] [] a fd) : FnOk P w K mg base (L2.CX P w) 3 a fd ["_law_cells", "_law_head", "_law_begins_here", "_law_names"] (spF K (cAof K) 4 F_listed_k32) :=
  fn_ok F sc__law_listed rfl rfl fun cdv A outer s H E hr =>
  s_cons (s_if (t_cmp (op2_eq hr.units) (e_op op2_mod (ev 1) (e_int)) (e_int))
  (s_one (s_ret (e_cd (D__law_any_entries T) hr (takes_of rfl rfl rfl rfl) (a_cons (e_sl (ev 0) o_no (o_at (e_op op2_mod (e_op op2_fdiv (ev 1) (e_int)) (e_int)))) (a_cons (ev 2) (a_cons (ev 3) (a_nil)))))))
  (s_nil))
  (s_one (s_ret (e_cd (D__law_entries T) hr (takes_of rfl rfl rfl rfl) (a_cons (ev 0) (a_cons (e_op op2_fdiv (ev 1) (e_int)) (a_cons (ev 2) (a_cons (ev 3) (a_nil))))))))
theorem D__law_listed (T : Tx fa fn tb K mg w) : DefOk P w K mg base (cAof K) "_law_listed" 3 4 F_listed_k32 :=
  T.defOk (ps := ["_law_cells", "_law_head", "_law_begins_here", "_law_names"]) 19 25 rfl rfl rfl rfl rfl (fun _ _ _ _ _ _ us hl => match us, hl with | [_, _, _, _], _ => rfl) fun a fd F => O__law_listed T F
theorem O__law_known (T : Tx fa fn tb K mg w) {a : Addr} {fd : FuncData} (F : FunD K d__law_known.name d__law_known.qual d__law_known.params d__law_known.body d__law_known.scope [] [] a fd) : FnOk P w K mg base (L2.CX P w) 1 a fd ["_law_entries_here", "_law_moment"] (spF K (cAof K) 2 F_known_k34) :=
  fn_ok F sc__law_known rfl rfl fun cdv A outer s H E hr =>
  s_cons (s_setLcF (own := [("_law_entered", 5), ("_law_change_here", 6)]) (t := (.tp [5, 6])) rfl sc__law_known.nd rfl rfl (sw_true rfl rfl rfl (by decide +kernel)) (i_list (ev 0)) (show BlkOk N__law_known (defScope s__law_known) _ [("_law_entered", 5), ("_law_change_here", 6)] from blkOk_by (by decide +kernel)) (fun s H C cl fp => c_tp rfl (cs_cons sc__law_known.nd rfl (Or.inl rfl) (cs_cons sc__law_known.nd rfl (Or.inl rfl) (cs_nil)))) (fun s H C cl fp => ts_one (PW.pt (w_and (t_cmp (op2_eq hr.units) (e_ix (ev 6) (e_int)) (e_str)) (w_and1 (t_cmp op2_le (ev 5) (ev 1)))))) (fun s H C cl fp => e_ix (ev 6) (e_int)))
  (s_cons (s_set sc__law_known.nd rfl (Or.inl rfl) (e_lstM (a_nil)))
  (s_cons (s_kl (s_ek (s_for (passes_of rfl) rfl (i_r1 rfl (T.free 2) (e_callB b_len rfl (T.free 3) bt_len (a_cons (ev 0) (a_nil)))) (g_nm sc__law_known.nd rfl (Or.inl rfl))
  (s_klb (s_cons (s_asg (e_ix (ev 0) (ev 4)) (g_tp rfl (gs_cons (g_nm sc__law_known.nd rfl (Or.inl rfl)) (gs_cons (g_nm sc__law_known.nd rfl (Or.inl rfl)) (gs_nil)))))
  (s_one (s_kl (s_if (PW.pt (w_and (t_cmp op2_le (ev 5) (ev 1)) (w_and (t_cmp (op2_notin hr.units) (ev 4) (ev 2)) (w_and1 (t_cmp (op2_notin hr.units) (e_ix (ev 6) (e_int)) (e_tup (a_cons (e_str) (a_cons (e_str) (a_cons (e_str) (a_nil))))))))))
  (s_one (s_expr (e_mL PySem.F.plainAttrs_list PySem.F.slot_list_append PySem.F.type_list_append mt_app (ev 3) (a_cons (e_tup (a_cons (ev 4) (a_cons (ev 6) (a_nil)))) (a_nil)))))
  (s_nil)))))))))
  (s_fz (s_one (s_ret (ev 3))))))
theorem D__law_known (T : Tx fa fn tb K mg w) : DefOk P w K mg base (cAof K) "_law_known" 1 2 F_known_k34 :=
  T.defOk (ps := ["_law_entries_here", "_law_moment"]) 20 26 rfl rfl rfl rfl rfl (fun _ _ _ _ _ _ us hl => match us, hl with | [_, _], _ => rfl) fun a fd F => O__law_known T F
theorem O__law_counts (T : Tx fa fn tb K mg w) {a : Addr} {fd : FuncData} (F : FunD K d__law_counts.name d__law_counts.qual d__law_counts.params d__law_counts.body d__law_counts.scope [] [] a fd) : FnOk P w K mg base (L2.CX P w) 1 a fd ["_law_change_here", "_law_begins_here"] (spF K (cAof K) 2 F_counts_k41) :=
  fn_ok F sc__law_counts rfl rfl fun cdv A outer s H E hr =>
  s_cons (s_if (t_cmp (op2_ne hr.units) (e_ix (ev 0) (e_int)) (e_str))
  (s_one (s_ret (e_ix (ev 0) (e_int))))
  (s_nil))
  (s_one (s_ret (e_callB (b_min rfl) rfl (T.free 17) bt_min (a_cons (e_lcF (own := [("_law_day_here", 2)]) (t := (.nm 2)) rfl sc__law_counts.nd (i_list (ev 1)) (show BlkOk N__law_counts (defScope s__law_counts) _ [("_law_day_here", 2)] from blkOk_by (by decide +kernel)) (fun s H C cl fp => c_nm sc__law_counts.nd rfl (Or.inl rfl)) (fun s H C cl fp => ts_one (t_cmp op2_gt (ev 2) (e_ix (ev 0) (e_int)))) (fun s H C cl fp => ev 2)) (a_nil)))))
theorem D__law_counts (T : Tx fa fn tb K mg w) : DefOk P w K mg base (cAof K) "_law_counts" 1 2 F_counts_k41 :=
  T.defOk (ps := ["_law_change_here", "_law_begins_here"]) 21 27 rfl rfl rfl rfl rfl (fun _ _ _ _ _ _ us hl => match us, hl with | [_, _], _ => rfl) fun a fd F => O__law_counts T F
theorem O__law_two (T : Tx fa fn tb K mg w) {a : Addr} {fd : FuncData} (F : FunD K d__law_two.name d__law_two.qual d__law_two.params d__law_two.body d__law_two.scope [] [] a fd) : FnOk P w K mg base (L2.CX P w) 2 a fd ["_law_known_here", "_law_begins_here", "_law_x", "_law_y"] (spF K (cAof K) 4 F_two_k42) :=
  fn_ok F sc__law_two rfl rfl fun cdv A outer s H E hr =>
  s_cons (s_set sc__law_two.nd rfl (Or.inl rfl) (e_lstF (a_cons (e_ix (ev 1) (e_op op2_mod (e_op op2_fdiv (ev 2) (e_int)) (e_int))) (a_cons (e_ix (ev 1) (e_int)) (a_cons (e_ix (ev 1) (e_op op2_mod (e_op op2_fdiv (ev 2) (e_int)) (e_int))) (a_nil))))))
  (s_cons (s_set sc__law_two.nd rfl (Or.inl rfl) (e_op op2_add (ev 4) (e_lcF (own := [("_law_number", 6), ("_law_change_here", 7)]) (t := (.tp [6, 7])) rfl sc__law_two.nd (i_list (ev 0)) (show BlkOk N__law_two (defScope s__law_two) _ [("_law_number", 6), ("_law_change_here", 7)] from blkOk_by (by decide +kernel)) (fun s H C cl fp => c_tp rfl (cs_cons sc__law_two.nd rfl (Or.inl rfl) (cs_cons sc__law_two.nd rfl (Or.inl rfl) (cs_nil)))) (fun s H C cl fp => ts_nil) (fun s H C cl fp => e_cd (D__law_counts T) hr takes0 (a_cons (ev 7) (a_cons (ev 1) (a_nil)))))))
  (s_cons (s_set sc__law_two.nd rfl (Or.inl rfl) (e_callB (b_max rfl) rfl (T.free 21) bt_max (a_cons (e_ix (ev 1) (e_int)) (a_cons (e_op op2_sub (e_ix (ev 4) (e_op op2_mod (ev 2) (e_callB b_len rfl (T.free 3) bt_len (a_cons (ev 4) (a_nil))))) (e_op op2_mod (e_op op2_fdiv (ev 2) (e_int)) (e_int))) (a_nil)))))
  (s_cons (s_set sc__law_two.nd rfl (Or.inl rfl) (e_callB (b_min rfl) rfl (T.free 17) bt_min (a_cons (ev 5) (a_cons (e_op op2_sub (e_ix (ev 1) (e_un op1_neg (e_int))) (e_int)) (a_nil)))))
  (s_cons (s_if (t_cmp (op2_eq hr.units) (e_op op2_mod (ev 3) (e_int)) (e_int))
  (s_one (s_ret (e_tup (a_cons (e_ix (ev 1) (e_int)) (a_cons (e_ix (ev 1) (e_un op1_neg (e_int))) (a_nil))))))
  (s_nil))
  (s_cons (s_kl (s_if (t_cmp (op2_eq hr.units) (e_op op2_mod (ev 3) (e_int)) (e_int))
  (s_cons (s_set sc__law_two.nd rfl (Or.inl rfl) (e_op op2_add (e_ix (ev 1) (e_int)) (e_op op2_mod (ev 2) (e_op op2_sub (e_ix (ev 1) (e_un op1_neg (e_int))) (e_ix (ev 1) (e_int))))))
  (s_one (s_ret (e_tup (a_cons (ev 5) (a_cons (e_op op2_add (ev 5) (e_op op2_mod (e_op op2_fdiv (ev 3) (e_int)) (e_op op2_add (e_op op2_sub (e_ix (ev 1) (e_un op1_neg (e_int))) (ev 5)) (e_int)))) (a_nil)))))))
  (s_nil)))
  (s_one (s_ret (e_tup (a_cons (ev 5) (a_cons (e_callB (b_min rfl) rfl (T.free 17) bt_min (a_cons (e_op op2_add (ev 5) (e_op op2_mod (e_ix (e_lstF (a_cons (e_op op2_mod (e_op op2_fdiv (ev 3) (e_int)) (e_int)) (a_cons (e_op op2_mod (e_op op2_fdiv (ev 3) (e_int)) (e_int)) (a_cons (e_int) (a_cons (e_op op2_sub (e_ix (ev 1) (e_int)) (e_ix (ev 1) (e_int))) (a_nil)))))) (e_op op2_mod (ev 3) (e_int))) (e_int))) (a_cons (e_ix (ev 1) (e_un op1_neg (e_int))) (a_nil)))) (a_nil)))))))))))
theorem D__law_two (T : Tx fa fn tb K mg w) : DefOk P w K mg base (cAof K) "_law_two" 2 4 F_two_k42 :=
  T.defOk (ps := ["_law_known_here", "_law_begins_here", "_law_x", "_law_y"]) 22 28 rfl rfl rfl rfl rfl (fun _ _ _ _ _ _ us hl => match us, hl with | [_, _, _, _], _ => rfl) fun a fd F => O__law_two T F
theorem O_Months___init__ (T : Tx fa fn tb K mg w) {a : Addr} {fd : FuncData} (F : FunD K d_Months___init__.name d_Months___init__.qual d_Months___init__.params d_Months___init__.body d_Months___init__.scope [] [] a fd) : FnOk P w K mg base (L2.CX P w) 1 a fd ["self", "first", "many"] (spF K (cAof K) 3 F_Months___init__) :=
  fn_ok F sc_Months___init__ rfl rfl fun cdv A outer s H E hr =>
  s_cons (s_attr (clsOk_cons (T.clsO 29) (T.noat 30) clsOk_nil) (ev 0) (ev 1))
  (s_one (s_attr (clsOk_cons (T.clsO 29) (T.noat 31) clsOk_nil) (ev 0) (ev 2)))
theorem D_Months___init__ (T : Tx fa fn tb K mg w) : MakeOk P w K mg base 21 1 3 "Months" F_Months___init__ :=
  T.makeO (ps := ["self", "first", "many"]) 23 74 75 rfl rfl rfl rfl (fun _ _ _ _ _ _ us hl => match us, hl with | [_, _, _], _ => rfl) fun a fd F => O_Months___init__ T F
theorem O_Days___init__ (T : Tx fa fn tb K mg w) {a : Addr} {fd : FuncData} (F : FunD K d_Days___init__.name d_Days___init__.qual d_Days___init__.params d_Days___init__.body d_Days___init__.scope [] [] a fd) : FnOk P w K mg base (L2.CX P w) 1 a fd ["self", "first", "many"] (spF K (cAof K) 3 F_Days___init__) :=
  fn_ok F sc_Days___init__ rfl rfl fun cdv A outer s H E hr =>
  s_cons (s_attr (clsOk_cons (T.clsO 32) (T.noat 33) clsOk_nil) (ev 0) (ev 1))
  (s_one (s_attr (clsOk_cons (T.clsO 32) (T.noat 34) clsOk_nil) (ev 0) (ev 2)))
theorem D_Days___init__ (T : Tx fa fn tb K mg w) : MakeOk P w K mg base 20 1 3 "Days" F_Days___init__ :=
  T.makeO (ps := ["self", "first", "many"]) 24 76 77 rfl rfl rfl rfl (fun _ _ _ _ _ _ us hl => match us, hl with | [_, _, _], _ => rfl) fun a fd F => O_Days___init__ T F
theorem O_cycle_of (T : Tx fa fn tb K mg w) {a : Addr} {fd : FuncData} (F : FunD K d_cycle_of.name d_cycle_of.qual d_cycle_of.params d_cycle_of.body d_cycle_of.scope [] [] a fd) : FnOk P w K mg base (L2.CX P w) 3 a fd ["first", "cycle"] (spF K (cAof K) 2 F_cycle_of_m) :=
  fn_okK F sc_cycle_of rfl rfl fun cdv A outer s H E hr =>
  s_cons (s_if (t_cmp (op2_eq hr.units) (e_ix (ev 1) (e_int)) (e_str))
  (s_one (s_ret (e_make (D_Days___init__ T) hr (a_cons (ev 0) (a_cons (e_ix (ev 1) (e_int)) (a_nil))))))
  (s_nil))
  (s_one (s_ret (e_make (D_Months___init__ T) hr (a_cons (ev 0) (a_cons (e_ix (ev 1) (e_int)) (a_nil))))))
theorem D_cycle_of (T : Tx fa fn tb K mg w) : DefOk P w K mg base (cAof K) "cycle_of" 3 2 F_cycle_of_m :=
  T.defOk (ps := ["first", "cycle"]) 25 35 rfl rfl rfl rfl rfl (fun _ _ _ _ _ _ us hl => match us, hl with | [_, _], _ => rfl) fun a fd F => O_cycle_of T F
theorem O_Days_number_on (T : Tx fa fn tb K mg w) {a : Addr} {fd : FuncData} (F : FunD K d_Days_number_on.name d_Days_number_on.qual d_Days_number_on.params d_Days_number_on.body d_Days_number_on.scope [] [] a fd) : FnOk P w K mg base (L2.CX P w) 1 a fd ["self", "day"] (spF K (cAof K) 2 F_Days_number_on) :=
  fn_ok F sc_Days_number_on rfl rfl fun cdv A outer s H E hr =>
  s_one (s_ret (e_op op2_fdiv (e_op op2_sub (ev 1) (e_attr (clsOk_cons (T.clsO 32) (T.noat 33) clsOk_nil) (ev 0))) (e_attr (clsOk_cons (T.clsO 32) (T.noat 34) clsOk_nil) (ev 0))))
theorem D_Days_number_on (T : Tx fa fn tb K mg w) : MethOk P w K mg base 20 1 2 "number_on" F_Days_number_on :=
  T.methO (ps := ["self", "day"]) 26 32 78 rfl rfl rfl rfl (fun _ _ _ _ _ _ us hl => match us, hl with | [_, _], _ => rfl) fun a fd F => O_Days_number_on T F
theorem O_days_ahead (T : Tx fa fn tb K mg w) {a : Addr} {fd : FuncData} (F : FunD K d_days_ahead.name d_days_ahead.qual d_days_ahead.params d_days_ahead.body d_days_ahead.scope [] [] a fd) : FnOk P w K mg base (L2.CX P w) 1 a fd ["year"] (spF K (cAof K) 1 F_days_ahead) :=
  fn_ok F sc_days_ahead rfl rfl fun cdv A outer s H E hr =>
  s_cons (s_set sc_days_ahead.nd rfl (Or.inl rfl) (e_op op2_sub (ev 0) (e_int)))
  (s_one (s_ret (e_op op2_add (e_op op2_sub (e_op op2_add (e_op op2_mul (ev 1) (e_int)) (e_op op2_fdiv (ev 1) (e_int))) (e_op op2_fdiv (ev 1) (e_int))) (e_op op2_fdiv (ev 1) (e_int)))))
theorem D_days_ahead (T : Tx fa fn tb K mg w) : DefOk P w K mg base (cAof K) "days_ahead" 1 1 F_days_ahead :=
  T.defOk (ps := ["year"]) 27 36 rfl rfl rfl rfl rfl (fun _ _ _ _ _ _ us hl => match us, hl with | [_], _ => rfl) fun a fd F => O_days_ahead T F
theorem O_is_leap (T : Tx fa fn tb K mg w) {a : Addr} {fd : FuncData} (F : FunD K d_is_leap.name d_is_leap.qual d_is_leap.params d_is_leap.body d_is_leap.scope [] [] a fd) : FnOk P w K mg base (L2.CX P w) 1 a fd ["year"] (spF K (cAof K) 1 F_is_leap) :=
  fn_ok F sc_is_leap rfl rfl fun cdv A outer s H E hr =>
  s_cons (s_if (t_cmp (op2_eq hr.units) (e_op op2_mod (ev 0) (e_int)) (e_int))
  (s_one (s_ret (e_cmp (op2_eq hr.units) (e_op op2_mod (ev 0) (e_int)) (e_int))))
  (s_nil))
  (s_one (s_ret (e_cmp (op2_eq hr.units) (e_op op2_mod (ev 0) (e_int)) (e_int))))
theorem D_is_leap (T : Tx fa fn tb K mg w) : DefOk P w K mg base (cAof K) "is_leap" 1 1 F_is_leap :=
  T.defOk (ps := ["year"]) 28 37 rfl rfl rfl rfl rfl (fun _ _ _ _ _ _ us hl => match us, hl with | [_], _ => rfl) fun a fd F => O_is_leap T F
theorem O_days_in (T : Tx fa fn tb K mg w) {a : Addr} {fd : FuncData} (F : FunD K d_days_in.name d_days_in.qual d_days_in.params d_days_in.body d_days_in.scope [] [] a fd) : FnOk P w K mg base (L2.CX P w) 2 a fd ["year", "month"] (spF K (cAof K) 2 F_days_in) :=
  fn_ok F sc_days_in rfl rfl fun cdv A outer s H E hr =>
  s_cons (s_if (PW.pt (w_or (t_not (t_chain op2_le op2_le (e_int) (ev 0) (e_gt (T.int 39)))) (w_or1 (t_not (t_chain op2_le op2_le (e_int) (ev 1) (e_int))))))
  (s_one (s_rc (T.cls 40 41) (takes_of rfl rfl rfl rfl)))
  (s_nil))
  (s_one (s_ret (e_op op2_add (e_ix (e_gt (T.tab 0)) (e_op op2_sub (ev 1) (e_int))) (e_callTy b_int rfl (T.free 9) bt_int (a_cons (e_and (e_cmp (op2_eq hr.units) (ev 1) (e_int)) (e_one (e_cd (D_is_leap T) hr (takes_of rfl rfl rfl rfl) (a_cons (ev 0) (a_nil))))) (a_nil))))))
theorem D_days_in (T : Tx fa fn tb K mg w) : DefOk P w K mg base (cAof K) "days_in" 2 2 F_days_in :=
  T.defOk (ps := ["year", "month"]) 29 38 rfl rfl rfl rfl rfl (fun _ _ _ _ _ _ us hl => match us, hl with | [_, _], _ => rfl) fun a fd F => O_days_in T F
theorem O_date_of (T : Tx fa fn tb K mg w) {a : Addr} {fd : FuncData} (F : FunD K d_date_of.name d_date_of.qual d_date_of.params d_date_of.body d_date_of.scope [] [] a fd) : FnOk P w K mg base (L2.CX P w) 3 a fd ["number"] (spF K (cAof K) 1 F_date_of) :=
  fn_ok F sc_date_of rfl rfl fun cdv A outer s H E hr =>
  s_cons (s_if (t_not (t_chain op2_le op2_le (e_int) (ev 0) (e_gt (T.int 43))))
  (s_one (s_rc (T.cls 40 41) (takes_of rfl rfl rfl rfl)))
  (s_nil))
  (s_cons (s_set sc_date_of.nd rfl (Or.inl rfl) (e_op op2_add (e_op op2_fdiv (e_op op2_mul (ev 0) (e_int)) (e_gt (T.int 44))) (e_int)))
  (s_cons (s_while (passes_of rfl) (t_cmp op2_gt (e_cd (D_days_ahead T) hr (takes_of rfl rfl rfl rfl) (a_cons (ev 1) (a_nil))) (ev 0))
  (s_one (s_aug sc_date_of.nd rfl (Or.inl rfl) (e_int) ip_sub)))
  (s_cons (s_while (passes_of rfl) (t_cmp op2_le (e_cd (D_days_ahead T) hr (takes_of rfl rfl rfl rfl) (a_cons (e_op op2_add (ev 1) (e_int)) (a_nil))) (ev 0))
  (s_one (s_aug sc_date_of.nd rfl (Or.inl rfl) (e_int) ip_add)))
  (s_cons (s_set sc_date_of.nd rfl (Or.inl rfl) (e_op op2_sub (ev 0) (e_cd (D_days_ahead T) hr (takes_of rfl rfl rfl rfl) (a_cons (ev 1) (a_nil)))))
  (s_cons (s_set sc_date_of.nd rfl (Or.inl rfl) (e_int))
  (s_cons (s_while (passes_of rfl) (t_cmp op2_ge (ev 2) (e_cd (D_days_in T) hr (takes_of rfl rfl rfl rfl) (a_cons (ev 1) (a_cons (ev 3) (a_nil)))))
  (s_cons (s_aug sc_date_of.nd rfl (Or.inl rfl) (e_cd (D_days_in T) hr (takes_of rfl rfl rfl rfl) (a_cons (ev 1) (a_cons (ev 3) (a_nil)))) ip_sub)
  (s_one (s_aug sc_date_of.nd rfl (Or.inl rfl) (e_int) ip_add))))
  (s_one (s_ret (e_tup (a_cons (ev 1) (a_cons (ev 3) (a_cons (e_op op2_add (ev 2) (e_int)) (a_nil)))))))))))))
theorem D_date_of (T : Tx fa fn tb K mg w) : DefOk P w K mg base (cAof K) "date_of" 3 1 F_date_of :=
  T.defOk (ps := ["number"]) 30 42 rfl rfl rfl rfl rfl (fun _ _ _ _ _ _ us hl => match us, hl with | [_], _ => rfl) fun a fd F => O_date_of T F
theorem O_day_of (T : Tx fa fn tb K mg w) {a : Addr} {fd : FuncData} (F : FunD K d_day_of.name d_day_of.qual d_day_of.params d_day_of.body d_day_of.scope [] [] a fd) : FnOk P w K mg base (L2.CX P w) 3 a fd ["year", "month", "day"] (spF K (cAof K) 3 F_day_of) :=
  fn_ok F sc_day_of rfl rfl fun cdv A outer s H E hr =>
  s_cons (s_if (t_not (t_chain op2_le op2_le (e_int) (ev 2) (e_cd (D_days_in T) hr (takes_of rfl rfl rfl rfl) (a_cons (ev 0) (a_cons (ev 1) (a_nil))))))
  (s_one (s_rc (T.cls 40 41) (takes_of rfl rfl rfl rfl)))
  (s_nil))
  (s_one (s_ret (e_op op2_sub (e_op op2_add (e_op op2_add (e_cd (D_days_ahead T) hr (takes_of rfl rfl rfl rfl) (a_cons (ev 0) (a_nil))) (e_callB (b_sum rfl) rfl (T.free 11) bt_sum (a_cons (e_lcF (own := [("k", 3)]) (t := (.nm 3)) rfl sc_day_of.nd (i_r2 rfl (T.free 2) (e_int) (ev 1)) (show BlkOk N_day_of (defScope s_day_of) _ [("k", 3)] from blkOk_by (by decide +kernel)) (fun s H C cl fp => c_nm sc_day_of.nd rfl (Or.inl rfl)) (fun s H C cl fp => ts_nil) (fun s H C cl fp => e_cd (D_days_in T) hr takes0 (a_cons (ev 0) (a_cons (ev 3) (a_nil))))) (a_nil)))) (ev 2)) (e_int))))
theorem D_day_of (T : Tx fa fn tb K mg w) : DefOk P w K mg base (cAof K) "day_of" 3 3 F_day_of :=
  T.defOk (ps := ["year", "month", "day"]) 31 45 rfl rfl rfl rfl rfl (fun _ _ _ _ _ _ us hl => match us, hl with | [_, _, _], _ => rfl) fun a fd F => O_day_of T F
theorem O_months_on (T : Tx fa fn tb K mg w) {a : Addr} {fd : FuncData} (F : FunD K d_months_on.name d_months_on.qual d_months_on.params d_months_on.body d_months_on.scope [] [] a fd) : FnOk P w K mg base (L2.CX P w) 4 a fd ["number", "many"] (spF K (cAof K) 2 F_months_on) :=
  fn_ok F sc_months_on rfl rfl fun cdv A outer s H E hr =>
  s_cons (s_asg (e_cd (D_date_of T) hr (takes_of rfl rfl rfl rfl) (a_cons (ev 0) (a_nil))) (g_tp rfl (gs_cons (g_nm sc_months_on.nd rfl (Or.inl rfl)) (gs_cons (g_nm sc_months_on.nd rfl (Or.inl rfl)) (gs_cons (g_nm sc_months_on.nd rfl (Or.inl rfl)) (gs_nil))))))
  (s_cons (s_asg (e_callB b_divmod rfl (T.free 47) bt_divmod (a_cons (e_op op2_add (e_op op2_sub (e_op op2_add (e_op op2_mul (ev 2) (e_int)) (ev 3)) (e_int)) (ev 1)) (a_cons (e_int) (a_nil)))) (g_tp rfl (gs_cons (g_nm sc_months_on.nd rfl (Or.inl rfl)) (gs_cons (g_nm sc_months_on.nd rfl (Or.inl rfl)) (gs_nil)))))
  (s_one (s_ret (e_cd (D_day_of T) hr (takes_of rfl rfl rfl rfl) (a_cons (ev 2) (a_cons (e_op op2_add (ev 5) (e_int)) (a_cons (e_callB (b_min rfl) rfl (T.free 17) bt_min (a_cons (ev 4) (a_cons (e_cd (D_days_in T) hr (takes_of rfl rfl rfl rfl) (a_cons (ev 2) (a_cons (e_op op2_add (ev 5) (e_int)) (a_nil)))) (a_nil)))) (a_nil))))))))
theorem D_months_on (T : Tx fa fn tb K mg w) : DefOk P w K mg base (cAof K) "months_on" 4 2 F_months_on :=
  T.defOk (ps := ["number", "many"]) 32 46 rfl rfl rfl rfl rfl (fun _ _ _ _ _ _ us hl => match us, hl with | [_, _], _ => rfl) fun a fd F => O_months_on T F
theorem O_Months_begin_at (T : Tx fa fn tb K mg w) {a : Addr} {fd : FuncData} (F : FunD K d_Months_begin_at.name d_Months_begin_at.qual d_Months_begin_at.params d_Months_begin_at.body d_Months_begin_at.scope [] [] a fd) : FnOk P w K mg base (L2.CX P w) 5 a fd ["self", "k"] (spF K (cAof K) 2 F_Months_begin_at) :=
  fn_ok F sc_Months_begin_at rfl rfl fun cdv A outer s H E hr =>
  s_one (s_ret (e_cd (D_months_on T) hr (takes_of rfl rfl rfl rfl) (a_cons (e_attr (clsOk_cons (T.clsO 29) (T.noat 30) clsOk_nil) (ev 0)) (a_cons (e_op op2_mul (ev 1) (e_attr (clsOk_cons (T.clsO 29) (T.noat 31) clsOk_nil) (ev 0))) (a_nil)))))
theorem D_Months_begin_at (T : Tx fa fn tb K mg w) : MethOk P w K mg base 21 5 2 "begin_at" F_Months_begin_at :=
  T.methO (ps := ["self", "k"]) 33 29 79 rfl rfl rfl rfl (fun _ _ _ _ _ _ us hl => match us, hl with | [_, _], _ => rfl) fun a fd F => O_Months_begin_at T F
theorem O_Months_number_on (T : Tx fa fn tb K mg w) {a : Addr} {fd : FuncData} (F : FunD K d_Months_number_on.name d_Months_number_on.qual d_Months_number_on.params d_Months_number_on.body d_Months_number_on.scope [] [] a fd) : FnOk P w K mg base (L2.CX P w) 6 a fd ["self", "day"] (spF K (cAof K) 2 F_Months_number_on) :=
  fn_ok F sc_Months_number_on rfl rfl fun cdv A outer s H E hr =>
  s_cons (s_set sc_Months_number_on.nd rfl (Or.inl rfl) (e_cd (D_date_of T) hr (takes_of rfl rfl rfl rfl) (a_cons (e_attr (clsOk_cons (T.clsO 29) (T.noat 30) clsOk_nil) (ev 0)) (a_nil))))
  (s_cons (s_set sc_Months_number_on.nd rfl (Or.inl rfl) (e_cd (D_date_of T) hr (takes_of rfl rfl rfl rfl) (a_cons (ev 1) (a_nil))))
  (s_cons (s_set sc_Months_number_on.nd rfl (Or.inl rfl) (e_op op2_fdiv (e_op op2_sub (e_op op2_add (e_op op2_mul (e_op op2_sub (e_ix (ev 3) (e_int)) (e_ix (ev 2) (e_int))) (e_int)) (e_ix (ev 3) (e_int))) (e_ix (ev 2) (e_int))) (e_attr (clsOk_cons (T.clsO 29) (T.noat 31) clsOk_nil) (ev 0))))
  (s_cons (s_kl (s_if (t_cmp op2_gt (e_meth (k := 5) (meth_cons (D_Months_begin_at T) (meth_nil)) (hr.mono (by decide)) (takes_of rfl rfl rfl rfl) (ev 0) (a_cons (ev 4) (a_nil))) (ev 1))
  (s_one (s_aug sc_Months_number_on.nd rfl (Or.inl rfl) (e_int) ip_sub))
  (s_nil)))
  (s_one (s_ret (ev 4))))))
theorem D_Months_number_on (T : Tx fa fn tb K mg w) : MethOk P w K mg base 21 6 2 "number_on" F_Months_number_on :=
  T.methO (ps := ["self", "day"]) 34 29 80 rfl rfl rfl rfl (fun _ _ _ _ _ _ us hl => match us, hl with | [_, _], _ => rfl) fun a fd F => O_Months_number_on T F
theorem O_Days_begin_at (T : Tx fa fn tb K mg w) {a : Addr} {fd : FuncData} (F : FunD K d_Days_begin_at.name d_Days_begin_at.qual d_Days_begin_at.params d_Days_begin_at.body d_Days_begin_at.scope [] [] a fd) : FnOk P w K mg base (L2.CX P w) 1 a fd ["self", "k"] (spF K (cAof K) 2 F_Days_begin_at) :=
  fn_ok F sc_Days_begin_at rfl rfl fun cdv A outer s H E hr =>
  s_one (s_ret (e_op op2_add (e_attr (clsOk_cons (T.clsO 32) (T.noat 33) clsOk_nil) (ev 0)) (e_op op2_mul (ev 1) (e_attr (clsOk_cons (T.clsO 32) (T.noat 34) clsOk_nil) (ev 0)))))
theorem D_Days_begin_at (T : Tx fa fn tb K mg w) : MethOk P w K mg base 20 1 2 "begin_at" F_Days_begin_at :=
  T.methO (ps := ["self", "k"]) 35 32 81 rfl rfl rfl rfl (fun _ _ _ _ _ _ us hl => match us, hl with | [_, _], _ => rfl) fun a fd F => O_Days_begin_at T F
theorem O_span_on (T : Tx fa fn tb K mg w) {a : Addr} {fd : FuncData} (F : FunD K d_span_on.name d_span_on.qual d_span_on.params d_span_on.body d_span_on.scope [] [] a fd) : FnOk P w K mg base (L2.CX P w) 7 a fd ["first", "cycle", "day"] (spF K (cAof K) 3 F_span_on) :=
  fn_ok F sc_span_on rfl rfl fun cdv A outer s H E hr =>
  s_cons (s_if (t_cmp (op2_lt hr.units0) (ev 2) (ev 0))
  (s_one (s_rc (T.cls 49 50) (takes_of rfl rfl rfl rfl)))
  (s_nil))
  (s_cons (s_set sc_span_on.nd rfl (Or.inl rfl) (e_cd (D_cycle_of T) hr (takes_of rfl rfl rfl rfl) (a_cons (ev 0) (a_cons (ev 1) (a_nil)))))
  (s_cons (s_if (t_cmp op2_ge (ev 2) (e_meth (k := 5) (meth_cons (D_Days_begin_at T) (meth_cons (D_Months_begin_at T) (meth_nil))) (hr.mono (by decide)) (takes_of rfl rfl rfl rfl) (ev 3) (a_cons (e_gt (T.int 51)) (a_nil))))
  (s_one (s_rc (T.cls 52 53) (takes_of rfl rfl rfl rfl)))
  (s_nil))
  (s_cons (s_set sc_span_on.nd rfl (Or.inl rfl) (e_meth (k := 6) (meth_cons (D_Days_number_on T) (meth_cons (D_Months_number_on T) (meth_nil))) (hr.mono (by decide)) (takes_of rfl rfl rfl rfl) (ev 3) (a_cons (ev 2) (a_nil))))
  (s_one (s_ret (e_tup (a_cons (ev 4) (a_cons (e_meth (k := 5) (meth_cons (D_Days_begin_at T) (meth_cons (D_Months_begin_at T) (meth_nil))) (hr.mono (by decide)) (takes_of rfl rfl rfl rfl) (ev 3) (a_cons (ev 4) (a_nil))) (a_cons (e_meth (k := 5) (meth_cons (D_Days_begin_at T) (meth_cons (D_Months_begin_at T) (meth_nil))) (hr.mono (by decide)) (takes_of rfl rfl rfl rfl) (ev 3) (a_cons (e_op op2_add (ev 4) (e_int)) (a_nil))) (a_nil))))))))))
theorem D_span_on (T : Tx fa fn tb K mg w) : DefOk P w K mg base (cAof K) "span_on" 7 3 F_span_on :=
  T.defOk (ps := ["first", "cycle", "day"]) 36 48 rfl rfl rfl rfl rfl (fun _ _ _ _ _ _ us hl => match us, hl with | [_, _, _], _ => rfl) fun a fd F => O_span_on T F
theorem O_counts_from (T : Tx fa fn tb K mg w) {a : Addr} {fd : FuncData} (F : FunD K d_counts_from.name d_counts_from.qual d_counts_from.params d_counts_from.body d_counts_from.scope [] [] a fd) : FnOk P w K mg base (L2.CX P w) 8 a fd ["account", "change"] (spF K (cAof K) 2 F_counts_from) :=
  fn_ok F sc_counts_from rfl rfl fun cdv A outer s H E hr =>
  s_cons (s_kl (s_if (t_cmp (op2_eq hr.units) (e_ix (ev 1) (e_int)) (e_str))
  (s_one (s_ret (e_ix (e_cd (D_span_on T) hr (takes_of rfl rfl rfl rfl) (a_cons (e_ix (ev 0) (e_int)) (a_cons (e_ix (ev 0) (e_int)) (a_cons (e_ix (ev 1) (e_int)) (a_nil))))) (e_int))))
  (s_nil)))
  (s_one (s_ret (e_ix (ev 1) (e_int))))
theorem D_counts_from (T : Tx fa fn tb K mg w) : DefOk P w K mg base (cAof K) "counts_from" 8 2 F_counts_from :=
  T.defOk (ps := ["account", "change"]) 37 54 rfl rfl rfl rfl rfl (fun _ _ _ _ _ _ us hl => match us, hl with | [_, _], _ => rfl) fun a fd F => O_counts_from T F
theorem O_counted (T : Tx fa fn tb K mg w) {a : Addr} {fd : FuncData} (F : FunD K d_counted.name d_counted.qual d_counted.params d_counted.body d_counted.scope [] [] a fd) : FnOk P w K mg base (L2.CX P w) 9 a fd ["account", "terms"] (spF K (cAof K) 2 F_counted) :=
  fn_ok F sc_counted rfl rfl fun cdv A outer s H E hr =>
  s_one (s_ret (e_lcF (own := [("number", 2), ("change", 3)]) (t := (.tp [2, 3])) rfl sc_counted.nd (i_list (ev 1)) (show BlkOk N_counted (defScope s_counted) _ [("number", 2), ("change", 3)] from blkOk_by (by decide +kernel)) (fun s H C cl fp => c_tp rfl (cs_cons sc_counted.nd rfl (Or.inl rfl) (cs_cons sc_counted.nd rfl (Or.inl rfl) (cs_nil)))) (fun s H C cl fp => ts_nil) (fun s H C cl fp => e_tup (a_cons (e_cd (D_counts_from T) hr takes0 (a_cons (ev 0) (a_cons (ev 3) (a_nil)))) (a_cons (e_ix (ev 3) (e_int)) (a_cons (ev 2) (a_cons (ev 3) (a_nil))))))))
theorem D_counted (T : Tx fa fn tb K mg w) : DefOk P w K mg base (cAof K) "counted" 9 2 F_counted :=
  T.defOk (ps := ["account", "terms"]) 38 55 rfl rfl rfl rfl rfl (fun _ _ _ _ _ _ us hl => match us, hl with | [_, _], _ => rfl) fun a fd F => O_counted T F
theorem O_latest (T : Tx fa fn tb K mg w) {a : Addr} {fd : FuncData} (F : FunD K d_latest.name d_latest.qual d_latest.params d_latest.body d_latest.scope [] [] a fd) : FnOk P w K mg base (L2.CX P w) 1 a fd ["rows", "words", "day"] (spF K (cAof K) 3 F_latest) :=
  fn_ok F sc_latest rfl rfl fun cdv A outer s H E hr =>
  s_cons (s_set sc_latest.nd rfl (Or.inl rfl) (e_non))
  (s_cons (s_kl (s_for (passes_of rfl) rfl (i_list (ev 0)) (g_nm sc_latest.nd rfl (Or.inl rfl))
  (s_klb (s_one (s_kl (s_if (PW.pt (w_and (t_cmp (op2_in hr.units) (e_ix (e_ix (ev 4) (e_int)) (e_int)) (ev 1)) (w_and (t_cmp op2_le (e_ix (ev 4) (e_int)) (ev 2)) (w_and1 (PW.pt (w_or (t_cmp op2_is (ev 3) (e_non)) (w_or1 (t_cmp (op2_lt hr.units0) (e_sl (ev 3) o_no (o_at (e_int))) (e_sl (ev 4) o_no (o_at (e_int)))))))))))
  (s_one (s_set sc_latest.nd rfl (Or.inl rfl) (ev 4)))
  (s_nil)))))))
  (s_cons (s_if (t_cmp op2_is (ev 3) (e_non))
  (s_one (s_ret (e_non)))
  (s_nil))
  (s_one (s_ret (e_ix (ev 3) (e_int))))))
theorem D_latest (T : Tx fa fn tb K mg w) : DefOk P w K mg base (cAof K) "latest" 1 3 F_latest :=
  T.defOk (ps := ["rows", "words", "day"]) 39 56 rfl rfl rfl rfl rfl (fun _ _ _ _ _ _ us hl => match us, hl with | [_, _, _], _ => rfl) fun a fd F => O_latest T F
theorem O_state_by (T : Tx fa fn tb K mg w) {a : Addr} {fd : FuncData} (F : FunD K d_state_by.name d_state_by.qual d_state_by.params d_state_by.body d_state_by.scope [] [] a fd) : FnOk P w K mg base (L2.CX P w) 2 a fd ["rows", "day"] (spF K (cAof K) 2 F_state_by) :=
  fn_ok F sc_state_by rfl rfl fun cdv A outer s H E hr =>
  s_cons (s_set sc_state_by.nd rfl (Or.inl rfl) (e_cd (D_latest T) hr (takes_of rfl rfl rfl rfl) (a_cons (ev 0) (a_cons (e_tup (a_cons (e_str) (a_nil))) (a_cons (ev 1) (a_nil))))))
  (s_cons (s_set sc_state_by.nd rfl (Or.inl rfl) (e_cd (D_latest T) hr (takes_of rfl rfl rfl rfl) (a_cons (ev 0) (a_cons (e_tup (a_cons (e_str) (a_nil))) (a_cons (ev 1) (a_nil))))))
  (s_cons (s_set sc_state_by.nd rfl (Or.inl rfl) (e_cd (D_latest T) hr (takes_of rfl rfl rfl rfl) (a_cons (ev 0) (a_cons (e_gt (T.tab 1)) (a_cons (ev 1) (a_nil))))))
  (s_cons (s_set sc_state_by.nd rfl (Or.inl rfl) (e_lstM (a_cons (e_non) (a_cons (e_int) (a_cons (e_str) (a_nil))))))
  (s_cons (s_kl (s_if (t_cmp op2_isnot (ev 2) (e_non))
  (s_one (s_sub (e_ix (ev 2) (e_int)) (ev 5) (e_int) (by intro _; rfl)))
  (s_nil)))
  (s_cons (s_kl (s_if (t_cmp op2_isnot (ev 3) (e_non))
  (s_one (s_sub (e_ix (ev 3) (e_int)) (ev 5) (e_int) (by intro _; rfl)))
  (s_nil)))
  (s_cons (s_kl (s_if (t_cmp op2_isnot (ev 4) (e_non))
  (s_one (s_sub (e_kix (T.kd 2 58) (e_ix (ev 4) (e_int))) (ev 5) (e_int) (by intro _; rfl)))
  (s_nil)))
  (s_fz (s_one (s_ret (e_callTy b_tupOf rfl (T.free 59) bt_tuple (a_cons (ev 5) (a_nil))))))))))))
theorem D_state_by (T : Tx fa fn tb K mg w) : DefOk P w K mg base (cAof K) "state_by" 2 2 F_state_by :=
  T.defOk (ps := ["rows", "day"]) 40 57 rfl rfl rfl rfl rfl (fun _ _ _ _ _ _ us hl => match us, hl with | [_, _], _ => rfl) fun a fd F => O_state_by T F
theorem O_stretches (T : Tx fa fn tb K mg w) {a : Addr} {fd : FuncData} (F : FunD K d_stretches.name d_stretches.qual d_stretches.params d_stretches.body d_stretches.scope [] [] a fd) : FnOk P w K mg base (L2.CX P w) 10 a fd ["account", "terms", "begin", "end"] (spF K (cAof K) 4 F_stretches_m) :=
  fn_okK F sc_stretches rfl rfl fun cdv A outer s H E hr =>
  s_cons (s_set sc_stretches.nd rfl (Or.inl rfl) (e_cd (D_counted T) hr (takes_of rfl rfl rfl rfl) (a_cons (ev 0) (a_cons (ev 1) (a_nil)))))
  (s_cons (s_set sc_stretches.nd rfl (Or.inl rfl) (e_sset rfl rfl (T.free 61) rfl (T.free 62) (e_op op2_add (e_lstF (a_cons (ev 2) (a_nil))) (e_lcF (own := [("row", 11)]) (t := (.nm 11)) rfl sc_stretches.nd (i_list (ev 4)) (show BlkOk N_stretches (defScope s_stretches) _ [("row", 11)] from blkOk_by (by decide +kernel)) (fun s H C cl fp => c_nm sc_stretches.nd rfl (Or.inl rfl)) (fun s H C cl fp => ts_one (t_chain (op2_lt hr.units0) (op2_lt hr.units0) (ev 2) (e_ix (ev 11) (e_int)) (ev 3))) (fun s H C cl fp => e_ix (ev 11) (e_int))))))
  (s_cons (s_set sc_stretches.nd rfl (Or.inl rfl) (e_lstM (a_nil)))
  (s_cons (s_kl (s_for (passes_of rfl) rfl (i_enum rfl (T.free 63) (ev 5)) (g_tp rfl (gs_cons (g_nm sc_stretches.nd rfl (Or.inl rfl)) (gs_cons (g_nm sc_stretches.nd rfl (Or.inl rfl)) (gs_nil))))
  (s_klb (s_cons (s_set sc_stretches.nd rfl (Or.inl rfl) (e_ix (e_op op2_add (ev 5) (e_lstF (a_cons (ev 3) (a_nil)))) (e_op op2_add (ev 7) (e_int))))
  (s_cons (s_set sc_stretches.nd rfl (Or.inl rfl) (e_cd (D_state_by T) hr (takes_of rfl rfl rfl rfl) (a_cons (ev 4) (a_cons (ev 8) (a_nil)))))
  (s_one (s_kl (s_if (PW.pt (w_and (t_cmp (op2_ne hr.units) (ev 6) (e_lstF (a_nil))) (w_and1 (t_cmp (op2_eq hr.units) (e_ix (e_ix (ev 6) (e_un op1_neg (e_int))) (e_int)) (ev 10)))))
  (s_one (s_sub (e_tup (a_cons (e_ix (e_ix (ev 6) (e_un op1_neg (e_int))) (e_int)) (a_cons (ev 9) (a_cons (ev 10) (a_nil))))) (ev 6) (e_un op1_neg (e_int)) (by intro _; rfl)))
  (s_one (s_kl (s_if (t_cmp (op2_lt hr.units0) (ev 8) (ev 9))
  (s_one (s_expr (e_mL PySem.F.plainAttrs_list PySem.F.slot_list_append PySem.F.type_list_append mt_app (ev 6) (a_cons (e_tup (a_cons (ev 8) (a_cons (ev 9) (a_cons (ev 10) (a_nil))))) (a_nil)))))
  (s_nil))))))))))))
  (s_one (s_ret (ev 6))))))
theorem D_stretches (T : Tx fa fn tb K mg w) : DefOk P w K mg base (cAof K) "stretches" 10 4 F_stretches_m :=
  T.defOk (ps := ["account", "terms", "begin", "end"]) 41 60 rfl rfl rfl rfl rfl (fun _ _ _ _ _ _ us hl => match us, hl with | [_, _, _, _], _ => rfl) fun a fd F => O_stretches T F
theorem O__law_days (T : Tx fa fn tb K mg w) {a : Addr} {fd : FuncData} (F : FunD K d__law_days.name d__law_days.qual d__law_days.params d__law_days.body d__law_days.scope [] [] a fd) : FnOk P w K mg base (L2.CX P w) 2 a fd ["_law_known_here", "_law_begins_here", "_law_begin", "_law_end"] (spF K (cAof K) 4 F_days_k42) :=
  fn_ok F sc__law_days rfl rfl fun cdv A outer s H E hr =>
  s_cons (s_if (t_cmp op2_le (e_op op2_sub (ev 3) (ev 2)) (e_int))
  (s_one (s_ret (e_listRg rfl rfl (T.free 65) rfl (T.free 2) (ev 2) (ev 3))))
  (s_nil))
  (s_cons (s_set sc__law_days.nd rfl (Or.inl rfl) (e_lstF (a_cons (ev 2) (a_cons (e_op op2_sub (ev 3) (e_int)) (a_nil)))))
  (s_cons (s_kl (s_ek (s_for (passes_of rfl) rfl (i_list (ev 0)) (g_tp rfl (gs_cons (g_nm sc__law_days.nd rfl (Or.inl rfl)) (gs_cons (g_nm sc__law_days.nd rfl (Or.inl rfl)) (gs_nil))))
  (s_klb (s_cons (s_set sc__law_days.nd rfl (Or.inl rfl) (e_cd (D__law_counts T) hr (takes_of rfl rfl rfl rfl) (a_cons (ev 6) (a_cons (ev 1) (a_nil)))))
  (s_one (s_set sc__law_days.nd rfl (Or.inl rfl) (e_op op2_add (ev 4) (e_lstF (a_cons (e_op op2_sub (ev 7) (e_int)) (a_cons (ev 7) (a_nil))))))))))))
  (s_one (s_ret (e_lcF (own := [("_law_day_here", 7)]) (t := (.nm 7)) rfl sc__law_days.nd (i_list (ev 4)) (show BlkOk N__law_days (defScope s__law_days) _ [("_law_day_here", 7)] from blkOk_by (by decide +kernel)) (fun s H C cl fp => c_nm sc__law_days.nd rfl (Or.inl rfl)) (fun s H C cl fp => ts_one (t_chain op2_le (op2_lt hr.units0) (ev 2) (ev 7) (ev 3))) (fun s H C cl fp => ev 7))))))
theorem D__law_days (T : Tx fa fn tb K mg w) : DefOk P w K mg base (cAof K) "_law_days" 2 4 F_days_k42 :=
  T.defOk (ps := ["_law_known_here", "_law_begins_here", "_law_begin", "_law_end"]) 42 64 rfl rfl rfl rfl rfl (fun _ _ _ _ _ _ us hl => match us, hl with | [_, _, _, _], _ => rfl) fun a fd F => O__law_days T F
theorem O__law_whole (T : Tx fa fn tb K mg w) {a : Addr} {fd : FuncData} (F : FunD K d__law_whole.name d__law_whole.qual d__law_whole.params d__law_whole.body d__law_whole.scope [] [] a fd) : FnOk P w K mg base (L2.CX P w) 1 a fd ["_law_found"] (spF K (cAof K) 1 F_whole_k10) :=
  fn_ok F sc__law_whole rfl rfl fun cdv A outer s H E hr =>
  s_one (s_ret (e_and (e_isi rfl (T.free 67) (ev 0) (pe_bltn rfl (T.free 9) bt_int rfl)) (e_one (e_not (e_isi rfl (T.free 67) (ev 0) (pe_bltn rfl (T.free 68) bt_bool rfl))))))
theorem D__law_whole (T : Tx fa fn tb K mg w) : DefOk P w K mg base (cAof K) "_law_whole" 1 1 F_whole_k10 :=
  T.defOk (ps := ["_law_found"]) 43 66 rfl rfl rfl rfl rfl (fun _ _ _ _ _ _ us hl => match us, hl with | [_], _ => rfl) fun a fd F => O__law_whole T F
theorem O__law_lie_behind (T : Tx fa fn tb K mg w) {a : Addr} {fd : FuncData} (F : FunD K d__law_lie_behind.name d__law_lie_behind.qual d__law_lie_behind.params d__law_lie_behind.body d__law_lie_behind.scope [] [] a fd) : FnOk P w K mg base (L2.CX P w) 2 a fd ["_law_found", "_law_begin", "_law_end"] (spF K (cAof K) 3 F_lie_behind_k42) :=
  fn_ok F sc__law_lie_behind rfl rfl fun cdv A outer s H E hr =>
  s_cons (s_set sc__law_lie_behind.nd rfl (Or.inl rfl) (ev 1))
  (s_cons (s_forP (passes_of rfl) rfl (i_listP (ev 0)) (g_nm sc__law_lie_behind.nd rfl (Or.inl rfl))
  (s_klb (s_cons (s_if (PW.pt (w_or (t_not (t_val (e_isi rfl (T.free 67) (ev 4) (pe_bltn rfl (T.free 59) bt_tuple rfl)))) (w_or (t_cmp (op2_ne hr.units) (e_callB b_len rfl (T.free 3) bt_len (a_cons (ev 4) (a_nil))) (e_int)) (w_or (t_not (t_val (e_cd (D__law_whole T) hr (takes_of rfl rfl rfl rfl) (a_cons (e_ix (ev 4) (e_int)) (a_nil))))) (w_or1 (t_not (t_val (e_cd (D__law_whole T) hr (takes_of rfl rfl rfl rfl) (a_cons (e_ix (ev 4) (e_int)) (a_nil))))))))))
  (s_one (s_ret (e_bl)))
  (s_nil))
  (s_cons (s_kl (s_if (PW.pt (w_or (t_cmp (op2_ne hr.units) (e_ix (ev 4) (e_int)) (ev 3)) (w_or (t_cmp op2_le (e_ix (ev 4) (e_int)) (ev 3)) (w_or (t_not (t_val (e_isi rfl (T.free 67) (e_ix (ev 4) (e_int)) (pe_bltn rfl (T.free 59) bt_tuple rfl)))) (w_or1 (t_cmp (op2_ne hr.units) (e_callB b_len rfl (T.free 3) bt_len (a_cons (e_ix (ev 4) (e_int)) (a_nil))) (e_int)))))))
  (s_one (s_ret (e_bl)))
  (s_nil)))
  (s_one (s_set sc__law_lie_behind.nd rfl (Or.inl rfl) (e_ix (ev 4) (e_int))))))))
  (s_cons (s_kl (s_for (passes_of rfl) rfl (i_zip rfl (T.free 70) (e_sl (ev 0) o_no (o_at (e_un op1_neg (e_int)))) (e_sl (ev 0) (o_at (e_int)) o_no)) (g_tp rfl (gs_cons (g_nm sc__law_lie_behind.nd rfl (Or.inl rfl)) (gs_cons (g_nm sc__law_lie_behind.nd rfl (Or.inl rfl)) (gs_nil))))
  (s_klb (s_one (s_kl (s_if (t_cmp (op2_eq hr.units) (e_ix (ev 5) (e_int)) (e_ix (ev 6) (e_int)))
  (s_one (s_ret (e_bl)))
  (s_nil)))))))
  (s_one (s_ret (e_cmp (op2_eq hr.units) (ev 3) (ev 2))))))
theorem D__law_lie_behind (T : Tx fa fn tb K mg w) : DefOk P w K mg base (cAof K) "_law_lie_behind" 2 3 F_lie_behind_k42 :=
  T.defOk (ps := ["_law_found", "_law_begin", "_law_end"]) 44 69 rfl rfl rfl rfl rfl (fun _ _ _ _ _ _ us hl => match us, hl with | [_, _, _], _ => rfl) fun a fd F => O__law_lie_behind T F
theorem O__law_state (T : Tx fa fn tb K mg w) {a : Addr} {fd : FuncData} (F : FunD K d__law_state.name d__law_state.qual d__law_state.params d__law_state.body d__law_state.scope [] [] a fd) : FnOk P w K mg base (L2.CX P w) 2 a fd ["_law_known_here", "_law_begins_here", "_law_day_here"] (spF K (cAof K) 3 F_state_k41) :=
  fn_ok F sc__law_state rfl rfl fun cdv A outer s H E hr =>
  s_cons (s_set sc__law_state.nd rfl (Or.inl rfl) (e_disp (p_cons pe_str (e_tup (a_cons (e_non) (a_cons (e_non) (a_nil)))) (p_cons pe_str (e_tup (a_cons (e_non) (a_cons (e_int) (a_nil)))) (p_cons pe_str (e_tup (a_cons (e_non) (a_cons (e_str) (a_nil)))) (p_nil)))) rfl (by decide) (by decide)))
  (s_cons (s_kl (s_for (passes_of rfl) rfl (i_list (ev 0)) (g_tp rfl (gs_cons (g_nm sc__law_state.nd rfl (Or.inl rfl)) (gs_cons (g_nm sc__law_state.nd rfl (Or.inl rfl)) (gs_nil))))
  (s_klb (s_cons (s_set sc__law_state.nd rfl (Or.inl rfl) (e_tup (a_cons (e_cd (D__law_counts T) hr (takes_of rfl rfl rfl rfl) (a_cons (ev 5) (a_cons (ev 1) (a_nil)))) (a_cons (e_ix (ev 5) (e_int)) (a_cons (ev 4) (a_nil))))))
  (s_cons (s_set sc__law_state.nd rfl (Or.inl rfl) (e_ix (ev 5) (e_int)))
  (s_cons (s_set sc__law_state.nd rfl (Or.inl rfl) (e_ix (ev 5) (e_un op1_neg (e_int))))
  (s_cons (s_if (t_cmp (op2_in hr.units) (ev 7) (e_tup (a_cons (e_str) (a_cons (e_str) (a_cons (e_str) (a_cons (e_str) (a_nil)))))))
  (s_cons (s_set sc__law_state.nd rfl (Or.inl rfl) (e_tmp (e_dix (u1 hr.units) (e_disp (p_cons pe_str (e_str) (p_cons pe_str (e_str) (p_cons pe_str (e_str) (p_cons pe_str (e_str) (p_nil))))) rfl (by decide) (by decide)) (ev 7))))
  (s_one (s_set sc__law_state.nd rfl (Or.inl rfl) (e_str))))
  (s_nil))
  (s_one (s_kl (s_if (PW.pt (w_and (t_cmp op2_le (e_ix (ev 6) (e_int)) (ev 2)) (w_and1 (PW.pt (w_or (t_cmp op2_is (e_ix (e_dix (u1 hr.units) (ev 3) (ev 7)) (e_int)) (e_non)) (w_or1 (t_cmp (op2_lt hr.units0) (e_ix (e_dix (u1 hr.units) (ev 3) (ev 7)) (e_int)) (ev 6))))))))
  (s_one (s_dput (u1 hr.units) (e_tup (a_cons (ev 6) (a_cons (ev 8) (a_nil)))) (ev 3) (ev 7)))
  (s_nil)))))))))))
  (s_fz (s_one (s_ret (e_tup (a_cons (e_ix (e_dix (u1 hr.units) (ev 3) (e_str)) (e_int)) (a_cons (e_ix (e_dix (u1 hr.units) (ev 3) (e_str)) (e_int)) (a_cons (e_ix (e_dix (u1 hr.units) (ev 3) (e_str)) (e_int)) (a_nil)))))))))
theorem D__law_state (T : Tx fa fn tb K mg w) : DefOk P w K mg base (cAof K) "_law_state" 2 3 F_state_k41 :=
  T.defOk (ps := ["_law_known_here", "_law_begins_here", "_law_day_here"]) 45 71 rfl rfl rfl rfl rfl (fun _ _ _ _ _ _ us hl => match us, hl with | [_, _, _], _ => rfl) fun a fd F => O__law_state T F
theorem O__law_right (T : Tx fa fn tb K mg w) {a : Addr} {fd : FuncData} (F : FunD K d__law_right.name d__law_right.qual d__law_right.params d__law_right.body d__law_right.scope [] [] a fd) : FnOk P w K mg base (L2.CX P w) 3 a fd ["_law_found", "_law_known_here", "_law_begins_here", "_law_begin", "_law_end"] (spF K (cAof K) 5 F_right_k42) :=
  fn_ok F sc__law_right rfl rfl fun cdv A outer s H E hr =>
  s_cons (s_if (PW.pt (w_or (t_not (t_val (e_isi rfl (T.free 67) (ev 0) (pe_bltn rfl (T.free 65) bt_list rfl)))) (w_or1 (t_not (t_val (e_cd (D__law_lie_behind T) hr (takes_of rfl rfl rfl rfl) (a_cons (ev 0) (a_cons (ev 3) (a_cons (ev 4) (a_nil))))))))))
  (s_one (s_ret (e_bl)))
  (s_nil))
  (s_cons (s_kl (s_for (passes_of rfl) rfl (i_list (e_cd (D__law_days T) hr (takes_of rfl rfl rfl rfl) (a_cons (ev 1) (a_cons (ev 2) (a_cons (ev 3) (a_cons (ev 4) (a_nil))))))) (g_nm sc__law_right.nd rfl (Or.inr rfl))
  (s_klb (s_cons (s_set sc__law_right.nd rfl (Or.inl rfl) (e_ix (e_lcFp (own := [("_law_row", 7)]) (t := (.nm 7)) rfl sc__law_right.nd (i_listP (ev 0)) (show BlkOk N__law_right (defScope s__law_right) _ [("_law_row", 7)] from blkOk_by (by decide +kernel)) (fun s H C cl fp => c_nm sc__law_right.nd rfl (Or.inl rfl)) (fun s H C cl fp => ts_one (t_chain op2_le (op2_lt hr.units0) (e_ix (ev 7) (e_int)) (ev 5) (e_ix (ev 7) (e_int)))) (fun s H C cl fp => e_ix (ev 7) (e_int))) (e_int)))
  (s_one (s_kl (s_if (PW.pt (w_or (t_cmp (op2_ne hr.units) (ev 6) (e_cd (D__law_state T) hr (takes_of rfl rfl rfl rfl) (a_cons (ev 1) (a_cons (ev 2) (a_cons (ev 5) (a_nil)))))) (w_or1 (t_not (t_val (e_cd (D__law_whole T) hr (takes_of rfl rfl rfl rfl) (a_cons (e_ix (ev 6) (e_int)) (a_nil))))))))
  (s_one (s_ret (e_bl)))
  (s_nil))))))))
  (s_one (s_ret (e_bl))))
theorem D__law_right (T : Tx fa fn tb K mg w) : DefOk P w K mg base (cAof K) "_law_right" 3 5 F_right_k42 :=
  T.defOk (ps := ["_law_found", "_law_known_here", "_law_begins_here", "_law_begin", "_law_end"]) 46 72 rfl rfl rfl rfl rfl (fun _ _ _ _ _ _ us hl => match us, hl with | [_, _, _, _, _], _ => rfl) fun a fd F => O__law_right T F
theorem O_law (T : Tx fa fn tb K mg w) {a : Addr} {fd : FuncData} (F : FunD K d_law.name d_law.qual d_law.params d_law.body d_law.scope [] [] a fd) : FnOk P w K mg base (L2.CX P w) 11 a fd ["_law_script"] (spF K (cAof K) 1 F_law_k42) :=
  fn_ok F sc_law rfl rfl fun cdv A outer s H E hr =>
  s_cons (s_set sc_law.nd rfl (Or.inl rfl) (e_cd (D__law_account T) hr (takes_of rfl rfl rfl rfl) (a_cons (ev 0) (a_nil))))
  (s_cons (s_set sc_law.nd rfl (Or.inl rfl) (e_cd (D__law_begins T) hr (takes_of rfl rfl rfl rfl) (a_cons (e_ix (ev 1) (e_int)) (a_cons (e_ix (ev 1) (e_int)) (a_cons (e_int) (a_nil))))))
  (s_cons (s_set sc_law.nd rfl (Or.inl rfl) (e_cd (D__law_listed T) hr (takes_of rfl rfl rfl rfl) (a_cons (e_sl (ev 0) (o_at (e_int)) o_no) (a_cons (e_cd (D__law_cell_at T) hr (takes_of rfl rfl rfl rfl) (a_cons (ev 0) (a_cons (e_int) (a_nil)))) (a_cons (ev 2) (a_cons (e_lcF (own := [("_law_plan", 11)]) (t := (.nm 11)) rfl sc_law.nd (i_list (e_ix (ev 1) (e_int))) (show BlkOk N_law (defScope s_law) _ [("_law_plan", 11)] from blkOk_by (by decide +kernel)) (fun s H C cl fp => c_nm sc_law.nd rfl (Or.inl rfl)) (fun s H C cl fp => ts_nil) (fun s H C cl fp => e_ix (ev 11) (e_int))) (a_nil)))))))
  (s_cons (s_set sc_law.nd rfl (Or.inl rfl) (e_cd (D__law_known T) hr (takes_of rfl rfl rfl rfl) (a_cons (ev 3) (a_cons (e_ix (ev 2) (e_un op1_neg (e_int))) (a_nil)))))
  (s_cons (s_kl (s_for (passes_of rfl) rfl (i_r1 rfl (T.free 2) (e_int)) (g_nm sc_law.nd rfl (Or.inl rfl))
  (s_klb (s_cons (s_asg (e_cd (D__law_two T) hr (takes_of rfl rfl rfl rfl) (a_cons (ev 4) (a_cons (ev 2) (a_cons (e_cd (D__law_cell_at T) hr (takes_of rfl rfl rfl rfl) (a_cons (ev 0) (a_cons (e_op op2_add (e_int) (ev 5)) (a_nil)))) (a_cons (e_cd (D__law_cell_at T) hr (takes_of rfl rfl rfl rfl) (a_cons (ev 0) (a_cons (e_op op2_sub (e_int) (ev 5)) (a_nil)))) (a_nil)))))) (g_tp rfl (gs_cons (g_nm sc_law.nd rfl (Or.inl rfl)) (gs_cons (g_nm sc_law.nd rfl (Or.inl rfl)) (gs_nil)))))
  (s_cons (s_set sc_law.nd rfl (Or.inl rfl) (e_callTy b_listF rfl (T.free 65) bt_list (a_cons (ev 4) (a_nil))))
  (s_cons (s_set sc_law.nd rfl (Or.inl rfl) (e_cd (D_stretches T) hr (takes_of rfl rfl rfl rfl) (a_cons (ev 1) (a_cons (ev 8) (a_cons (ev 6) (a_cons (ev 7) (a_nil)))))))
  (s_cons (s_if (PW.pt (w_or (t_not (t_val (e_cd (D__law_right T) hr (takes_of rfl rfl rfl rfl) (a_cons (ev 9) (a_cons (ev 4) (a_cons (ev 2) (a_cons (ev 6) (a_cons (ev 7) (a_nil))))))))) (w_or1 (t_cmp (op2_ne hr.units) (ev 8) (ev 4)))))
  (s_one (s_ret (e_bl)))
  (s_nil))
  (s_cons (s_set sc_law.nd rfl (Or.inl rfl) (e_callTy b_listF rfl (T.free 65) bt_list (a_cons (ev 9) (a_nil))))
  (s_cons (s_expr (e_mL0 PySem.F.plainAttrs_list PySem.F.slot_list_clear PySem.F.type_list_clear mt_oClear (ev 9)))
  (s_one (s_kl (s_if (PW.pt (w_or (t_cmp (op2_ne hr.units) (e_cd (D_stretches T) hr (takes_of rfl rfl rfl rfl) (a_cons (ev 1) (a_cons (ev 8) (a_cons (ev 6) (a_cons (ev 7) (a_nil)))))) (ev 10)) (w_or1 (t_cmp (op2_ne hr.units) (e_cd (D_stretches T) hr (takes_of rfl rfl rfl rfl) (a_cons (ev 1) (a_cons (ev 8) (a_cons (ev 6) (a_cons (ev 6) (a_nil)))))) (e_lstF (a_nil))))))
  (s_one (s_ret (e_bl)))
  (s_nil)))))))))))))
  (s_one (s_ret (e_bl)))))))
end
end PV.K42

namespace PV.K42
open PySem PySem.W PySem.Calls PyProof.Rows L2 PV
abbrev Rw : OpenRow := OpenLaw.row PySem.Challenge.rw_paidspan_k42_stretches_day_by_day
abbrev qv : Program := view Rw.prog [60]
def names0 : List PySem.Str := ["SpanError", "NoDate", "NoSpan", "TooLong", "LAST_YEAR", "LAST_DAY", "LONG", "LENGTHS", "is_leap", "days_in", "days_ahead", "day_of", "date_of", "months_on", "SPANS", "Cycle", "Days", "Months", "cycle_of", "span_on", "WORDS", "STATES", "counts_from", "counted", "latest", "state_by", "stretches", "_law_cell_at", "_law_mixed", "_law_whole"]
def names1 : List PySem.Str := ["_law_starts", "_law_length", "_law_day", "_law_months_on", "_law_begins", "_law_first", "_law_cycle", "_law_words", "_law_plans", "_law_digits", "_law_any_plans", "_law_account", "_law_from", "_law_change", "_law_entries", "_law_any_change", "_law_any_entries", "_law_listed", "_law_known", "_law_counts", "_law_state", "_law_lie_behind", "_law_days", "_law_right", "_law_two"]
abbrev names : List PySem.Str := names0 ++ names1
abbrev hk : PySem.W.Hook := hookP 5 fa fn tb
def ob (s : PySem.W.SharedT) : AlP := obsPG 5 fa fn tb (HandSHeadRun.getT s)
theorem ob_eq (s : PySem.W.SharedT) : ob s = hk.obs s.abs := obsPG_eq (HandSHeadRun.getT_eq s)
theorem run1 (w : World) : HandSHeadRun.RunEq Rw qv hk ob 30000 names (w.withFollow "special-get-raises" false) := fun os => by kernel_rfl
theorem run2 (w : World) : HandSHeadRun.RunEq Rw qv hk ob 30000 names (w.withFollow "special-get-raises" true) := fun os => by kernel_rfl
theorem run (w : World) : HandSHeadRun.RunEq Rw qv hk ob 30000 names w := byRow2 "special-get-raises" (P := fun w => HandSHeadRun.RunEq Rw qv hk ob 30000 names w) run1 run2 w
end PV.K42

/-! Steps of the plain-data semantics, for simp; sizes; loops. -/
namespace PV
open PySem L2
@[simp] theorem pures_comp {α : Type} (f : α → D) (xs : List α) : pures (xs.map (Vl.p ∘ f)) = some (xs.map f) := pures_map' f xs
/-! ### steps -/
noncomputable def rg2 (i j : Int) (S : Sto) : R (List Vl) := if RgFits i j then .ok (rngV i j) S else .bad
/-! ### parts that simp doesn't look into until they are due -/
class Hid (α : Type) where
  v : α
def hbind {α β : Type} (r : R α) [k : Hid (α → Sto → R β)] : R β := r.bind k.v
def hofR (e : Env) (r : R Vl) [k : Hid (Vl → Sto → O)] : O := ofR e r k.v
def hofI (e : Env) (r : R (List Vl)) [k : Hid (List Vl → MS)] : O := match r with
  | .ok vs S1 => k.v vs e S1
  | .exc c n S1 => .ex c n e S1
  | .bad => .bad
def hthen (o : O) [k : Hid (Env → Sto → O)] : O := o.andThen k.v
def honO (u : Vl) [x : Hid O] [y : Hid O] : O := onO u x.v y.v
def honB (u : Vl) [x : Hid (R Vl)] [y : Hid (R Vl)] : R Vl := onB u x.v y.v
/-- one turn of a loop, then the rest -/
def hloop (o : O) [k : Hid MS] : O := match o with
  | .nx e2 S2 => k.v e2 S2
  | .ct e2 S2 => k.v e2 S2
  | .bk e2 S2 => .nx e2 S2
  | .rt w S2 => .rt w S2
  | .ex c n e2 S2 => .ex c n e2 S2
  | .bad => .bad
def hbE (r : R Env) [k : Hid (Env → Sto → O)] : O := match r with
  | .ok e S => k.v e S
  | _ => .bad
/-- what a try makes of its body's end -/
def htry (i : Nat) (sub : Nat → Option Bool) (o : O) [h : Hid MS] : O := match o with
  | .nx e1 S1 => .nx e1 S1
  | .rt v S1 => .rt v S1
  | .bk e1 S1 => .bk e1 S1
  | .ct e1 S1 => .ct e1 S1
  | .bad => .bad
  | .ex k n e1 S1 => (match sub k with
    | some true => (match h.v (e1.set i (some (.x k n))) S1 with
      | .nx e2 S2 => .nx (e2.set i none) S2
      | .rt v S2 => .rt v S2
      | .bk e2 S2 => .bk (e2.set i none) S2
      | .ct e2 S2 => .ct (e2.set i none) S2
      | _ => .bad)
    | some false => .ex k n e1 S1
    | none => .bad)
section
variable {α β : Type} (c : Prop) [Decidable c] (e : Env) (S : Sto) (b : Nat) (n : Option Int)
@[simp] theorem hbind_ok (a : α) (k : Hid (α → Sto → R β)) : hbind (.ok a S) (k := k) = k.v a S := id rfl
@[simp] theorem hbind_exc (k : Hid (α → Sto → R β)) : hbind (.exc b n S : R α) (k := k) = .exc b n S := id rfl
@[simp] theorem hbind_bad (k : Hid (α → Sto → R β)) : hbind (.bad : R α) (k := k) = .bad := id rfl
@[simp] theorem hbind_ite (x y : R α) (k : Hid (α → Sto → R β)) : hbind (if c then x else y) (k := k) = if c then hbind x (k := k) else hbind y (k := k) := by split <;> rfl
@[simp] theorem hofR_ok (a : Vl) (k : Hid (Vl → Sto → O)) : hofR e (.ok a S) (k := k) = k.v a S := id rfl
@[simp] theorem hofR_exc (k : Hid (Vl → Sto → O)) : hofR e (.exc b n S) (k := k) = .ex b n e S := id rfl
@[simp] theorem hofR_bad (k : Hid (Vl → Sto → O)) : hofR e .bad (k := k) = .bad := id rfl
@[simp] theorem hofR_ite (x y : R Vl) (k : Hid (Vl → Sto → O)) : hofR e (if c then x else y) (k := k) = if c then hofR e x (k := k) else hofR e y (k := k) := by split <;> rfl
@[simp] theorem hofI_ok (a : List Vl) (k : Hid (List Vl → MS)) : hofI e (.ok a S) (k := k) = k.v a e S := id rfl
@[simp] theorem hofI_exc (k : Hid (List Vl → MS)) : hofI e (.exc b n S) (k := k) = .ex b n e S := id rfl
@[simp] theorem hofI_bad (k : Hid (List Vl → MS)) : hofI e .bad (k := k) = .bad := id rfl
@[simp] theorem hofI_ite (x y : R (List Vl)) (k : Hid (List Vl → MS)) : hofI e (if c then x else y) (k := k) = if c then hofI e x (k := k) else hofI e y (k := k) := by split <;> rfl
@[simp] theorem hthen_nx (k : Hid (Env → Sto → O)) : hthen (.nx e S) (k := k) = k.v e S := id rfl
@[simp] theorem hthen_rt (v : Vl) (k : Hid (Env → Sto → O)) : hthen (.rt v S) (k := k) = .rt v S := id rfl
@[simp] theorem hthen_bk (k : Hid (Env → Sto → O)) : hthen (.bk e S) (k := k) = .bk e S := id rfl
@[simp] theorem hthen_ct (k : Hid (Env → Sto → O)) : hthen (.ct e S) (k := k) = .ct e S := id rfl
@[simp] theorem hthen_ex (k : Hid (Env → Sto → O)) : hthen (.ex b n e S) (k := k) = .ex b n e S := id rfl
@[simp] theorem hthen_bad (k : Hid (Env → Sto → O)) : hthen .bad (k := k) = .bad := id rfl
@[simp] theorem hthen_ite (x y : O) (k : Hid (Env → Sto → O)) : hthen (if c then x else y) (k := k) = if c then hthen x (k := k) else hthen y (k := k) := by split <;> rfl
@[simp] theorem hloop_nx (k : Hid MS) : hloop (.nx e S) (k := k) = k.v e S := id rfl
@[simp] theorem hloop_ct (k : Hid MS) : hloop (.ct e S) (k := k) = k.v e S := id rfl
@[simp] theorem hloop_bk (k : Hid MS) : hloop (.bk e S) (k := k) = .nx e S := id rfl
@[simp] theorem hloop_rt (v : Vl) (k : Hid MS) : hloop (.rt v S) (k := k) = .rt v S := id rfl
@[simp] theorem hloop_ex (k : Hid MS) : hloop (.ex b n e S) (k := k) = .ex b n e S := id rfl
@[simp] theorem hloop_bad (k : Hid MS) : hloop .bad (k := k) = .bad := id rfl
@[simp] theorem hloop_ite (x y : O) (k : Hid MS) : hloop (if c then x else y) (k := k) = if c then hloop x (k := k) else hloop y (k := k) := by split <;> rfl
@[simp] theorem hbE_ok (k : Hid (Env → Sto → O)) : hbE (.ok e S) (k := k) = k.v e S := id rfl
@[simp] theorem honO_true (x y : Hid O) : honO (.p (.bool true)) (x := x) (y := y) = x.v := id rfl
@[simp] theorem honO_false (x y : Hid O) : honO (.p (.bool false)) (x := x) (y := y) = y.v := id rfl
theorem honO_bool (b : Bool) (x y : Hid O) : honO (.p (.bool b)) (x := x) (y := y) = if b = true then x.v else y.v := by cases b <;> rfl
@[simp] theorem honO_decide (x y : Hid O) : honO (.p (.bool (decide c))) (x := x) (y := y) = if c then x.v else y.v := by
  by_cases h : c <;> simp [h]
@[simp] theorem honO_not (b : Bool) (x y : Hid O) : honO (.p (.bool (!b))) (x := x) (y := y) = honO (.p (.bool b)) (x := y) (y := x) := by cases b <;> rfl
@[simp] theorem honO_and (b b2 : Bool) (x y : Hid O) : honO (.p (.bool (b && b2))) (x := x) (y := y) = honO (.p (.bool b)) (x := ⟨honO (.p (.bool b2)) (x := x) (y := y)⟩) (y := y) := by cases b <;> rfl
@[simp] theorem honO_or (b b2 : Bool) (x y : Hid O) : honO (.p (.bool (b || b2))) (x := x) (y := y) = honO (.p (.bool b)) (x := x) (y := ⟨honO (.p (.bool b2)) (x := x) (y := y)⟩) := by cases b <;> rfl
@[simp] theorem honO_ite (u v : Vl) (x y : Hid O) : honO (if c then u else v) (x := x) (y := y) = if c then honO u (x := x) (y := y) else honO v (x := x) (y := y) := by split <;> rfl
@[simp] theorem honO_iteB (u v : Bool) (x y : Hid O) : honO (.p (.bool (if c then u else v))) (x := x) (y := y) = if c then honO (.p (.bool u)) (x := x) (y := y) else honO (.p (.bool v)) (x := x) (y := y) := by split <;> rfl
@[simp] theorem honB_true (x y : Hid (R Vl)) : honB (.p (.bool true)) (x := x) (y := y) = x.v := id rfl
@[simp] theorem honB_false (x y : Hid (R Vl)) : honB (.p (.bool false)) (x := x) (y := y) = y.v := id rfl
theorem honB_bool (b : Bool) (x y : Hid (R Vl)) : honB (.p (.bool b)) (x := x) (y := y) = if b = true then x.v else y.v := by cases b <;> rfl
@[simp] theorem honB_decide (x y : Hid (R Vl)) : honB (.p (.bool (decide c))) (x := x) (y := y) = if c then x.v else y.v := by
  by_cases h : c <;> simp [h]
@[simp] theorem honB_not (b : Bool) (x y : Hid (R Vl)) : honB (.p (.bool (!b))) (x := x) (y := y) = honB (.p (.bool b)) (x := y) (y := x) := by cases b <;> rfl
@[simp] theorem honB_and (b b2 : Bool) (x y : Hid (R Vl)) : honB (.p (.bool (b && b2))) (x := x) (y := y) = honB (.p (.bool b)) (x := ⟨honB (.p (.bool b2)) (x := x) (y := y)⟩) (y := y) := by cases b <;> rfl
@[simp] theorem honB_or (b b2 : Bool) (x y : Hid (R Vl)) : honB (.p (.bool (b || b2))) (x := x) (y := y) = honB (.p (.bool b)) (x := x) (y := ⟨honB (.p (.bool b2)) (x := x) (y := y)⟩) := by cases b <;> rfl
@[simp] theorem honB_ite (u v : Vl) (x y : Hid (R Vl)) : honB (if c then u else v) (x := x) (y := y) = if c then honB u (x := x) (y := y) else honB v (x := x) (y := y) := by split <;> rfl
@[simp] theorem honB_iteB (u v : Bool) (x y : Hid (R Vl)) : honB (.p (.bool (if c then u else v))) (x := x) (y := y) = if c then honB (.p (.bool u)) (x := x) (y := y) else honB (.p (.bool v)) (x := x) (y := y) := by split <;> rfl
variable (i : Nat) (sub : Nat → Option Bool) (h : Hid MS)
@[simp] theorem htry_nx : htry i sub (.nx e S) (h := h) = .nx e S := id rfl
@[simp] theorem htry_rt (v : Vl) : htry i sub (.rt v S) (h := h) = .rt v S := id rfl
@[simp] theorem htry_bk : htry i sub (.bk e S) (h := h) = .bk e S := id rfl
@[simp] theorem htry_ct : htry i sub (.ct e S) (h := h) = .ct e S := id rfl
@[simp] theorem htry_bad : htry i sub .bad (h := h) = .bad := id rfl
@[simp] theorem htry_ex : htry i sub (.ex b n e S) (h := h) = (match sub b with
    | some true => (match h.v (e.set i (some (.x b n))) S with
      | .nx e2 S2 => .nx (e2.set i none) S2
      | .rt v S2 => .rt v S2
      | .bk e2 S2 => .bk (e2.set i none) S2
      | .ct e2 S2 => .ct (e2.set i none) S2
      | _ => .bad)
    | some false => .ex b n e S
    | none => .bad) := id rfl
@[simp] theorem htry_ite (x y : O) : htry i sub (if c then x else y) (h := h) = if c then htry i sub x (h := h) else htry i sub y (h := h) := by split <;> rfl
end
@[simp] theorem kl_nx (ks : List Nat) (e : Env) (S : Sto) : (O.nx e S).kl ks = .nx (wipeE e ks) S := id rfl
@[simp] theorem kl_bk (ks : List Nat) (e : Env) (S : Sto) : (O.bk e S).kl ks = .bk (wipeE e ks) S := id rfl
@[simp] theorem kl_ct (ks : List Nat) (e : Env) (S : Sto) : (O.ct e S).kl ks = .ct (wipeE e ks) S := id rfl
@[simp] theorem kl_rt (ks : List Nat) (v : Vl) (S : Sto) : (O.rt v S).kl ks = .rt v S := id rfl
@[simp] theorem kl_ex (ks : List Nat) (c : Nat) (n : Option Int) (e : Env) (S : Sto) : (O.ex c n e S).kl ks = .ex c n e S := id rfl
@[simp] theorem kl_bad (ks : List Nat) : O.bad.kl ks = .bad := id rfl
section
variable {α β : Type}
/-! a choice -/
variable (c : Prop) [Decidable c]
@[simp] theorem ite_ok (a b : α) (S : Sto) : (if c then R.ok a S else R.ok b S) = R.ok (if c then a else b) S := by split <;> rfl
@[simp] theorem ite_nx (a b : Env) (S : Sto) : (if c then O.nx a S else O.nx b S) = O.nx (if c then a else b) S := by split <;> rfl
@[simp] theorem ite_rt (a b : Vl) (S : Sto) : (if c then O.rt a S else O.rt b S) = O.rt (if c then a else b) S := by split <;> rfl
@[simp] theorem ite_p (a b : D) : (if c then Vl.p a else Vl.p b) = Vl.p (if c then a else b) := by split <;> rfl
@[simp] theorem ite_int (a b : Int) : (if c then PyData.int a else PyData.int b) = PyData.int (if c then a else b) := by split <;> rfl
@[simp] theorem ite_bool (a b : Bool) : (if c then PyData.bool a else PyData.bool b) = PyData.bool (if c then a else b) := by split <;> rfl
@[simp] theorem ite_str (a b : Str) : (if c then PyData.str a else PyData.str b) = PyData.str (if c then a else b) := by split <;> rfl
@[simp] theorem ite_tup (a b : List D) : (if c then PyData.tuple a else PyData.tuple b) = PyData.tuple (if c then a else b) := by split <;> rfl
@[simp] theorem ite_lst (a b : List D) : (if c then PyData.list a else PyData.list b) = PyData.list (if c then a else b) := by split <;> rfl
@[simp] theorem ite_env (a b : Option Vl) (x y : Env) : (if c then a :: x else b :: y) = (if c then a else b) :: (if c then x else y) := by split <;> rfl
@[simp] theorem ite_consD (a b : D) (x y : List D) : (if c then a :: x else b :: y) = (if c then a else b) :: (if c then x else y) := by split <;> rfl
@[simp] theorem ite_someV (a b : Vl) : (if c then some a else some b) = some (if c then a else b) := by split <;> rfl
@[simp] theorem bind_ite (x y : R α) (f : α → Sto → R β) : (if c then x else y).bind f = if c then x.bind f else y.bind f := by split <;> rfl
@[simp] theorem ofR_ite (e : Env) (x y : R Vl) (k : Vl → Sto → O) : ofR e (if c then x else y) k = if c then ofR e x k else ofR e y k := by split <;> rfl
@[simp] theorem andThen_ite (x y : O) (k : Env → Sto → O) : (if c then x else y).andThen k = if c then x.andThen k else y.andThen k := by split <;> rfl
@[simp] theorem kl_ite (ks : List Nat) (x y : O) : (if c then x else y).kl ks = if c then x.kl ks else y.kl ks := by split <;> rfl
@[simp] theorem fin_ite (S0 : Sto) (x y : O) : fin S0 (if c then x else y) = if c then fin S0 x else fin S0 y := by split <;> rfl
@[simp] theorem finK_ite (x y : O) : finK (if c then x else y) = if c then finK x else finK y := by split <;> rfl
end
section
variable (e : Env) (S : Sto)
@[simp ↓] theorem mVar_ap (i : Nat) : mVar i e S = (match e[i]? with
  | some (some v) => .ok v S
  | _ => .bad) := id rfl
@[simp ↓] theorem mC_ap (d : D) : mC d e S = .ok (.p d) S := id rfl
@[simp ↓] theorem m1_ap (f : Vl → Sto → R Vl) (a : M) : m1 f a e S = hbind (a e S) (k := ⟨f⟩) := id rfl
@[simp ↓] theorem m2_ap (f : Vl → Vl → Sto → R Vl) (a b : M) : m2 f a b e S = hbind (a e S) (k := ⟨fun u S1 => hbind (b e S1) (k := ⟨fun v S2 => f u v S2⟩)⟩) := id rfl
@[simp ↓] theorem mArgs_nil : mArgs [] e S = .ok [] S := id rfl
@[simp ↓] theorem mArgs_cons (a : M) (as : List M) : mArgs (a :: as) e S = hbind (a e S) (k := ⟨fun v S1 => hbind (mArgs as e S1) (k := ⟨fun vs S2 => .ok (v :: vs) S2⟩)⟩) := id rfl
@[simp ↓] theorem mCall_ap (F : Fn) (as : List M) : mCall F as e S = hbind (mArgs as e S) (k := ⟨F⟩) := id rfl
@[simp ↓] theorem mAnd_ap (a b : M) : mAnd a b e S = hbind (a e S) (k := ⟨fun v S1 => honB v (x := ⟨b e S1⟩) (y := ⟨.ok (.p (.bool false)) S1⟩)⟩) := id rfl
@[simp ↓] theorem mOr_ap (a b : M) : mOr a b e S = hbind (a e S) (k := ⟨fun v S1 => honB v (x := ⟨.ok (.p (.bool true)) S1⟩) (y := ⟨b e S1⟩)⟩) := id rfl
@[simp ↓] theorem mFn_ap (k : Nat) : mFn k e S = .ok (.f k) S := id rfl
@[simp ↓] theorem mCallF_ap (i : Nat) (tab : List (Nat × Nat × Fn)) (as : List M) : mCallF i tab as e S = (match e[i]? with
  | some (some (.f k)) => (match tab.lookup k with
    | some (np, F) => if as.length = np then hbind (mArgs as e S) (k := ⟨F⟩) else .bad
    | none => .bad)
  | _ => .bad) := id rfl
@[simp ↓] theorem mNot_ap (a : M) : mNot a e S = hbind (a e S) (k := ⟨notV⟩) := id rfl
@[simp ↓] theorem mIf_ap (c a b : M) : mIf c a b e S = hbind (c e S) (k := ⟨fun v S1 => honB v (x := ⟨a e S1⟩) (y := ⟨b e S1⟩)⟩) := id rfl
@[simp ↓] theorem mChain_ap (f g : Vl → Vl → Sto → R Vl) (a b c : M) : mChain f g a b c e S = hbind (a e S) (k := ⟨fun u S1 => hbind (b e S1) (k := ⟨fun v S2 => hbind (f u v S2) (k := ⟨fun k S3 => honB k (x := ⟨hbind (c e S3) (k := ⟨fun w S4 => g v w S4⟩)⟩) (y := ⟨.ok (.p (.bool false)) S3⟩)⟩)⟩)⟩) := id rfl
@[simp ↓] theorem mTup_ap (as : List M) : mTup as e S = hbind (mArgs as e S) (k := ⟨fun vs S1 => if vs.length ≤ sizeLine then .ok (mkTup vs) S1 else .bad⟩) := id rfl
@[simp ↓] theorem mLstF_ap (as : List M) : mLstF as e S = hbind (mArgs as e S) (k := ⟨lstF⟩) := id rfl
@[simp ↓] theorem mLstM_ap (as : List M) : mLstM as e S = hbind (mArgs as e S) (k := ⟨lstM⟩) := id rfl
@[simp ↓] theorem mML_ap (op : Vl → List Vl → Sto → R Vl) (a : M) (as : List M) : mML op a as e S = hbind (a e S) (k := ⟨fun u S1 => match asL S1 u with
  | some _ => hbind (mArgs as e S1) (k := ⟨fun vs S2 => op u vs S2⟩)
  | none => .bad⟩) := id rfl
@[simp ↓] theorem mMS_ap (op : Vl → List Vl → Sto → R Vl) (a : M) (as : List M) : mMS op a as e S = hbind (a e S) (k := ⟨fun u S1 => match u with
  | .p (.str z) => hbind (mArgs as e S1) (k := ⟨fun vs S2 => op (.p (.str z)) vs S2⟩)
  | _ => .bad⟩) := id rfl
@[simp ↓] theorem oNo_ap : oNo e S = .ok none S := id rfl
@[simp ↓] theorem oAt_ap (a : M) : oAt a e S = hbind (a e S) (k := ⟨fun v S1 => match v with
  | .p (.int i) => .ok (some i) S1
  | _ => .bad⟩) := id rfl
@[simp ↓] theorem mSl_ap (a : M) (lo hi : Mo) : mSl a lo hi e S = hbind (a e S) (k := ⟨fun u S1 => hbind (lo e S1) (k := ⟨fun l S2 => hbind (hi e S2) (k := ⟨fun h S3 => slV u l h S3⟩)⟩)⟩) := id rfl
@[simp ↓] theorem sNop_ap : sNop e S = .nx e S := id rfl
@[simp ↓] theorem sSeq_ap (a b : MS) : sSeq a b e S = hthen (a e S) (k := ⟨b⟩) := id rfl
@[simp ↓] theorem sExpr_ap (a : M) : sExpr a e S = hofR e (a e S) (k := ⟨fun _ S1 => .nx e S1⟩) := id rfl
@[simp ↓] theorem sRet_ap (a : M) : sRet a e S = hofR e (a e S) (k := ⟨fun v S1 => .rt v S1⟩) := id rfl
@[simp ↓] theorem sRetN_ap : sRetN e S = .rt (.p .none) S := id rfl
@[simp ↓] theorem sIf_ap (c : M) (a b : MS) : sIf c a b e S = hofR e (c e S) (k := ⟨fun v S1 => honO v (x := ⟨a e S1⟩) (y := ⟨b e S1⟩)⟩) := id rfl
@[simp ↓] theorem gNm_ap (i : Nat) (v : Vl) : gNm i v e S = .ok (e.set i (some v)) S := id rfl
@[simp ↓] theorem gAll_nil : gAll [] [] e S = .ok e S := id rfl
@[simp ↓] theorem gAll_cons (g : G) (gs : List G) (v : Vl) (vs : List Vl) : gAll (g :: gs) (v :: vs) e S = hbind (g v e S) (k := ⟨fun e1 S1 => gAll gs vs e1 S1⟩) := id rfl
@[simp] theorem gTp_ap (gs : List G) (v : Vl) : gTp gs v e S = (match asT v with
  | some vs => if vs.length = gs.length then gAll gs vs e S else .bad
  | none => .bad) := id rfl
@[simp ↓] theorem sAsg_ap (g : G) (a : M) : sAsg g a e S = hofR e (a e S) (k := ⟨fun v S1 => ofG (g v e S1)⟩) := id rfl
@[simp ↓] theorem sAug_ap (i : Nat) (f : Vl → Vl → Sto → R Vl) (a : M) : sAug i f a e S = (match e[i]? with
  | some (some u) => hofR e (a e S) (k := ⟨fun v S1 => hofR e (f u v S1) (k := ⟨fun w S2 => .nx (e.set i (some w)) S2⟩)⟩)
  | _ => .bad) := id rfl
@[simp ↓] theorem sFz_ap (i : Nat) : sFz i e S = (match e[i]? with
  | some (some v) => hofR e (frzV v S) (k := ⟨fun w S1 => .nx (e.set i (some w)) S1⟩)
  | _ => .nx e S) := id rfl
@[simp ↓] theorem sBreak_ap : sBreak e S = .bk e S := id rfl
@[simp ↓] theorem sRaise_ap (c : Nat) : sRaise c e S = .ex c none e S := id rfl
@[simp ↓] theorem sFor_ap (g : G) (it : It) (b : MS) : sFor g it b e S = hofI e (it e S) (k := ⟨loopG g b⟩) := id rfl
@[simp ↓] theorem sEk_ap (ks : List Nat) (b : MS) : sEk ks b e S = b (wipeE e ks) S := id rfl
@[simp ↓] theorem sKl_ap (ks : List Nat) (b : MS) : sKl ks b e S = (b e S).kl ks := id rfl
@[simp] theorem loopG_nil (g : G) (b : MS) : loopG g b [] e S = .nx e S := id rfl
@[simp ↓] theorem itL_ap (a : M) : itL a e S = hbind (a e S) (k := ⟨fun v S1 => match v with
  | .p (.list ds) => .ok (ds.map .p) S1
  | _ => .bad⟩) := id rfl
@[simp ↓] theorem itT_ap (a : M) : itT a e S = hbind (a e S) (k := ⟨fun v S1 => match asT v with
  | some vs => .ok vs S1
  | none => .bad⟩) := id rfl
@[simp ↓] theorem itS_ap (a : M) : itS a e S = hbind (a e S) (k := ⟨fun v S1 => match v with
  | .p (.str z) => .ok (signs z) S1
  | _ => .bad⟩) := id rfl
@[simp ↓] theorem itR1_ap (a : M) : itR1 a e S = hbind (a e S) (k := ⟨fun v S1 => match v with
  | .p (.int j) => rg2 0 j S1
  | _ => .bad⟩) := id rfl
@[simp ↓] theorem itR2_ap (a b : M) : itR2 a b e S = hbind (a e S) (k := ⟨fun u S1 => hbind (b e S1) (k := ⟨fun v S2 => match u, v with
  | .p (.int i), .p (.int j) => rg2 i j S2
  | _, _ => .bad⟩)⟩) := id rfl
@[simp ↓] theorem itE_ap (a : M) : itE a e S = hbind (a e S) (k := ⟨fun v S1 => match v with
  | .p (.list ds) => .ok (enumV 0 ds) S1
  | _ => .bad⟩) := id rfl
@[simp ↓] theorem itZ_ap (a b : M) : itZ a b e S = hbind (a e S) (k := ⟨fun u S1 => hbind (b e S1) (k := ⟨fun v S2 => match u, v with
  | .p (.list ds), .p (.list xs) => .ok (zipV ds xs) S2
  | _, _ => .bad⟩)⟩) := id rfl
@[simp ↓] theorem sSub_ap (o i a : M) : sSub o i a e S = hofR e (a e S) (k := ⟨fun v S1 => hofR e (o e S1) (k := ⟨fun u S2 => hofR e (i e S2) (k := ⟨fun k S3 => hofR e (setV u k v S3) (k := ⟨fun _ S4 => .nx e S4⟩)⟩)⟩)⟩) := id rfl
@[simp ↓] theorem sPar_ap (i j : Nat) (a b : M) : sPar i j a b e S = hofR e (a e S) (k := ⟨fun u S1 => hofR e (b e S1) (k := ⟨fun v S2 => .nx ((e.set i (some u)).set j (some v)) S2⟩)⟩) := id rfl
end
@[simp] theorem loopG_cons (g : G) (b : MS) (v : Vl) (vs : List Vl) (e : Env) (S : Sto) : loopG g b (v :: vs) e S = hbE (g v e S) (k := ⟨fun e1 S1 => hloop (b e1 S1) (k := ⟨loopG g b vs⟩)⟩) := by
  rw [loopG]
  cases g v e S with
  | ok e1 S1 =>
    show _ = hloop (b e1 S1) (k := ⟨loopG g b vs⟩)
    dsimp only
    cases b e1 S1 <;> rfl
  | exc c n S1 => rfl
  | bad => rfl
@[simp] theorem ofG_nx (e : Env) (S : Sto) : ofG (.ok e S) = .nx e S := id rfl
/-! ### operators on ints -/
@[simp] theorem addV_int (i j : Int) (S : Sto) : addV (.p (.int i)) (.p (.int j)) S = .ok (.p (.int (i + j))) S := id rfl
@[simp] theorem addV_str (a b : Str) (S : Sto) : addV (.p (.str a)) (.p (.str b)) S = if a.length + b.length ≤ sizeLine then .ok (.p (.str (a ++ b))) S else .bad := id rfl
@[simp] theorem addV_list (a b : List D) (S : Sto) : addV (.p (.list a)) (.p (.list b)) S = lstF (a.map Vl.p ++ b.map Vl.p) S := id rfl
@[simp] theorem subV_int (i j : Int) (S : Sto) : subV (.p (.int i)) (.p (.int j)) S = .ok (.p (.int (i - j))) S := id rfl
theorem mulV_int (i j : Int) (S : Sto) : mulV (.p (.int i)) (.p (.int j)) S = if MulFits i j then .ok (.p (.int (i * j))) S else .bad := rfl
theorem fdivV_int (i j : Int) (S : Sto) : fdivV (.p (.int i)) (.p (.int j)) S = if DivFits j then .ok (.p (.int (i.fdiv j))) S else .bad := rfl
theorem modV_int (i j : Int) (S : Sto) : modV (.p (.int i)) (.p (.int j)) S = if j ≠ 0 then .ok (.p (.int (i.fmod j))) S else .bad := rfl
@[simp] theorem powV_int {i j : Int} (S : Sto) (h1 : 0 ≤ j) (h2 : j ≤ 1000000) (h3 : -9223372036854775808 < i) (h4 : i < 9223372036854775808) : powV (.p (.int i)) (.p (.int j)) S = .ok (.p (.int (i ^ j.toNat))) S :=
  if_pos (show PowFits i j from ⟨h1, h2, by omega⟩)
@[simp] theorem negV_int (i : Int) (S : Sto) : negV (.p (.int i)) S = .ok (.p (.int (-i))) S := id rfl
@[simp] theorem ltV_int (i j : Int) (S : Sto) : ltV (.p (.int i)) (.p (.int j)) S = .ok (.p (.bool (decide (i < j)))) S := id rfl
@[simp] theorem leV_int (i j : Int) (S : Sto) : leV (.p (.int i)) (.p (.int j)) S = .ok (.p (.bool (decide (i ≤ j)))) S := id rfl
@[simp] theorem gtV_int (i j : Int) (S : Sto) : gtV (.p (.int i)) (.p (.int j)) S = .ok (.p (.bool (decide (j < i)))) S := id rfl
@[simp] theorem geV_int (i j : Int) (S : Sto) : geV (.p (.int i)) (.p (.int j)) S = .ok (.p (.bool (decide (j ≤ i)))) S := id rfl
theorem eqv_int (i j : Int) : PyData.eqv (.int i) (.int j) = decide (i = j) := by
  by_cases h : i = j <;> simp [PyData.eqv, h]
@[simp] theorem eqV_int (i j : Int) (S : Sto) : eqV (.p (.int i)) (.p (.int j)) S = .ok (.p (.bool (decide (i = j)))) S := by
  simp [eqV, datL, shq, PyData.plain, PyData.depth, eqv_int]
@[simp] theorem neV_int (i j : Int) (S : Sto) : neV (.p (.int i)) (.p (.int j)) S = .ok (.p (.bool (!decide (i = j)))) S := by
  simp [neV, datL, shq, PyData.plain, PyData.depth, eqv_int]
theorem eqv_str (i j : Str) : PyData.eqv (.str i) (.str j) = decide (i = j) := by
  by_cases h : i = j <;> simp [PyData.eqv, h]
@[simp] theorem eqV_str (i j : Str) (S : Sto) : eqV (.p (.str i)) (.p (.str j)) S = .ok (.p (.bool (decide (i = j)))) S := by
  simp [eqV, datL, shq, PyData.plain, PyData.depth, eqv_str]
@[simp] theorem neV_str (i j : Str) (S : Sto) : neV (.p (.str i)) (.p (.str j)) S = .ok (.p (.bool (!decide (i = j)))) S := by
  simp [neV, datL, shq, PyData.plain, PyData.depth, eqv_str]
@[simp] theorem kit_II : kitB "int" "int" = some true := by decide +kernel
@[simp] theorem kit_IB : kitB "int" "bool" = some false := by decide +kernel
@[simp] theorem kit_IS : kitB "int" "str" = some false := by decide +kernel
@[simp] theorem kit_IT : kitB "int" "tuple" = some false := by decide +kernel
@[simp] theorem kit_IL : kitB "int" "list" = some false := by decide +kernel
@[simp] theorem kit_BI : kitB "bool" "int" = some true := by decide +kernel
@[simp] theorem kit_BB : kitB "bool" "bool" = some true := by decide +kernel
@[simp] theorem kit_SS : kitB "str" "str" = some true := by decide +kernel
@[simp] theorem kit_SI : kitB "str" "int" = some false := by decide +kernel
@[simp] theorem kit_NI : kitB "NoneType" "int" = some false := by decide +kernel
@[simp] theorem kit_NS : kitB "NoneType" "str" = some false := by decide +kernel
@[simp] theorem kit_TT : kitB "tuple" "tuple" = some true := by decide +kernel
@[simp] theorem kit_LL : kitB "list" "list" = some true := by decide +kernel
@[simp] theorem kit_TL : kitB "tuple" "list" = some false := by decide +kernel
@[simp] theorem kit_LT : kitB "list" "tuple" = some false := by decide +kernel
@[simp] theorem isiV_ap (T : String) (u : Vl) (S : Sto) : isiV T u S = (match tyN S u with
  | some a => (match kitB a T with
    | some b => .ok (.p (.bool b)) S
    | none => .bad)
  | none => .bad) := id rfl
@[simp] theorem tyN_none (S : Sto) : tyN S (.p .none) = some "NoneType" := id rfl
@[simp] theorem tyN_bool (S : Sto) (b : Bool) : tyN S (.p (.bool b)) = some "bool" := id rfl
@[simp] theorem tyN_int (S : Sto) (b : Int) : tyN S (.p (.int b)) = some "int" := id rfl
@[simp] theorem tyN_str (S : Sto) (b : Str) : tyN S (.p (.str b)) = some "str" := id rfl
@[simp] theorem tyN_list (S : Sto) (b : List D) : tyN S (.p (.list b)) = some "list" := id rfl
@[simp] theorem tyN_tup (S : Sto) (b : List D) : tyN S (.p (.tuple b)) = some "tuple" := id rfl
@[simp] theorem sz_line : sizeLine = 16777216 := by decide
@[simp] theorem lstF_ap (vs : List Vl) (S : Sto) : lstF vs S = if vs.length ≤ sizeLine then (match pures vs with
  | some ds => .ok (.p (.list ds)) S
  | none => .bad) else .bad := id rfl
theorem lstF_ps (ds : List D) (S : Sto) : lstF (ds.map Vl.p) S = if ds.length ≤ sizeLine then .ok (.p (.list ds)) S else .bad := by simp [lstF]
theorem lstF_ints (is : List Int) (S : Sto) (h : is.length ≤ sizeLine) : lstF (is.map fun i => Vl.p (.int i)) S = .ok (.p (.list (is.map .int))) S := by
  unfold lstF
  rw [pures_map', if_pos (by simpa using h)]
@[simp] theorem lstM_ap (vs : List Vl) (S : Sto) : lstM vs S = if vs.length ≤ sizeLine then .ok (.r S.length) (S ++ [.lst vs]) else .bad := id rfl
@[simp ↓] theorem fnOf_ap (np ns : Nat) (b : MS) (vs : List Vl) (S : Sto) : fnOf np ns b vs S = if vs.length = np then fin S (b (initE ns vs) S) else .bad := id rfl
@[simp] theorem entL_app (S : Sto) (xs : List Vl) : entL (S ++ [.lst xs]) S.length = some xs := by simp [entL]
@[simp] theorem set_app (S : Sto) (x y : Ent) : (S ++ [x]).set S.length y = S ++ [y] := by simp
theorem clean_nil (S : Sto) : Clean [] S := fun i h => by cases h
@[simp] theorem leave_nil (v : Vl) (S : Sto) (h : below 0 v = true) : leave [] v S = .ok v [] := by
  unfold leave
  rw [if_pos ⟨h, clean_nil S⟩, List.length_nil, List.take_zero]
@[simp] theorem lenV_list (ds : List D) (S : Sto) : lenV (.p (.list ds)) S = .ok (.p (.int ds.length)) S := by simp [lenV]
@[simp] theorem lenV_tup (ds : List D) (S : Sto) : lenV (.p (.tuple ds)) S = .ok (.p (.int ds.length)) S := by simp [lenV]
@[simp] theorem lenV_str (z : Str) (S : Sto) : lenV (.p (.str z)) S = if z.length ≤ sizeLine then .ok (.p (.int z.length)) S else .bad := id rfl
@[simp] theorem intsV_list (ns : List Int) (S : Sto) : intsV S (.p (.list (ns.map PyData.int))) = some ns := by simp [intsV]
@[simp] theorem minV_list (n : Int) (ns : List Int) (S : Sto) : minV (.p (.list (.int n :: ns.map PyData.int))) S = .ok (.p (.int (minOf n ns))) S := by
  have h := intsV_list (n :: ns) S
  rw [List.map_cons] at h
  unfold minV
  rw [h]
@[simp] theorem maxV_list (n : Int) (ns : List Int) (S : Sto) : maxV (.p (.list (.int n :: ns.map PyData.int))) S = .ok (.p (.int (maxOf n ns))) S := by
  have h := intsV_list (n :: ns) S
  rw [List.map_cons] at h
  unfold maxV
  rw [h]
@[simp] theorem sumV_list (n : Int) (ns : List Int) (S : Sto) : sumV (.p (.list (.int n :: ns.map PyData.int))) S = .ok (.p (.int (n + ns.sum))) S := by
  have h := intsV_list (n :: ns) S
  rw [List.map_cons] at h
  unfold sumV
  rw [h]
  simp
@[simp] theorem lstOfF_list (ds : List D) (S : Sto) : lstOfF (.p (.list ds)) S = lstF (ds.map Vl.p) S := by simp [lstOfF]
theorem pures_app : ∀ (xs ys : List Vl), pures (xs ++ ys) = (pures xs).bind fun a => (pures ys).map (a ++ ·)
  | [], ys => by cases h : pures ys <;> simp [h]
  | .p d :: xs, ys => by
    rw [List.cons_append, pures_cons, pures_cons, pures_app xs ys]
    cases pures xs <;> cases pures ys <;> rfl
  | .r _ :: _, _ => rfl
  | .t _ :: _, _ => rfl
  | .x _ _ :: _, _ => rfl
  | .f _ :: _, _ => rfl
  | .dc _ :: _, _ => rfl
/-! ### equality -/
/-- data of whole numbers, texts and None, in lists and tuples of some depth -/
def pln : Nat → D → Bool
  | _, .none => true
  | _, .int _ => true
  | _, .str _ => true
  | n + 1, .list xs => xs.all (pln n)
  | n + 1, .tuple xs => xs.all (pln n)
  | _, _ => false
@[simp] theorem pln_none (n : Nat) : pln n .none = true := by cases n <;> simp [pln]
@[simp] theorem pln_int (n : Nat) (i : Int) : pln n (.int i) = true := by cases n <;> simp [pln]
@[simp] theorem pln_str (n : Nat) (i : Str) : pln n (.str i) = true := by cases n <;> simp [pln]
@[simp] theorem pln_lst (n : Nat) (xs : List D) : pln (n + 1) (.list xs) = xs.all (pln n) := by simp [pln]
@[simp] theorem pln_tup (n : Nat) (xs : List D) : pln (n + 1) (.tuple xs) = xs.all (pln n) := by simp [pln]
theorem plainAll_of {n : Nat} (h : ∀ d, pln n d = true → d.plain = true ∧ d.depth ≤ n) : ∀ xs : List D, xs.all (pln n) = true → PyData.plainAll xs = true ∧ PyData.depthAll xs ≤ n
  | [], _ => by simp [PyData.plainAll, PyData.depthAll]
  | x :: xs, k => by
    rw [List.all_cons, Bool.and_eq_true] at k
    have h1 := h x k.1
    have h2 := plainAll_of h xs k.2
    simp only [PyData.plainAll, PyData.depthAll, h1.1, h2.1, Bool.and_self, true_and]
    omega
theorem plain_of : ∀ (n : Nat) (d : D), pln n d = true → d.plain = true ∧ d.depth ≤ n
  | _, .none, _ => by simp [PyData.plain, PyData.depth]
  | _, .int _, _ => by simp [PyData.plain, PyData.depth]
  | _, .str _, _ => by simp [PyData.plain, PyData.depth]
  | 0, .list xs, h => by simp [pln] at h
  | 0, .tuple xs, h => by simp [pln] at h
  | n + 1, .list xs, h => by
    have h1 := plainAll_of (plain_of n) xs (by simpa using h)
    simp only [PyData.plain, PyData.depth, h1.1, true_and]
    omega
  | n + 1, .tuple xs, h => by
    have h1 := plainAll_of (plain_of n) xs (by simpa using h)
    simp only [PyData.plain, PyData.depth, h1.1, true_and]
    omega
  | n, .bool _, h => by cases n <;> simp [pln] at h
  | n, .dict _, h => by cases n <;> simp [pln] at h
theorem shq_pln {n : Nat} {d : D} (h : pln n d = true) (hn : n ≤ 32) : shq d = true := by
  have := plain_of n d h
  unfold shq
  rw [this.1, decide_eq_true (by omega)] <;> rfl
theorem eqvAll_pln {n : Nat} (h : ∀ d e, pln n d = true → pln n e = true → (PyData.eqv d e = true ↔ d = e)) : ∀ xs ys : List D, xs.all (pln n) = true → ys.all (pln n) = true → (PyData.eqvAll xs ys = true ↔ xs = ys)
  | [], [], _, _ => by simp [PyData.eqvAll]
  | [], _ :: _, _, _ => by simp [PyData.eqvAll]
  | _ :: _, [], _, _ => by simp [PyData.eqvAll]
  | x :: xs, y :: ys, k, l => by
    rw [List.all_cons, Bool.and_eq_true] at k l
    rw [PyData.eqvAll, Bool.and_eq_true, h x y k.1 l.1, eqvAll_pln h xs ys k.2 l.2, List.cons.injEq]
theorem eqv_pln : ∀ (n : Nat) (d e : D), pln n d = true → pln n e = true → (PyData.eqv d e = true ↔ d = e)
  | n, .bool _, _, h, _ => by cases n <;> simp [pln] at h
  | n, .dict _, _, h, _ => by cases n <;> simp [pln] at h
  | n, _, .bool _, _, h => by cases n <;> simp [pln] at h
  | n, _, .dict _, _, h => by cases n <;> simp [pln] at h
  | 0, .list xs, _, h, _ => by simp [pln] at h
  | 0, .tuple xs, _, h, _ => by simp [pln] at h
  | 0, _, .list xs, _, h => by simp [pln] at h
  | 0, _, .tuple xs, _, h => by simp [pln] at h
  | n + 1, .list xs, .list ys, h, k => by
    rw [PyData.eqv, eqvAll_pln (eqv_pln n) xs ys (by simpa using h) (by simpa using k), PyData.list.injEq]
  | n + 1, .tuple xs, .tuple ys, h, k => by
    rw [PyData.eqv, eqvAll_pln (eqv_pln n) xs ys (by simpa using h) (by simpa using k), PyData.tuple.injEq]
  | _, .none, .none, _, _ => by simp [PyData.eqv]
  | _, .none, .int _, _, _ => by simp [PyData.eqv]
  | _, .none, .str _, _, _ => by simp [PyData.eqv]
  | _, .int _, .none, _, _ => by simp [PyData.eqv]
  | _, .int _, .int _, _, _ => by simp [PyData.eqv]
  | _, .int _, .str _, _, _ => by simp [PyData.eqv]
  | _, .str _, .none, _, _ => by simp [PyData.eqv]
  | _, .str _, .int _, _, _ => by simp [PyData.eqv]
  | _, .str _, .str _, _, _ => by simp [PyData.eqv]
  | n + 1, .list xs, .none, _, _ => by simp [PyData.eqv]
  | n + 1, .list xs, .int _, _, _ => by simp [PyData.eqv]
  | n + 1, .list xs, .str _, _, _ => by simp [PyData.eqv]
  | n + 1, .list xs, .tuple _, _, _ => by simp [PyData.eqv]
  | n + 1, .tuple xs, .none, _, _ => by simp [PyData.eqv]
  | n + 1, .tuple xs, .int _, _, _ => by simp [PyData.eqv]
  | n + 1, .tuple xs, .str _, _, _ => by simp [PyData.eqv]
  | n + 1, .tuple xs, .list _, _, _ => by simp [PyData.eqv]
  | n + 1, .none, .list _, _, _ => by simp [PyData.eqv]
  | n + 1, .none, .tuple _, _, _ => by simp [PyData.eqv]
  | n + 1, .int _, .list _, _, _ => by simp [PyData.eqv]
  | n + 1, .int _, .tuple _, _, _ => by simp [PyData.eqv]
  | n + 1, .str _, .list _, _, _ => by simp [PyData.eqv]
  | n + 1, .str _, .tuple _, _, _ => by simp [PyData.eqv]
open Classical in
noncomputable instance : DecidableEq D := fun a b => Classical.propDecidable (a = b)
theorem eqv_dec {n : Nat} {d e : D} (h : pln n d = true) (k : pln n e = true) : PyData.eqv d e = decide (d = e) := by
  rw [Bool.eq_iff_iff, eqv_pln n d e h k, decide_eq_true_iff]
@[simp] theorem eqV_pln {d e : D} (S : Sto) (h : pln 9 d = true) (k : pln 9 e = true) : eqV (.p d) (.p e) S = .ok (.p (.bool (decide (d = e)))) S := by
  unfold eqV datL
  simp only
  rw [if_pos (by rw [shq_pln h (by decide), shq_pln k (by decide)]; rfl), eqv_dec h k]
@[simp] theorem neV_pln {d e : D} (S : Sto) (h : pln 9 d = true) (k : pln 9 e = true) : neV (.p d) (.p e) S = .ok (.p (.bool (!decide (d = e)))) S := by
  unfold neV datL
  simp only
  rw [if_pos (by rw [shq_pln h (by decide), shq_pln k (by decide)]; rfl), eqv_dec h k]
theorem inV0_pln {n : Nat} {d : D} {ds : List D} (h : pln n d = true) (k : ds.all (pln n) = true) : inV0 d ds = decide (d ∈ ds) := by
  unfold inV0
  induction ds with
  | nil => simp
  | cons x xs ih =>
    rw [List.all_cons, Bool.and_eq_true] at k
    rw [List.any_cons, ih k.2, eqv_dec k.1 h, Bool.eq_iff_iff]
    simp only [Bool.or_eq_true, decide_eq_true_eq, List.mem_cons]
    constructor
    · rintro (z | z)
      · exact .inl z.symm
      · exact .inr z
    · rintro (z | z)
      · exact .inl z.symm
      · exact .inr z
theorem inV_dat (neg : Bool) {d : D} {v : Vl} {e : D} {ds : List D} (S : Sto) (h1 : datL S v = some e) (h2 : itsD e = some ds) (h : pln 8 d = true) (k : ds.all (pln 8) = true) (hd : ∀ z, d = .str z → ∀ y, v ≠ .p (.str y)) :
    inV neg (.p d) v S = .ok (.p (.bool (if neg then !decide (d ∈ ds) else decide (d ∈ ds)))) S := by
  have he : pln 9 e = true := by
    cases e with
    | list es =>
      cases (show some es = some ds from h2)
      simpa using k
    | tuple es =>
      cases (show some es = some ds from h2)
      simpa using k
    | _ => cases h2
  have hc : (shq d && shq e) = true := by rw [shq_pln h (by decide), shq_pln he (by decide)]; rfl
  have main : (match datL S v with
    | some e => (match itsD e with
      | some ds => if (shq d && shq e) = true then R.ok (Vl.p (.bool (if neg then !inV0 d ds else inV0 d ds))) S else .bad
      | none => R.bad)
    | none => R.bad) = R.ok (Vl.p (.bool (if neg then !decide (d ∈ ds) else decide (d ∈ ds)))) S := by
    rw [h1]
    simp only [h2, hc, if_true, inV0_pln h k]
  cases d with
  | str z =>
    cases v with
    | p y =>
      cases y with
      | str y => exact absurd rfl (hd z rfl y)
      | _ => exact main
    | _ => exact main
  | _ => cases v <;> exact main
@[simp] theorem inV_tup (neg : Bool) (d : D) (ds : List D) (S : Sto) (h : pln 8 d = true) (k : ds.all (pln 8) = true) : inV neg (.p d) (.p (.tuple ds)) S = .ok (.p (.bool (if neg then !decide (d ∈ ds) else decide (d ∈ ds)))) S :=
  inV_dat neg S rfl rfl h k fun _ _ _ z => by cases z
@[simp] theorem inV_list (neg : Bool) (d : D) (ds : List D) (S : Sto) (h : pln 8 d = true) (k : ds.all (pln 8) = true) : inV neg (.p d) (.p (.list ds)) S = .ok (.p (.bool (if neg then !decide (d ∈ ds) else decide (d ∈ ds)))) S :=
  inV_dat neg S rfl rfl h k fun _ _ _ z => by cases z
@[simp] theorem ofString_inj {a b : String} : (Str.ofString a = Str.ofString b) ↔ a = b := by
  rw [Str.ofString_eq_toList, Str.ofString_eq_toList, Str.mk.injEq]
  constructor
  · intro h
    have h1 : a.toList.map Char.toNat = b.toList.map Char.toNat := by
      have := congrArg Array.toList h
      simpa using this
    have h2 : a.toList = b.toList := by
      refine List.map_inj_right (fun x y q => ?_) |>.mp h1
      exact Char.toNat_inj.mp q
    exact String.toList_inj.mp h2
  · rintro rfl
    rfl
/-! ### sizes -/
/-- below 2 ^ k -/
def Sm (k : Nat) (i : Int) : Prop := i.natAbs < 2 ^ k
theorem Sm.up {j k : Nat} {i : Int} (h : Sm j i) (l : j ≤ k) : Sm k i := Nat.lt_of_lt_of_le h (Nat.pow_le_pow_right (by decide) l)
theorem Sm.log {k : Nat} {i : Int} (h : Sm k i) : i.natAbs.log2 ≤ k := by
  by_cases z : i.natAbs = 0
  · rw [z]
    exact Nat.zero_le _
  · exact Nat.le_of_lt ((Nat.log2_lt z).mpr h)
theorem mulFits_sm {a b : Nat} {i j : Int} (hi : Sm a i) (hj : Sm b j) (h : a + b < 100000000 := by decide) : MulFits i j := Nat.lt_of_le_of_lt (Nat.add_le_add hi.log hj.log) h
theorem divFits_sm {a : Nat} {j : Int} (hj : Sm a j) (h0 : j ≠ 0) (h : a < 9000 := by decide) : DivFits j := ⟨h0, Nat.lt_of_le_of_lt hj.log h⟩
theorem Sm.mul {a b : Nat} {i j : Int} (hi : Sm a i) (hj : Sm b j) : Sm (a + b) (i * j) := by
  unfold Sm at *
  rw [Int.natAbs_mul, Nat.pow_add]
  exact Nat.mul_lt_mul'' hi hj
theorem Sm.add {a b k : Nat} {i j : Int} (hi : Sm a i) (hj : Sm b j) (ha : a < k := by decide) (hb : b < k := by decide) : Sm k (i + j) := by
  unfold Sm at *
  have h1 := Nat.pow_le_pow_right (n := 2) (by decide) (show a ≤ k - 1 by omega)
  have h2 := Nat.pow_le_pow_right (n := 2) (by decide) (show b ≤ k - 1 by omega)
  have h3 : 2 ^ k = 2 * 2 ^ (k - 1) := by rw [← Nat.pow_succ']; congr 1; omega
  have h4 := Int.natAbs_add_le i j
  omega
theorem Sm.neg {a : Nat} {i : Int} (hi : Sm a i) : Sm a (-i) := by
  unfold Sm at *
  rwa [Int.natAbs_neg]
theorem Sm.sub {a b k : Nat} {i j : Int} (hi : Sm a i) (hj : Sm b j) (ha : a < k := by decide) (hb : b < k := by decide) : Sm k (i - j) := by
  rw [Int.sub_eq_add_neg]
  exact hi.add hj.neg ha hb
theorem Sm.of_le {a : Nat} {i j : Int} (hj : Sm a j) (h0 : 0 ≤ i) (h : i ≤ j) : Sm a i := by
  unfold Sm at *
  omega
theorem Sm.of_lt {a : Nat} {i : Int} (j : Int) (h0 : 0 ≤ i) (h : i < j) (hj : Sm a j) : Sm a i := hj.of_le h0 (Int.le_of_lt h)
theorem Sm.ediv {a : Nat} {i j : Int} (hi : Sm a i) : Sm a (i / j) := Nat.lt_of_le_of_lt (by
  rcases Int.natAbs_eq j with h | h
  · rw [h]
    rcases Nat.eq_zero_or_pos j.natAbs with z | z
    · rw [z]; simp
    · have h1 := Int.natAbs_ediv_le_natAbs i (j.natAbs : Int)
      exact h1
  · exact Int.natAbs_ediv_le_natAbs i j) hi
theorem bits_sm {z : Int} (h : Builtin.Int.intBits z ≤ 1048576) : Sm 1048576 z := by
  unfold Builtin.Int.intBits at h
  unfold Sm
  split at h
  · rename_i q
    have q' : z = 0 := by simpa using q
    rw [q']
    exact Nat.pow_pos (by decide)
  · rename_i q
    have q' : z.natAbs ≠ 0 := by
      intro w
      apply q
      simpa using w
    exact (Nat.log2_lt q').mp (by omega)
@[simp] theorem fdivV_pos (i : Int) {j : Int} (S : Sto) (h : 0 < j) (h2 : j < 2 ^ 200) : fdivV (.p (.int i)) (.p (.int j)) S = .ok (.p (.int (i / j))) S := by
  have h3 : DivFits j := divFits_sm (a := 200) (by unfold Sm; omega) (by omega)
  rw [fdivV_int, if_pos h3, Int.fdiv_eq_ediv_of_nonneg _ (Int.le_of_lt h)]
@[simp] theorem modV_pos (i : Int) {j : Int} (S : Sto) (h : 0 < j) : modV (.p (.int i)) (.p (.int j)) S = .ok (.p (.int (i % j))) S := by
  rw [modV_int, if_pos (by omega), Int.fmod_eq_emod_of_nonneg _ (Int.le_of_lt h)]
/-! ### sizes found by instances -/
class Bd (i : Int) (n : outParam Nat) : Prop where
  h : Sm n i
theorem bd_up {a k : Nat} {i : Int} (h : Sm a i) (l : a ≤ k := by omega) : Sm k i := h.up l
instance Bd.add {i j : Int} {a b : Nat} [x : Bd i a] [y : Bd j b] : Bd (i + j) (a + b + 1) := ⟨Sm.add x.h y.h (by omega) (by omega)⟩
instance Bd.sub {i j : Int} {a b : Nat} [x : Bd i a] [y : Bd j b] : Bd (i - j) (a + b + 1) := ⟨Sm.sub x.h y.h (by omega) (by omega)⟩
instance Bd.neg {i : Int} {a : Nat} [x : Bd i a] : Bd (-i) a := ⟨Sm.neg x.h⟩
instance Bd.mul {i j : Int} {a b : Nat} [x : Bd i a] [y : Bd j b] : Bd (i * j) (a + b) := ⟨Sm.mul x.h y.h⟩
instance Bd.div {i j : Int} {a : Nat} [x : Bd i a] : Bd (i / j) a := ⟨Sm.ediv x.h⟩
theorem sm_lit (c : Nat) : Sm (c.log2 + 1) (c : Int) := by
  unfold Sm
  rw [Int.natAbs_natCast]
  by_cases h : c = 0
  · rw [h]; decide
  · exact (Nat.log2_lt h).mp (Nat.lt_succ_self _)
def lgS (c : Nat) : Nat := if c < 1099511627776 then 40 else if c < 1606938044258990275541962092341162602522202993782792835301376 then 200 else c.log2 + 1
@[simp high] theorem lgS_zero : lgS 0 = 40 := by decide
@[simp] theorem lgS_eq (c : Nat) : lgS c = if c < 1099511627776 then 40 else if c < 1606938044258990275541962092341162602522202993782792835301376 then 200 else c.log2 + 1 := id rfl
theorem sm_lgS (c : Nat) : Sm (lgS c) (c : Int) := by
  unfold lgS
  split
  · unfold Sm
    rw [Int.natAbs_natCast]
    exact Nat.lt_of_lt_of_eq (by assumption) (by decide)
  · split
    · unfold Sm
      rw [Int.natAbs_natCast]
      exact Nat.lt_of_lt_of_eq (by assumption) (by decide)
    · exact sm_lit c
instance Bd.lit {c : Nat} : Bd (no_index (OfNat.ofNat c)) (lgS c) := ⟨sm_lgS c⟩
instance Bd.mod {i : Int} {c : Nat} [NeZero c] : Bd (i % (no_index (OfNat.ofNat c))) (lgS c) := ⟨by
  have h0 : (0 : Int) < (c : Int) := Int.natCast_pos.mpr (Nat.pos_of_ne_zero (NeZero.ne c))
  have h1 := Int.emod_nonneg i (Int.ne_of_gt h0)
  have h2 := Int.emod_lt_of_pos i h0
  exact (sm_lgS c).of_le h1 (Int.le_of_lt h2)⟩
instance Bd.ite {c : Prop} [Decidable c] {i j : Int} {a b : Nat} [x : Bd i a] [y : Bd j b] : Bd (if c then i else j) (a + b) := ⟨by
  split
  · exact x.h.up (Nat.le_add_right a b)
  · exact y.h.up (Nat.le_add_left b a)⟩
theorem mulFits_bd {i j : Int} {a b : Nat} [x : Bd i a] [y : Bd j b] (h : a + b < 100000000) : MulFits i j ↔ True := iff_true_intro (mulFits_sm x.h y.h h)
@[simp] theorem mulV_bd {i j : Int} {a b : Nat} (S : Sto) [x : Bd i a] [y : Bd j b] (h : a + b < 100000000) : mulV (.p (.int i)) (.p (.int j)) S = .ok (.p (.int (i * j))) S := by
  rw [mulV_int]
  exact if_pos (mulFits_sm x.h y.h h)
theorem mulV_fit {i j : Int} (S : Sto) (h : MulFits i j) : mulV (.p (.int i)) (.p (.int j)) S = .ok (.p (.int (i * j))) S := by
  rw [mulV_int]
  exact if_pos h
/-! ### exceptions, built-in functions -/
@[simp ↓] theorem sTry_ap (i : Nat) (sub : Nat → Option Bool) (b h : MS) (e : Env) (S : Sto) : sTry i sub b h e S = htry i sub (b e S) (h := ⟨h⟩) := by
  unfold sTry htry
  cases b e S <;> rfl
@[simp] theorem isxV_x (sub : Nat → Option Bool) (k : Nat) (n : Option Int) (S : Sto) : isxV sub (.x k n) S = (match sub k with
    | some b => .ok (.p (.bool b)) S
    | none => .bad) := id rfl
@[simp] theorem lookup_c {β : Type} (k j : Nat) (v : β) (l : List (Nat × β)) : List.lookup k ((j, v) :: l) = if k = j then some v else l.lookup k := by
  by_cases h : k = j
  · subst h
    rw [List.lookup_cons_self, if_pos rfl]
  · rw [List.lookup_cons, beq_false_of_ne h, if_neg h]
@[simp] theorem lk_ap (l : List (Nat × Bool)) (k : Nat) : lk l k = l.lookup k := id rfl
@[simp] theorem isV_ap (neg : Bool) (u : Vl) (S : Sto) : isV neg u (.p .none) S = .ok (.p (.bool (if neg then !isNone u else isNone u))) S := id rfl
@[simp] theorem intV_bool (b : Bool) (S : Sto) : intV (.p (.bool b)) S = .ok (.p (.int (if b then 1 else 0))) S := id rfl
@[simp] theorem intV_int (b : Int) (S : Sto) : intV (.p (.int b)) S = .ok (.p (.int b)) S := id rfl
@[simp] theorem absV_int (i : Int) (S : Sto) : absV (.p (.int i)) S = .ok (.p (.int (if i < 0 then -i else i))) S := id rfl
@[simp] theorem min2V_int (i j : Int) (S : Sto) : min2V (.p (.int i)) (.p (.int j)) S = .ok (.p (.int (if j < i then j else i))) S := id rfl
@[simp] theorem max2V_int (i j : Int) (S : Sto) : max2V (.p (.int i)) (.p (.int j)) S = .ok (.p (.int (if j > i then j else i))) S := id rfl
/-! ### items, slices, lists -/
@[simp] theorem ixV_list (ds : List D) (i : Int) (S : Sto) : ixV (.p (.list ds)) (.p (.int i)) S = (match atI (ds.map Vl.p) i with
  | some v => .ok v S
  | none => .bad) := id rfl
@[simp] theorem ixV_tup (ds : List D) (i : Int) (S : Sto) : ixV (.p (.tuple ds)) (.p (.int i)) S = (match atI (ds.map Vl.p) i with
  | some v => .ok v S
  | none => .bad) := id rfl
@[simp] theorem ixV_r (k : Nat) (i : Int) (S : Sto) : ixV (.r k) (.p (.int i)) S = (match entL S k with
  | some vs => (match atI vs i with
    | some v => .ok v S
    | none => .bad)
  | none => .bad) := by
  show (match asQ S (.r k) with
    | some vs => (match atI vs i with
      | some v => R.ok v S
      | none => .bad)
    | none => .bad) = _
  unfold asQ
  rw [asL_r]
  cases entL S k <;> rfl
theorem atI_nat {α : Type} (xs : List α) (n : Nat) : atI xs (n : Int) = xs[n]? := by
  unfold atI ixN
  rw [if_pos (by omega)]
  by_cases h : n < xs.length
  · rw [if_pos (by omega)]; rfl
  · rw [if_neg (by omega), List.getElem?_eq_none (by omega)]; rfl
theorem atI_pos {α : Type} (xs : List α) {i : Int} (h : 0 ≤ i) : atI xs i = xs[i.toNat]? := by
  rw [← atI_nat, Int.toNat_of_nonneg h]
@[simp] theorem atI_0 {α : Type} (x : α) (xs : List α) : atI (x :: xs) 0 = some x := by rw [atI_pos _ (by decide)] <;> rfl
@[simp] theorem atI_ofNat {α : Type} (xs : List α) (n : Nat) : atI xs (no_index (OfNat.ofNat n)) = xs[n]? := atI_nat xs n
@[simp] theorem atI_m1 {α : Type} (xs : List α) : atI xs (-1) = xs.getLast? := by
  unfold atI ixN
  rw [if_neg (by decide), List.getLast?_eq_getElem?]
  by_cases h : xs.length = 0
  · rw [if_neg (by omega), List.getElem?_eq_none (by omega)]
    rfl
  · rw [if_pos (by omega), Option.bind_some, show (-1 + (xs.length : Int)).toNat = xs.length - 1 by omega]
@[simp] theorem slV_list (ds : List D) (lo hi : Option Int) (S : Sto) : slV (.p (.list ds)) lo hi S = if (cutL ds lo hi).length ≤ sizeLine then .ok (.p (.list (cutL ds lo hi))) S else .bad := by
  have e : cutL (ds.map Vl.p) lo hi = (cutL ds lo hi).map Vl.p := by
    unfold cutL
    simp
  unfold slV
  simp only [asL_list, e]
  rw [lstF_ps]
@[simp high] theorem cutL_map {α β : Type} (f : α → β) (xs : List α) (lo hi : Option Int) : cutL (xs.map f) lo hi = (cutL xs lo hi).map f := by
  unfold cutL
  simp
@[simp] theorem comp_p {α : Type} (f : α → D) : Vl.p ∘ f = fun x => Vl.p (f x) := id rfl
theorem cutL_to {α : Type} (xs : List α) (n : Nat) : cutL xs none (some (n : Int)) = xs.take n := by
  unfold cutL
  rw [HT.sIx_none, HT.sIx_nat, List.drop_zero, Nat.sub_zero]
  by_cases h : n ≤ xs.length
  · rw [Nat.min_eq_left h]
  · rw [Nat.min_eq_right (by omega), List.take_length, List.take_of_length_le (by omega)]
@[simp] theorem cutL_ofNat {α : Type} (xs : List α) (n : Nat) : cutL xs none (some (no_index (OfNat.ofNat n))) = xs.take n := cutL_to xs n
theorem cutL_from {α : Type} (xs : List α) (n : Nat) : cutL xs (some (n : Int)) none = xs.drop n := by
  unfold cutL
  rw [HT.sIx_none, HT.sIx_nat]
  by_cases h : n ≤ xs.length
  · rw [Nat.min_eq_left h, List.take_of_length_le (by simp)]
  · rw [Nat.min_eq_right (by omega), List.drop_eq_nil_of_le (Nat.le_refl _), List.drop_eq_nil_of_le (by omega)]
    simp
@[simp] theorem cutL_ofNat2 {α : Type} (xs : List α) (n : Nat) : cutL xs (some (no_index (OfNat.ofNat n))) none = xs.drop n := cutL_from xs n
theorem cutL_toI {α : Type} (xs : List α) {i : Int} (h : 0 ≤ i) : cutL xs none (some i) = xs.take i.toNat := by rw [← cutL_to, Int.toNat_of_nonneg h]
theorem cutL_fromI {α : Type} (xs : List α) {i : Int} (h : 0 ≤ i) : cutL xs (some i) none = xs.drop i.toNat := by rw [← cutL_from, Int.toNat_of_nonneg h]
@[simp] theorem cutL_init {α : Type} (xs : List α) : cutL xs none (some (-1)) = xs.dropLast := by
  unfold cutL
  rw [HT.sIx_none, List.drop_zero, Nat.sub_zero, List.dropLast_eq_take]
  have e : HT.sIx xs.length xs.length (some (-1)) = (-1 + (xs.length : Int)).toNat := id rfl
  rw [e, show (-1 + (xs.length : Int)).toNat = xs.length - 1 by omega]
@[simp] theorem zipV_cons (d x : D) (r y : List D) : zipV (d :: r) (x :: y) = .p (.tuple [d, x]) :: zipV r y := id rfl
@[simp] theorem zipV_nil (y : List D) : zipV [] y = [] := id rfl
@[simp] theorem zipV_nil2 (y : List D) : zipV y [] = [] := by cases y <;> rfl
@[simp] theorem oApp_ap (u v : Vl) (S : Sto) : oApp u [v] S = appV u v S := id rfl
@[simp] theorem appV_r (i : Nat) (v : Vl) (S : Sto) : appV (.r i) v S = (match entL S i with
    | some vs => if vs.length < sizeLine then .ok (.p .none) (S.set i (.lst (vs ++ [v]))) else .bad
    | none => .bad) := id rfl
@[simp] theorem sumV_ints (is : List Int) (S : Sto) : sumV (.p (.list (is.map PyData.int))) S = .ok (.p (.int is.sum)) S := by simp [sumV, intsV]
@[simp] theorem frzV_r (i : Nat) (S : Sto) : frzV (.r i) S = (match entL S i with
    | some vs => (match pures vs with
      | some ds => .ok (.p (.list ds)) (S.set i .dead)
      | none => .bad)
    | none => frzD i S) := id rfl
theorem atI_mem {α : Type} {xs : List α} {i : Int} (P : α → Prop) (h0 : 0 ≤ i) (h : i < xs.length) (hp : ∀ x ∈ xs, P x) : ∃ x, atI xs i = some x ∧ P x := by
  rw [atI_pos _ h0, List.getElem?_eq_getElem (show i.toNat < xs.length by omega)]
  exact ⟨_, rfl, hp _ (List.getElem_mem _)⟩
theorem rgFits_nat {m : Nat} (h : m ≤ 1000000) : RgFits 0 (m : Int) :=
  ⟨by decide, by decide, Int.le_trans (by decide) (Int.natCast_nonneg m), Int.lt_of_le_of_lt (Int.ofNat_le.mpr h) (by decide)⟩
theorem rgFits_int {i : Int} (h0 : 0 ≤ i) (h : i ≤ 1000000) : RgFits 0 i := by
  obtain ⟨n, rfl⟩ := Int.eq_ofNat_of_zero_le h0
  exact rgFits_nat (Int.ofNat_le.mp h)
theorem rgFits_two {i j : Int} (h0 : 0 ≤ i) (h : i ≤ 1000000) (h2 : 0 ≤ j) (h3 : j ≤ 1000000) : RgFits i j :=
  ⟨(rgFits_int h0 h).2.2.1, (rgFits_int h0 h).2.2.2, (rgFits_int h2 h3).2.2.1, (rgFits_int h2 h3).2.2.2⟩
@[simp] theorem rgFits_3 : RgFits 0 3 := rgFits_nat (m := 3) (by decide)
theorem pick (is : List Int) (i lo hi : Int) (h0 : 0 ≤ i) (h : i < is.length) (hp : ∀ x ∈ is, lo ≤ x ∧ x < hi) : ∃ q : Int, atI (is.map fun x => Vl.p (.int x)) i = some (.p (.int q)) ∧ lo ≤ q ∧ q < hi := by
  rw [atI_pos _ h0, List.getElem?_map, List.getElem?_eq_getElem (show i.toNat < is.length by omega)]
  exact ⟨_, rfl, hp _ (List.getElem_mem _)⟩
theorem rng3 : rngV 0 3 = [.p (.int 0), .p (.int 1), .p (.int 2)] := rfl
theorem len7 {e : Env} (h : e.length = 7) : ∃ a b c d f g i, e = [a, b, c, d, f, g, i] := by
  match e, h with
  | [a, b, c, d, f, g, i], _ => exact ⟨a, b, c, d, f, g, i, rfl⟩
/-! ### comprehensions -/
theorem lcG_list {α : Type} {g : G} {a : M} {e : Env} {S : Sto} (mkv f : α → Vl) : ∀ (xs : List α), (∀ x ∈ xs, ∃ e1, g (mkv x) e S = .ok e1 S ∧ a e1 S = .ok (f x) S) → lcG g mYes a (xs.map mkv) e S = .ok (xs.map f) S
  | [], _ => rfl
  | x :: xs, h => by
    obtain ⟨e1, h1, h2⟩ := h x List.mem_cons_self
    have ih := lcG_list mkv f xs fun y hy => h y (List.mem_cons_of_mem _ hy)
    rw [List.map_cons, lcG, h1]
    show (match mYes e1 S with
      | .ok (.p (.bool true)) S2 => (match a e1 S2 with
        | .ok w S3 => (match lcG g mYes a (xs.map mkv) e S3 with
          | .ok ws S4 => R.ok (w :: ws) S4
          | _ => .bad)
        | _ => .bad)
      | .ok (.p (.bool false)) S2 => lcG g mYes a (xs.map mkv) e S2
      | _ => .bad) = _
    have e2 : mYes e1 S = .ok (.p (.bool true)) S := rfl
    simp only [e2, h2, ih, List.map_cons]
@[simp] theorem wipeE_nil (e : Env) : wipeE e [] = e := id rfl
@[simp] theorem wipeE_cons (e : Env) (v : Nat) (vs : List Nat) : wipeE e (v :: vs) = (wipeE e vs).set v none := id rfl
theorem mLc_ap (own : List Nat) (g : G) (it : It) (c a : M) (mk : List Vl → Sto → R Vl) (e : Env) (S : Sto) : mLc own g it c a mk e S = (it e S).bind fun vs S1 => match lcG g c a vs (wipeE e own) S1 with
  | .ok ws S2 => mk ws S2
  | _ => .bad := rfl
theorem rng0 (n : Nat) : rngV 0 (n : Int) = (List.range n).map fun (k : Nat) => Vl.p (.int (k : Int)) := by
  unfold rngV
  simp
theorem rng0I {i : Int} (h : 0 ≤ i) : rngV 0 i = (List.range i.toNat).map fun (k : Nat) => Vl.p (.int (k : Int)) := by
  rw [← rng0, Int.toNat_of_nonneg h]
theorem itR1_nat {a : M} {e : Env} {S S1 : Sto} {m : Nat} (ha : a e S = .ok (.p (.int (m : Int))) S1) (h : m ≤ 1000000) : itR1 a e S = .ok ((List.range m).map fun (k : Nat) => Vl.p (.int (k : Int))) S1 := by
  have h1 : RgFits 0 (m : Int) := rgFits_nat h
  rw [itR1_ap, ha, hbind_ok]
  show rg2 0 (m : Int) S1 = _
  unfold rg2
  rw [if_pos h1, rng0]
/-- script[i], 0 behind its end -/
def cellAt (ns : List Int) (i : Int) : Int := (ns[i.toNat]?).getD 0
theorem cellAt_sm {ns : List Int} (hb : ∀ z ∈ ns, Builtin.Int.intBits z ≤ 1048576) (i : Int) : Sm 1048576 (cellAt ns i) := by
  unfold cellAt
  cases h : ns[i.toNat]? with
  | none => exact Sm.up (j := 1) (by unfold Sm; decide) (by decide)
  | some z => exact bits_sm (hb z (List.mem_of_getElem? h))
theorem sum_nn : ∀ {ws : List Int}, (∀ w ∈ ws, 0 ≤ w) → 0 ≤ ws.sum
  | [], _ => by simp
  | w :: ws, h => by
    rw [List.sum_cons]
    have := sum_nn fun y hy => h y (List.mem_cons_of_mem _ hy)
    have := h w List.mem_cons_self
    omega
theorem le_sum : ∀ {ws : List Int} {x : Int}, (∀ w ∈ ws, 0 ≤ w) → x ∈ ws → x ≤ ws.sum
  | w :: ws, x, h, hx => by
    rw [List.sum_cons]
    rcases List.mem_cons.mp hx with rfl | hx
    · have := sum_nn fun y hy => h y (List.mem_cons_of_mem _ hy)
      omega
    · have := le_sum (fun y hy => h y (List.mem_cons_of_mem _ hy)) hx
      have := h w List.mem_cons_self
      omega
theorem sSeq_nx {a b : MS} {e e1 : Env} {S S1 : Sto} (h : a e S = .nx e1 S1) : sSeq a b e S = b e1 S1 := by rw [sSeq_ap, h] <;> rfl
/-! ### loops -/
/-- each turn goes on -/
theorem loop_nx {g : G} {b : MS} (I : Env → Sto → Prop) : ∀ {vs : List Vl} {e : Env} {S : Sto}, I e S → (∀ v ∈ vs, ∀ e S, I e S → ∃ e1 S1 e2 S2, g v e S = .ok e1 S1 ∧ b e1 S1 = .nx e2 S2 ∧ I e2 S2) → ∃ e2 S2, loopG g b vs e S = .nx e2 S2 ∧ I e2 S2
  | [], e, S, h, _ => ⟨e, S, rfl, h⟩
  | v :: vs, e, S, h, k => by
    obtain ⟨e1, S1, e2, S2, h1, h2, h3⟩ := k v List.mem_cons_self e S h
    rw [loopG_cons, h1, hbE_ok]
    show ∃ e2 S2, hloop (b e1 S1) (k := ⟨loopG g b vs⟩) = _ ∧ _
    rw [h2, hloop_nx]
    exact loop_nx I h3 fun v hv => k v (List.mem_cons_of_mem _ hv)
def cellsV (ns : List Int) (n : Nat) (k : Int) : List Vl := (ns.take n ++ [k]).map fun z => Vl.p (.int z)
/-- script[:n] + [0] -/
theorem it_script {ns : List Int} {e : Env} {S : Sto} (n : Nat) {i k : Int} (he : e[0]? = some (some (.p (.list (ns.map PyData.int))))) (hl : ns.length ≤ 63) (hi : i = (n : Int) := by rfl) :
    itL (m2 addV (mSl (mVar 0) oNo (oAt (mC (.int i)))) (mLstF [mC (.int k)])) e S = .ok (cellsV ns n k) S := by
  subst hi
  have e1 : slV (.p (.list (ns.map PyData.int))) none (some (n : Int)) S = .ok (.p (.list ((ns.take n).map PyData.int))) S := by
    rw [slV_list, cutL_to, ← List.map_take, if_pos (by simp; omega)]
  have e2 : addV (.p (.list ((ns.take n).map PyData.int))) (.p (.list [.int k])) S = .ok (.p (.list ((ns.take n ++ [k]).map PyData.int))) S := by
    rw [addV_list, lstF_ap, if_pos (by simp; omega), ← List.map_append, pures_map]
    simp
  have e0 : mSl (mVar 0) oNo (oAt (mC (.int (n : Int)))) e S = .ok (.p (.list ((ns.take n).map PyData.int))) S := by
    rw [← e1]
    simp [he]
  have e3 : mLstF [mC (.int k)] e S = .ok (.p (.list [.int k])) S := by simp
  have e4 : m2 addV (mSl (mVar 0) oNo (oAt (mC (.int (n : Int))))) (mLstF [mC (.int k)]) e S = .ok (.p (.list ((ns.take n ++ [k]).map PyData.int))) S := by
    rw [← e2, m2_ap, e0, hbind_ok]
    show hbind (mLstF [mC (.int k)] e S) (k := ⟨fun v S2 => addV (.p (.list ((ns.take n).map PyData.int))) v S2⟩) = _
    rw [e3, hbind_ok] <;> rfl
  rw [itL_ap, e4, hbind_ok]
  show R.ok (List.map Vl.p ((ns.take n ++ [k]).map PyData.int)) S = _
  rw [List.map_map]
  rfl
theorem cells_sm {ns : List Int} (hb : ∀ z ∈ ns, Builtin.Int.intBits z ≤ 1048576) (n : Nat) : ∀ z ∈ ns.take n ++ [0], Sm 1048576 z := fun z hz => by
  rcases List.mem_append.mp hz with h | h
  · exact bits_sm (hb z (List.mem_of_mem_take h))
  · rw [List.mem_singleton.mp h]
    exact Sm.up (j := 1) (by unfold Sm; decide) (by decide)
/-- a law that walks its cells -/
theorem law_loop {ns : List Int} {N : Nat} {i : Nat} {b : MS} {e : Env} {S : Sto} (hb : ∀ z ∈ ns, Builtin.Int.intBits z ≤ 1048576) (n : Nat) (he : e.length = N)
    (h : ∀ (z : Int) (e : Env) (S : Sto), Sm 1048576 z → e.length = N → ∃ e2 S2, b (e.set i (some (.p (.int z)))) S = .nx e2 S2 ∧ e2.length = N) :
    ∃ e2 S2, loopG (gNm i) b (cellsV ns n 0) e S = .nx e2 S2 ∧ e2.length = N :=
  loop_nx (fun e _ => e.length = N) he fun v hv e S hI => by
    obtain ⟨z, hz, rfl⟩ := List.mem_map.mp hv
    obtain ⟨e2, S2, h1, h2⟩ := h z e S (cells_sm hb n z hz) hI
    exact ⟨_, _, e2, S2, rfl, h1, h2⟩
end PV

/-! More steps; loops as folds. -/
namespace PV
open PySem L2
theorem bd_of {i : Int} (n : Nat) (h : i.natAbs < 2 ^ n) : Bd i n := ⟨h⟩
theorem bd_nn {i j : Int} {n : Nat} [x : Bd j n] (h : 0 ≤ i) (h2 : i ≤ j) : Bd i n := ⟨x.h.of_le h h2⟩
@[simp] theorem mkTup_eq (vs : List Vl) : mkTup vs = match pures vs with
  | some ds => .p (.tuple ds)
  | none => .t vs := id rfl
@[simp] theorem flat_int (i : Int) : flat (.int i) = true := id rfl
@[simp] theorem flat_str (i : Str) : flat (.str i) = true := id rfl
@[simp] theorem flat_none : flat .none = true := id rfl
@[simp] theorem flat_bool (i : Bool) : flat (.bool i) = true := id rfl
theorem bdI {i : Int} (h : -1000000000 ≤ i ∧ i ≤ 1000000000) : Bd i 40 := bd_of 40 (by omega)
theorem cutL_both {α : Type} (xs : List α) (a b : Nat) : cutL xs (some (a : Int)) (some (b : Int)) = (xs.take b).drop a := by
  unfold cutL
  rw [HT.sIx_nat, HT.sIx_nat]
  rcases Nat.le_total a xs.length with h | h
  · rw [Nat.min_eq_left h, List.drop_take]
    rcases Nat.le_total b xs.length with h2 | h2
    · rw [Nat.min_eq_left h2]
    · rw [Nat.min_eq_right h2, List.take_of_length_le (by simp), List.take_of_length_le (by simp; omega)]
  · rw [Nat.min_eq_right h, List.drop_eq_nil_of_le (Nat.le_refl _), List.drop_eq_nil_of_le (by simp; omega)]
    simp
@[simp] theorem cutL_two {α : Type} (xs : List α) (a b : Nat) : cutL xs (some (no_index (OfNat.ofNat a))) (some (no_index (OfNat.ofNat b))) = (xs.take b).drop a := cutL_both xs a b
/-! ### ranges -/
def iR (i j : Int) : List Int := (List.range (j - i).toNat).map fun (k : Nat) => i + k
@[simp] theorem rngV_eq (i j : Int) : rngV i j = (iR i j).map fun k => Vl.p (.int k) := by
  unfold rngV iR
  rw [List.map_map]
  rfl
@[simp] theorem mem_iR {i j k : Int} : k ∈ iR i j ↔ i ≤ k ∧ k < j := by
  unfold iR
  rw [List.mem_map]
  constructor
  · rintro ⟨n, h, rfl⟩
    have := List.mem_range.mp h
    omega
  · intro h
    exact ⟨(k - i).toNat, List.mem_range.mpr (by omega), by omega⟩
@[simp] theorem len_iR (i j : Int) : (iR i j).length = (j - i).toNat := by simp [iR]
theorem iR_nil {i j : Int} (h : j ≤ i) : iR i j = [] := by
  unfold iR
  rw [show (j - i).toNat = 0 by omega]
  rfl
theorem iR_succ {i j : Int} (h : i ≤ j) : iR i (j + 1) = iR i j ++ [j] := by
  unfold iR
  rw [show (j + 1 - i).toNat = (j - i).toNat + 1 by omega, List.range_succ, List.map_append]
  simp
  omega
theorem iR_cons {i j : Int} (h : i < j) : iR i j = i :: iR (i + 1) j := by
  unfold iR
  rw [show (j - i).toNat = (j - (i + 1)).toNat + 1 by omega, List.range_succ_eq_map, List.map_cons, List.map_map]
  simp
  intro a _
  omega
theorem iR_get {i j k : Int} (h0 : 0 ≤ k) (h : k < j - i) : (iR i j)[k.toNat]? = some (i + k) := by
  unfold iR
  rw [List.getElem?_map, List.getElem?_range (by omega)]
  simp
  omega
theorem rgFits_bd {i j : Int} {a b : Nat} [x : Bd i a] [y : Bd j b] (ha : a ≤ 61) (hb : b ≤ 61) : RgFits i j := by
  have h1 := x.h.up ha
  have h2 := y.h.up hb
  unfold Sm at h1 h2
  unfold RgFits
  omega
@[simp] theorem rg2_bd {i j : Int} {a b : Nat} (S : Sto) [x : Bd i a] [y : Bd j b] (ha : a ≤ 61) (hb : b ≤ 61) : rg2 i j S = .ok ((iR i j).map fun k => Vl.p (.int k)) S := by
  unfold rg2
  rw [← rngV_eq]
  exact if_pos (rgFits_bd ha hb)
/-! ### loops -/
section
variable {α β : Type} {g : G} {b : MS} {c : M}
theorem loop_fold (mk : β → Vl) (env : α → Env) (sto : α → Sto) (I : α → Prop) (step : α → β → α) : ∀ (xs : List β) (a : α), I a →
    (∀ a x, I a → x ∈ xs → (∃ e1, g (mk x) (env a) (sto a) = .ok e1 (sto a) ∧ b e1 (sto a) = .nx (env (step a x)) (sto (step a x))) ∧ I (step a x)) →
    loopG g b (xs.map mk) (env a) (sto a) = .nx (env (xs.foldl step a)) (sto (xs.foldl step a)) ∧ I (xs.foldl step a)
  | [], a, h, _ => ⟨rfl, h⟩
  | x :: xs, a, h, k => by
    obtain ⟨⟨e1, h1, h2⟩, h3⟩ := k a x h List.mem_cons_self
    have ih := loop_fold mk env sto I step xs (step a x) h3 fun a y ha hy => k a y ha (List.mem_cons_of_mem _ hy)
    rw [List.map_cons, loopG_cons, h1, hbE_ok]
    refine ⟨?_, ih.2⟩
    show hloop (b e1 (sto a)) (k := ⟨loopG g b (xs.map mk)⟩) = _
    rw [h2, hloop_nx]
    exact ih.1
/-- each turn leaves all as it was -/
theorem loop_const (mk : β → Vl) {e : Env} {S : Sto} (xs : List β) (h : ∀ x ∈ xs, ∃ e1, g (mk x) e S = .ok e1 S ∧ b e1 S = .nx e S) : loopG g b (xs.map mk) e S = .nx e S :=
  (loop_fold (α := Unit) mk (fun _ => e) (fun _ => S) (fun _ => True) (fun a _ => a) xs () trivial fun a x _ hx => ⟨h x hx, trivial⟩).1
theorem loop_constL {e : Env} {S : Sto} (vs : List Vl) (h : ∀ v ∈ vs, ∃ e1, g v e S = .ok e1 S ∧ b e1 S = .nx e S) : loopG g b vs e S = .nx e S := by
  have := loop_const (g := g) (b := b) (e := e) (S := S) id vs h
  rwa [List.map_id] at this
/-- the first one that is told ends the walk -/
theorem loop_find (mk : β → Vl) {e : Env} {S : Sto} (p : β → Bool) (r : β → Vl) : ∀ (xs : List β), (∀ x ∈ xs, ∃ e1, g (mk x) e S = .ok e1 S ∧ b e1 S = if p x = true then .rt (r x) S else .nx e S) → loopG g b (xs.map mk) e S = match xs.find? p with
    | some x => .rt (r x) S
    | none => .nx e S
  | [], _ => rfl
  | x :: xs, k => by
    obtain ⟨e1, h1, h2⟩ := k x List.mem_cons_self
    have ih := loop_find mk p r xs fun y hy => k y (List.mem_cons_of_mem _ hy)
    rw [List.map_cons, loopG_cons, h1, hbE_ok]
    show hloop (b e1 S) (k := ⟨loopG g b (xs.map mk)⟩) = _
    rw [h2, List.find?_cons]
    by_cases hp : p x = true
    · rw [if_pos hp, hp, hloop_rt]
    · rw [if_neg hp, hloop_nx, Bool.eq_false_iff.mpr hp]
      exact ih
/-- a list walked: what holds of the part behind -/
theorem loop_pre (mk : β → Vl) (env : α → Env) (sto : α → Sto) (I : List β → α → Prop) (all : List β) : ∀ (xs pre : List β) (a : α), all = pre ++ xs → I pre a →
    (∀ pre x post a, all = pre ++ x :: post → I pre a → ∃ a', (∃ e1, g (mk x) (env a) (sto a) = .ok e1 (sto a) ∧ b e1 (sto a) = .nx (env a') (sto a')) ∧ I (pre ++ [x]) a') →
    ∃ a', loopG g b (xs.map mk) (env a) (sto a) = .nx (env a') (sto a') ∧ I all a'
  | [], pre, a, h, ha, _ => ⟨a, rfl, by rw [h, List.append_nil]; exact ha⟩
  | x :: xs, pre, a, h, ha, k => by
    obtain ⟨a', ⟨e1, h1, h2⟩, h3⟩ := k pre x xs a h ha
    obtain ⟨a2, h4, h5⟩ := loop_pre mk env sto I all xs (pre ++ [x]) a' (by rw [h, List.append_assoc]; rfl) h3 k
    refine ⟨a2, ?_, h5⟩
    rw [List.map_cons, loopG_cons, h1, hbE_ok]
    show hloop (b e1 (sto a)) (k := ⟨loopG g b (xs.map mk)⟩) = _
    rw [h2, hloop_nx]
    exact h4
/-- a range walked -/
theorem loop_rngI (env : α → Env) (sto : α → Sto) (I : Int → α → Prop) {j : Int} : ∀ (n : Nat) (i : Int) (a : α), (j - i).toNat = n → i ≤ j → I i a →
    (∀ k a, i ≤ k → k < j → I k a → ∃ a', (∃ e1, g (.p (.int k)) (env a) (sto a) = .ok e1 (sto a) ∧ b e1 (sto a) = .nx (env a') (sto a')) ∧ I (k + 1) a') →
    ∃ a', loopG g b ((iR i j).map fun k => .p (.int k)) (env a) (sto a) = .nx (env a') (sto a') ∧ I j a'
  | 0, i, a, hn, hij, ha, _ => ⟨a, by rw [iR_nil (by omega)]; rfl, by rwa [show j = i by omega]⟩
  | n + 1, i, a, hn, hij, ha, k => by
    obtain ⟨a', ⟨e1, h1, h2⟩, h3⟩ := k i a (Int.le_refl i) (by omega) ha
    obtain ⟨a2, h4, h5⟩ := loop_rngI env sto I (j := j) n (i + 1) a' (by omega) (by omega) h3 fun k' a' hk => k k' a' (by omega)
    refine ⟨a2, ?_, h5⟩
    rw [iR_cons (by omega), List.map_cons, loopG_cons, h1, hbE_ok]
    show hloop (b e1 (sto a)) (k := ⟨loopG g b ((iR (i + 1) j).map fun k => .p (.int k))⟩) = _
    rw [h2, hloop_nx]
    exact h4
theorem loop_rng {i j : Int} (env : Int → Env) (sto : Int → Sto) (hij : i ≤ j) (h : ∀ k, i ≤ k → k < j → ∃ e1, g (.p (.int k)) (env k) (sto k) = .ok e1 (sto k) ∧ b e1 (sto k) = .nx (env (k + 1)) (sto (k + 1))) :
    loopG g b ((iR i j).map fun k => .p (.int k)) (env i) (sto i) = .nx (env j) (sto j) := by
  obtain ⟨a', h1, h2⟩ := loop_rngI env sto (fun k a => a = k) (j := j) _ i i rfl hij rfl fun k a h1 h2 h3 => ⟨k + 1, by subst h3; exact h a h1 h2, rfl⟩
  rw [h1, h2]
/-- while: an invariant and a measure -/
theorem while_inv (env : α → Env) (sto : α → Sto) (I Q : α → Prop) (mu : α → Nat)
    (h : ∀ a, I a → (c (env a) (sto a) = .ok (.p (.bool false)) (sto a) ∧ Q a) ∨ (c (env a) (sto a) = .ok (.p (.bool true)) (sto a) ∧ ∃ a', b (env a) (sto a) = .nx (env a') (sto a') ∧ I a' ∧ mu a' < mu a)) :
    ∀ (n : Nat) (a : α), mu a < n → I a → ∃ a', sWhile c b (env a) (sto a) = .nx (env a') (sto a') ∧ Q a'
  | 0, a, hn, _ => absurd hn (Nat.not_lt_zero _)
  | n + 1, a, hn, ha => by
    rw [sWhile_step]
    rcases h a ha with ⟨h1, h2⟩ | ⟨h1, a', h2, h3, h4⟩
    · exact ⟨a, by rw [h1, ofR_ok, onO_false], h2⟩
    · obtain ⟨a2, h5, h6⟩ := while_inv env sto I Q mu h n a' (by omega) h3
      exact ⟨a2, by rw [h1, ofR_ok, onO_true, h2]; exact h5, h6⟩
end
/-- a list comprehension that maps -/
theorem lcG_map {α : Type} {g : G} {a : M} {e : Env} {S : Sto} (mk f : α → Vl) (xs : List α) (h : ∀ x ∈ xs, ∃ e1, g (mk x) e S = .ok e1 S ∧ a e1 S = .ok (f x) S) : lcG g mYes a (xs.map mk) e S = .ok (xs.map f) S := lcG_list mk f xs h
/-- .. and picks -/
theorem lcG_filter {α : Type} {g : G} {c a : M} {e : Env} {S : Sto} (mk f : α → Vl) (p : α → Bool) : ∀ (xs : List α), (∀ x ∈ xs, ∃ e1, g (mk x) e S = .ok e1 S ∧ c e1 S = .ok (.p (.bool (p x))) S ∧ (p x = true → a e1 S = .ok (f x) S)) → lcG g c a (xs.map mk) e S = .ok ((xs.filter p).map f) S
  | [], _ => rfl
  | x :: xs, h => by
    obtain ⟨e1, h1, h2, h3⟩ := h x List.mem_cons_self
    have ih := lcG_filter mk f p xs fun y hy => h y (List.mem_cons_of_mem _ hy)
    rw [List.map_cons, lcG, h1]
    simp only [h2]
    cases hp : p x with
    | true => simp only [h3 hp, ih, List.filter_cons, hp, if_true, List.map_cons]
    | false => simp only [ih, List.filter_cons, hp, Bool.false_eq_true, if_false]
@[simp ↓] theorem mLc_hap (own : List Nat) (g : G) (it : It) (c a : M) (mk : List Vl → Sto → R Vl) (e : Env) (S : Sto) : mLc own g it c a mk e S = hbind (it e S) (k := ⟨fun vs S1 => match lcG g c a vs (wipeE e own) S1 with
  | .ok ws S2 => mk ws S2
  | _ => .bad⟩) := id rfl
/-- a law that asks each of its cells alone -/
theorem law_const {ns : List Int} (hb : ∀ z ∈ ns, Builtin.Int.intBits z ≤ 1048576) (n : Nat) {i : Nat} {b : MS} {e : Env} {S : Sto} (h : ∀ z : Int, Bd z 1048576 → b (e.set i (some (.p (.int z)))) S = .nx e S) : loopG (gNm i) b (cellsV ns n 0) e S = .nx e S :=
  loop_constL _ fun v hv => by
    obtain ⟨z, hz, rfl⟩ := List.mem_map.mp hv
    exact ⟨_, rfl, h z ⟨cells_sm hb n z hz⟩⟩
end PV

/-! Steps: objects. -/
namespace PV
open PySem L2
@[simp] theorem finK_rt (v : Vl) (S : Sto) : finK (.rt v S) = .ok v S := id rfl
@[simp] theorem finK_nx (e : Env) (S : Sto) : finK (.nx e S) = .ok (.p .none) S := id rfl
@[simp] theorem finK_ex (c : Nat) (n : Option Int) (e : Env) (S : Sto) : finK (.ex c n e S) = .exc c n S := id rfl
@[simp ↓] theorem fnOfK_ap (np ns : Nat) (b : MS) (vs : List Vl) (S : Sto) : fnOfK np ns b vs S = if vs.length = np then finK (b (initE ns vs) S) else .bad := id rfl
section
variable (e : Env) (S : Sto)
@[simp ↓] theorem mAttr_ap (cs : List Nat) (f : Str) (o : M) : mAttr cs f o e S = hbind (o e S) (k := ⟨fun u S1 => match objAt S1 u with
  | some (_, c, fs) => if c ∈ cs then (match fs.lookup f with
    | some v => .ok v S1
    | none => .bad) else .bad
  | none => .bad⟩) := id rfl
@[simp ↓] theorem sAttr_ap (cs : List Nat) (f : Str) (o a : M) : sAttr cs f o a e S = hofR e (a e S) (k := ⟨fun v S1 => hofR e (o e S1) (k := ⟨fun u S2 => match objAt S2 u with
  | some (i, c, fs) => if c ∈ cs ∧ fs.length < 1000 then .nx e (S2.set i (.obj c (putV f v fs))) else .bad
  | none => .bad⟩)⟩) := id rfl
@[simp ↓] theorem sAttrAug_ap (cs : List Nat) (f : Str) (k : Int → Int → Int) (o a : M) : sAttrAug cs f k o a e S = hofR e (o e S) (k := ⟨fun u S1 => match objAt S1 u with
  | some (i, c, fs) => if c ∈ cs then (match fs.lookup f with
    | some x => hofR e (a e S1) (k := ⟨fun y S2 => hofR e (augI k x y S2) (k := ⟨fun z S3 => (match objAt S3 (.r i) with
      | some (_, c2, fs2) => if c2 = c ∧ fs2.length < 1000 then .nx e (S3.set i (.obj c (putV f z fs2))) else .bad
      | none => .bad)⟩)⟩)
    | none => .bad) else .bad
  | none => .bad⟩) := id rfl
/-- what a making gives -/
def mkO (i : Nat) : R Vl → R Vl
  | .ok (.p .none) S2 => .ok (.r i) S2
  | _ => .bad
@[simp] theorem mkO_ok (i : Nat) : mkO i (.ok (.p .none) S) = .ok (.r i) S := id rfl
@[simp ↓] theorem mMake_ap (c : Nat) (F : Fn) (as : List M) : mMake c F as e S = hbind (mArgs as e S) (k := ⟨fun vs S1 => mkO S1.length (F (.r S1.length :: vs) (S1 ++ [.obj c []]))⟩) := by
  show (mArgs as e S).bind _ = _
  unfold hbind
  cases mArgs as e S with
  | ok vs S1 =>
    show (match F (.r S1.length :: vs) (S1 ++ [.obj c []]) with
      | .ok (.p .none) S2 => R.ok (.r S1.length) S2
      | _ => .bad) = mkO S1.length (F (.r S1.length :: vs) (S1 ++ [.obj c []]))
    unfold mkO
    cases F (.r S1.length :: vs) (S1 ++ [.obj c []]) with
    | ok v S2 =>
      cases v with
      | p d => cases d <;> rfl
      | _ => rfl
    | _ => rfl
  | _ => rfl
@[simp ↓] theorem mMeth_ap (m : Str) (tab : List (Nat × Nat × Fn)) (o : M) (as : List M) : mMeth m tab o as e S = hbind (o e S) (k := ⟨fun u S1 => match objAt S1 u with
  | some (i, c, fs) => (match tab.lookup c with
    | some (np, F) => if as.length + 1 = np ∧ fs.lookup m = none then hbind (mArgs as e S1) (k := ⟨fun vs S2 => F (.r i :: vs) S2⟩) else .bad
    | none => .bad)
  | none => .bad⟩) := id rfl
end
@[simp] theorem objAt_r (S : Sto) (i : Nat) : objAt S (.r i) = (match S[i]? with
    | some (.obj c fs) => some (i, c, fs)
    | _ => none) := id rfl
@[simp] theorem putV_nil (f : Str) (v : Vl) : putV f v [] = [(f, v)] := id rfl
@[simp] theorem putV_cons (f g : Str) (v x : Vl) (r : List (Str × Vl)) : putV f v ((g, x) :: r) = if g = f then (g, v) :: r else (g, x) :: putV f v r := id rfl
@[simp] theorem lookup_s (k j : Str) (v : Vl) (l : List (Str × Vl)) : List.lookup k ((j, v) :: l) = if k = j then some v else l.lookup k := by
  by_cases h : k = j
  · subst h
    rw [if_pos rfl, List.lookup_cons, show (k == k) = true from beq_self_eq_true k]
  · rw [List.lookup_cons, show (k == j) = false from beq_false_of_ne h, if_neg h]
@[simp] theorem app_at (S : Sto) (x : Ent) : (S ++ [x])[S.length]? = some x := by simp
theorem app_lt (S T : Sto) {i : Nat} (h : i < S.length) : (S ++ T)[i]? = S[i]? := List.getElem?_append_left h
@[simp] theorem entBelow_obj (n c : Nat) (fs : List (Str × Vl)) : entBelow n (.obj c fs) = belowAll n (fs.map (·.2)) := by simp [entBelow]
theorem clean_last (S : Sto) (x y : Ent) (T : Sto) (h : entBelow (S.length + 1) y = true) : Clean (S ++ [x]) (S ++ (y :: T)) := fun i hi => by
  rw [List.length_append, List.length_singleton] at hi ⊢
  by_cases q : i < S.length
  · exact .inl (by rw [List.getElem?_append_left q, List.getElem?_append_left q])
  · have e : i = S.length := by omega
    subst e
    exact .inr ⟨y, by simp, h⟩
@[simp] theorem leave_last (S : Sto) (x y : Ent) (T : Sto) (v : Vl) (hv : below (S.length + 1) v = true) (h : entBelow (S.length + 1) y = true) : leave (S ++ [x]) v (S ++ (y :: T)) = .ok v (S ++ [y]) := by
  unfold leave
  rw [if_pos ⟨by simpa using hv, clean_last S x y T h⟩]
  congr 1
  rw [List.length_append, List.length_singleton, List.take_append, List.take_of_length_le (by omega)]
  simp
@[simp] theorem app_app (S : Sto) (x y : Ent) : (S ++ [x]) ++ [y] = S ++ [x, y] := by simp
/-- changed in its place -/
theorem clean_set (S : Sto) (i : Nat) (y : Ent) (T : Sto) (h : entBelow S.length y = true) : Clean S (S.set i y ++ T) := fun j hj => by
  rw [List.getElem?_append_left (by simpa using hj), List.getElem?_set]
  split
  · rename_i q
    subst q
    exact .inr ⟨y, by rw [if_pos hj], h⟩
  · exact .inl rfl
theorem leave_set (S : Sto) (i : Nat) (y : Ent) (T : Sto) (v : Vl) (hv : below S.length v = true) (h : entBelow S.length y = true) : leave S v (S.set i y ++ T) = .ok v (S.set i y) := by
  unfold leave
  rw [if_pos ⟨hv, clean_set S i y T h⟩]
  congr 1
  rw [List.take_append, List.length_set, Nat.sub_self, List.take_zero, List.append_nil, List.take_of_length_le (by simp)]
@[simp] theorem eqV_bool (a b : Bool) (S : Sto) : eqV (.p (.bool a)) (.p (.bool b)) S = .ok (.p (.bool (decide (a = b)))) S := by
  cases a <;> cases b <;> simp [eqV, datL, shq, PyData.plain, PyData.depth, PyData.eqv]
@[simp] theorem neV_bool (a b : Bool) (S : Sto) : neV (.p (.bool a)) (.p (.bool b)) S = .ok (.p (.bool (!decide (a = b)))) S := by
  cases a <;> cases b <;> simp [neV, datL, shq, PyData.plain, PyData.depth, PyData.eqv]
theorem boolsV_map {α : Type} (f : α → Bool) (xs : List α) (S : Sto) : boolsV S (.p (.list (xs.map fun a => .bool (f a)))) = some (xs.map f) := by
  simp [boolsV]
theorem allV_map {α : Type} (f : α → Bool) (xs : List α) (S : Sto) : allV (.p (.list (xs.map fun a => .bool (f a)))) S = .ok (.p (.bool (xs.all f))) S := by
  unfold allV
  rw [boolsV_map]
  simp
theorem anyV_map {α : Type} (f : α → Bool) (xs : List α) (S : Sto) : anyV (.p (.list (xs.map fun a => .bool (f a)))) S = .ok (.p (.bool (xs.any f))) S := by
  unfold anyV
  rw [boolsV_map]
  simp
theorem allV_true {α : Type} (xs : List α) (S : Sto) : allV (.p (.list (xs.map fun _ => .bool true))) S = .ok (.p (.bool true)) S := by
  rw [allV_map (fun _ => true)]
  simp
end PV

/-! Steps: walks of places, dicts, what doesn't last. -/
namespace PV
open PySem L2
@[simp] theorem gOk_nil (S : Sto) : gOk [] S ↔ True := iff_true_intro fun p hp => (by cases hp)
@[simp] theorem gOk_one (k : Nat) (vs : List Vl) (S : Sto) : gOk [(k, vs)] S ↔ entL S k = some vs := ⟨fun h => h _ List.mem_cons_self, fun h p hp => by rw [List.mem_singleton.mp hp]; exact h⟩
@[simp] theorem lvOf_list (S : Sto) (ds : List D) : lvOf S (.p (.list ds)) = some (ds.map .p, []) := id rfl
@[simp] theorem lvOf_r (S : Sto) (i : Nat) : lvOf S (.r i) = (entL S i).map fun vs => (vs, [(i, vs)]) := id rfl
noncomputable def hofIP (g : G) (b : MS) (e : Env) (r : R (List Vl × Gu)) : O := match r with
  | .ok q S1 => loopP q.2 g b q.1 e S1
  | .exc c n S1 => .ex c n e S1
  | .bad => .bad
section
variable (e : Env) (S : Sto)
@[simp] theorem hofIP_ok (g : G) (b : MS) (q : List Vl × Gu) : hofIP g b e (.ok q S) = loopP q.2 g b q.1 e S := id rfl
@[simp ↓] theorem sForP_ap (g : G) (it : ItP) (b : MS) : sForP g it b e S = hofIP g b e (it e S) := id rfl
@[simp ↓] theorem itLp_ap (a : M) : itLp a e S = hbind (a e S) (k := ⟨fun v S1 => match lvOf S1 v with
  | some q => .ok q S1
  | none => .bad⟩) := id rfl
@[simp ↓] theorem itZp_ap (a b : M) : itZp a b e S = hbind (a e S) (k := ⟨fun u S1 => hbind (b e S1) (k := ⟨fun v S2 => match lvOf S2 u with
  | some q => (match lvOf S2 v with
    | some t => (match pures q.1 with
      | some ds => (match pures t.1 with
        | some es => .ok (zipV ds es, q.2 ++ t.2) S2
        | none => .bad)
      | none => .bad)
    | none => .bad)
  | none => .bad⟩)⟩) := id rfl
@[simp ↓] theorem mLcP_hap (own : List Nat) (g : G) (it : ItP) (c a : M) (mk : List Vl → Sto → R Vl) : mLcP own g it c a mk e S = hbind (it e S) (k := ⟨fun q S1 => match lcGp q.2 g c a q.1 (wipeE e own) S1 with
  | .ok ws S2 => mk ws S2
  | _ => .bad⟩) := id rfl
/-- what an expression laid is forgotten -/
noncomputable def lv2 (S : Sto) : R Vl → R Vl
  | .ok v S1 => leave S v S1
  | .exc c n S1 => leaveX S c n S1
  | .bad => .bad
@[simp ↓] theorem mTmp_ap (m : M) : mTmp m e S = lv2 S (m e S) := by
  unfold mTmp lv2
  cases m e S <;> rfl
@[simp] theorem lv2_ok (S1 : Sto) (v : Vl) : lv2 S (.ok v S1) = leave S v S1 := id rfl
@[simp] theorem lv2_ite (c : Prop) [Decidable c] (x y : R Vl) : lv2 S (if c then x else y) = if c then lv2 S x else lv2 S y := by split <;> rfl
@[simp ↓] theorem mDNew_ap : mDNew e S = .ok (.r S.length) (S ++ [.dK []]) := id rfl
@[simp ↓] theorem mDisp_ap (ks : List Key) (as : List M) : mDisp ks as e S = hbind (mArgs as e S) (k := ⟨fun vs S1 => .ok (.r S1.length) (S1 ++ [.dK (ks.zip vs)])⟩) := id rfl
@[simp ↓] theorem mDGet_ap (d k x : M) : mDGet d k x e S = hbind (d e S) (k := ⟨fun u S1 => match dkOf S1 u with
  | some _ => hbind (k e S1) (k := ⟨fun kv S2 => hbind (x e S2) (k := ⟨fun z S3 => (match dkOf S3 u with
    | some kvs => (match keyV kv with
      | some q => .ok ((valL kvs q).getD z) S3
      | none => .bad)
    | none => .bad)⟩)⟩)
  | none => .bad⟩) := id rfl
@[simp ↓] theorem mDPop_ap (d k : M) : mDPop d k e S = hbind (d e S) (k := ⟨fun u S1 => match u with
  | .r i => (match entK S1 i with
    | some _ => hbind (k e S1) (k := ⟨fun kv S2 => (match entK S2 i with
      | some kvs => (match keyV kv with
        | some q => (match valL kvs q with
          | some v => .ok v (S2.set i (.dK (dropL kvs q)))
          | none => .bad)
        | none => .bad)
      | none => .bad)⟩)
    | none => .bad)
  | _ => .bad⟩) := id rfl
@[simp ↓] theorem sDPut_ap (o i a : M) : sDPut o i a e S = hofR e (a e S) (k := ⟨fun v S1 => hofR e (o e S1) (k := ⟨fun u S2 => hofR e (i e S2) (k := ⟨fun k S3 => hofR e (dSetV u k v S3) (k := ⟨fun _ S4 => .nx e S4⟩)⟩)⟩)⟩) := id rfl
@[simp ↓] theorem itK_ap (a : M) : itK a e S = hbind (a e S) (k := ⟨fun v S1 => match v with
  | .dc kvs => .ok (kvs.map fun q => keyD q.1) S1
  | _ => .bad⟩) := id rfl
@[simp ↓] theorem itVs_ap (a : M) : itVs a e S = hbind (a e S) (k := ⟨fun v S1 => match v with
  | .dc kvs => .ok (kvs.map fun q => .p q.2) S1
  | _ => .bad⟩) := id rfl
end
@[simp] theorem keyV_int (i : Int) : keyV (.p (.int i)) = some (.inl i) := id rfl
@[simp] theorem keyV_str (i : Str) : keyV (.p (.str i)) = some (.inr i) := id rfl
@[simp] theorem keyD_int (i : Int) : keyD (.inl i) = .p (.int i) := id rfl
@[simp] theorem keyD_str (i : Str) : keyD (.inr i) = .p (.str i) := id rfl
@[simp] theorem entK_app (S : Sto) (kvs : List (Key × Vl)) : entK (S ++ [.dK kvs]) S.length = some kvs := by simp [entK]
@[simp] theorem dkOf_r (S : Sto) (i : Nat) : dkOf S (.r i) = entK S i := id rfl
@[simp] theorem dkOf_dc (S : Sto) (kvs : List (Key × D)) : dkOf S (.dc kvs) = some (kvs.map fun q => (q.1, .p q.2)) := id rfl
@[simp] theorem dIx_ap (u k : Vl) (S : Sto) : dIx u k S = (match dkOf S u with
  | some kvs => (match keyV k with
    | some q => (match valL kvs q with
      | some v => .ok v S
      | none => .bad)
    | none => .bad)
  | none => .bad) := id rfl
@[simp] theorem dIn_ap (neg : Bool) (u k : Vl) (S : Sto) : dIn neg k u S = (match dkOf S u with
  | some kvs => (match keyV k with
    | some q => .ok (.p (.bool (if neg then !(valL kvs q).isSome else (valL kvs q).isSome))) S
    | none => .bad)
  | none => .bad) := id rfl
@[simp] theorem dSetV_r (i : Nat) (k v : Vl) (S : Sto) : dSetV (.r i) k v S = (match entK S i with
    | some kvs => (match keyV k with
      | some q => if kvs.length < sizeLine then .ok (.p .none) (S.set i (.dK (putL kvs q v))) else .bad
      | none => .bad)
    | none => .bad) := id rfl
section
variable {α : Type}
@[simp] theorem valL_nil (k : Key) : valL ([] : List (Key × α)) k = none := id rfl
theorem valL_cons (j k : Key) (v : α) (r : List (Key × α)) : valL ((j, v) :: r) k = if j = k then some v else valL r k := by
  unfold valL
  rw [List.find?_cons]
  by_cases h : j = k
  · simp [h]
  · simp [h]
@[simp] theorem valL_consI (j k : Int) (v : α) (r : List (Key × α)) : valL ((.inl j, v) :: r) (.inl k) = if j = k then some v else valL r (.inl k) := by
  rw [valL_cons]; simp
@[simp] theorem valL_consS (j k : Str) (v : α) (r : List (Key × α)) : valL ((.inr j, v) :: r) (.inr k) = if j = k then some v else valL r (.inr k) := by
  rw [valL_cons]; simp
theorem valL_map {β : Type} (f : α → β) (kvs : List (Key × α)) (k : Key) : valL (kvs.map fun q => (q.1, f q.2)) k = (valL kvs k).map f := by
  induction kvs with
  | nil => rfl
  | cons q r ih =>
    obtain ⟨j, v⟩ := q
    rw [List.map_cons, valL_cons, valL_cons, ih]
    split <;> rfl
end
/-! ### walks of places -/
section
variable {α β : Type} {g : G} {b : MS} {c a : M} {gd : Gu}
theorem loopP_nil (e : Env) (S : Sto) (h : gOk gd S) : loopP gd g b [] e S = .nx e S := by
  unfold loopP
  exact if_pos h
theorem loopP_cons (v : Vl) (vs : List Vl) (e : Env) (S : Sto) (h : gOk gd S) : loopP gd g b (v :: vs) e S = hbE (g v e S) (k := ⟨fun e1 S1 => hloop (b e1 S1) (k := ⟨loopP gd g b vs⟩)⟩) := by
  rw [loopP, if_pos h]
  cases g v e S with
  | ok e1 S1 =>
    show _ = hloop (b e1 S1) (k := ⟨loopP gd g b vs⟩)
    dsimp only
    cases b e1 S1 <;> rfl
  | exc c n S1 => rfl
  | bad => rfl
theorem loopP_pre (mk : β → Vl) (env : α → Env) (sto : α → Sto) (I : List β → α → Prop) (hG : ∀ pre a, I pre a → gOk gd (sto a)) (all : List β) : ∀ (xs pre : List β) (a : α), all = pre ++ xs → I pre a →
    (∀ pre x post a, all = pre ++ x :: post → I pre a → ∃ a', (∃ e1, g (mk x) (env a) (sto a) = .ok e1 (sto a) ∧ b e1 (sto a) = .nx (env a') (sto a')) ∧ I (pre ++ [x]) a') →
    ∃ a', loopP gd g b (xs.map mk) (env a) (sto a) = .nx (env a') (sto a') ∧ I all a'
  | [], pre, a, h, ha, _ => ⟨a, loopP_nil _ _ (hG _ _ ha), by rw [h, List.append_nil]; exact ha⟩
  | x :: xs, pre, a, h, ha, k => by
    obtain ⟨a', ⟨e1, h1, h2⟩, h3⟩ := k pre x xs a h ha
    obtain ⟨a2, h4, h5⟩ := loopP_pre mk env sto I hG all xs (pre ++ [x]) a' (by rw [h, List.append_assoc]; rfl) h3 k
    refine ⟨a2, ?_, h5⟩
    rw [List.map_cons, loopP_cons _ _ _ _ (hG _ _ ha), h1, hbE_ok]
    show hloop (b e1 (sto a)) (k := ⟨loopP gd g b (xs.map mk)⟩) = _
    rw [h2, hloop_nx]
    exact h4
theorem loopP_const (mk : β → Vl) {e : Env} {S : Sto} (xs : List β) (hG : gOk gd S) (h : ∀ x ∈ xs, ∃ e1, g (mk x) e S = .ok e1 S ∧ b e1 S = .nx e S) : loopP gd g b (xs.map mk) e S = .nx e S := by
  induction xs with
  | nil => exact loopP_nil _ _ hG
  | cons x xs ih =>
    obtain ⟨e1, h1, h2⟩ := h x List.mem_cons_self
    rw [List.map_cons, loopP_cons _ _ _ _ hG, h1, hbE_ok]
    show hloop (b e1 S) (k := ⟨loopP gd g b (xs.map mk)⟩) = _
    rw [h2, hloop_nx]
    exact ih fun y hy => h y (List.mem_cons_of_mem _ hy)
theorem lcGp_map {e : Env} {S : Sto} (mk f : β → Vl) (hG : gOk gd S) : ∀ (xs : List β), (∀ x ∈ xs, ∃ e1, g (mk x) e S = .ok e1 S ∧ a e1 S = .ok (f x) S) → lcGp gd g mYes a (xs.map mk) e S = .ok (xs.map f) S
  | [], _ => by
    unfold lcGp
    exact if_pos hG
  | x :: xs, h => by
    obtain ⟨e1, h1, h2⟩ := h x List.mem_cons_self
    have ih := lcGp_map mk f hG xs fun y hy => h y (List.mem_cons_of_mem _ hy)
    rw [List.map_cons, lcGp, if_pos hG, h1]
    have e2 : mYes e1 S = .ok (.p (.bool true)) S := rfl
    simp only [e2, h2, ih, List.map_cons]
theorem lcGp_filter {e : Env} {S : Sto} (mk f : β → Vl) (p : β → Bool) (hG : gOk gd S) : ∀ (xs : List β), (∀ x ∈ xs, ∃ e1, g (mk x) e S = .ok e1 S ∧ c e1 S = .ok (.p (.bool (p x))) S ∧ (p x = true → a e1 S = .ok (f x) S)) → lcGp gd g c a (xs.map mk) e S = .ok ((xs.filter p).map f) S
  | [], _ => by
    unfold lcGp
    exact if_pos hG
  | x :: xs, h => by
    obtain ⟨e1, h1, h2, h3⟩ := h x List.mem_cons_self
    have ih := lcGp_filter mk f p hG xs fun y hy => h y (List.mem_cons_of_mem _ hy)
    rw [List.map_cons, lcGp, if_pos hG, h1]
    simp only [h2]
    cases hp : p x with
    | true => simp only [h3 hp, ih, List.filter_cons, hp, if_true, List.map_cons]
    | false => simp only [ih, List.filter_cons, hp, Bool.false_eq_true, if_false]
end
theorem repL_r (k : Nat) (n : Int) (S : Sto) (xs : List Vl) (h : entL S k = some xs) (hn : 0 ≤ n ∧ n < 1000) : repL (.r k) (.p (.int n)) S = lstF (List.replicate n.toNat xs).flatten S := by
  show (match entL S k with
    | some xs => if Fits63 n then lstF (List.replicate n.toNat xs).flatten S else .bad
    | none => .bad) = _
  rw [h]
  exact if_pos (by unfold Fits63; omega)
end PV

/-! Dates: the calendar, and what dates.py computes. -/
namespace PV
open PySem L2
def leap (y : Int) : Bool := if y % 100 = 0 then decide (y % 400 = 0) else decide (y % 4 = 0)
def lp (y : Int) : Int := if leap y then 1 else 0
def long (y m : Int) : Int := if m = 2 then 28 + lp y else if m = 4 ∨ m = 6 ∨ m = 9 ∨ m = 11 then 30 else 31
def ahead (y : Int) : Int := (y - 1) * 365 + (y - 1) / 4 - (y - 1) / 100 + (y - 1) / 400
/-- days of the year ahead of a month, 1 to 13 -/
def before (y m : Int) : Int := if m ≤ 1 then 0 else if m = 2 then 31 else (if m = 3 then 59 else if m = 4 then 90 else if m = 5 then 120 else if m = 6 then 151 else if m = 7 then 181 else if m = 8 then 212 else if m = 9 then 243 else if m = 10 then 273 else if m = 11 then 304 else if m = 12 then 334 else 365) + lp y
def dayNo (y m d : Int) : Int := ahead y + before y m + d - 1
def IsDate (y m d : Int) : Prop := (1 ≤ y ∧ y ≤ 9999) ∧ (1 ≤ m ∧ m ≤ 12) ∧ (1 ≤ d ∧ d ≤ long y m)
instance (y m d : Int) : Decidable (IsDate y m d) := by unfold IsDate; infer_instance
theorem lp_cases (y : Int) : lp y = 0 ∨ lp y = 1 := by unfold lp; split <;> simp
theorem ahead_succ (y : Int) : ahead (y + 1) = ahead y + 365 + lp y := by
  unfold ahead lp leap
  by_cases h1 : y % 100 = 0
  · by_cases h2 : y % 400 = 0
    · simp [h1, h2]; omega
    · simp [h1, h2]; omega
  · by_cases h2 : y % 4 = 0
    · simp [h1, h2]; omega
    · simp [h1, h2]; omega
theorem before_succ {y m : Int} (h : 1 ≤ m ∧ m ≤ 12) : before y (m + 1) = before y m + long y m := by
  obtain rfl | rfl | rfl | rfl | rfl | rfl | rfl | rfl | rfl | rfl | rfl | rfl : m = 1 ∨ m = 2 ∨ m = 3 ∨ m = 4 ∨ m = 5 ∨ m = 6 ∨ m = 7 ∨ m = 8 ∨ m = 9 ∨ m = 10 ∨ m = 11 ∨ m = 12 := by omega
  all_goals simp [before, long] <;> omega
theorem before_13 (y : Int) : before y 13 = 365 + lp y := rfl
theorem before_1 (y : Int) : before y 1 = 0 := rfl
theorem long_bd (y m : Int) : 28 ≤ long y m ∧ long y m ≤ 31 := by
  have := lp_cases y
  unfold long
  split
  · omega
  · split <;> omega
theorem before_mono {y m : Int} (hm : 1 ≤ m) : ∀ n : Nat, m + n ≤ 13 → before y m ≤ before y (m + n)
  | 0, _ => by simp
  | n + 1, h => by
    have h1 := before_mono (y := y) hm n (by omega)
    have h2 := before_succ (y := y) (m := m + n) (by omega)
    have h3 := long_bd y (m + n)
    rw [show m + ((n + 1 : Nat) : Int) = m + n + 1 by omega]
    omega
theorem before_le {y m k : Int} (hm : 1 ≤ m) (h : m ≤ k) (hk : k ≤ 13) : before y m ≤ before y k := by
  have := before_mono (y := y) hm (k - m).toNat (by omega)
  rwa [show m + ((k - m).toNat : Int) = k by omega] at this
theorem before_bd {y m : Int} (h : 1 ≤ m ∧ m ≤ 13) : 0 ≤ before y m ∧ before y m ≤ 365 + lp y := ⟨before_le (y := y) (m := 1) (by decide) h.1 h.2, by rw [← before_13]; exact before_le h.1 h.2 (by decide)⟩
theorem ahead_mono {y z : Int} (h : y ≤ z) : ahead y ≤ ahead z := by
  unfold ahead
  omega
theorem ahead_lt {y z : Int} (h : y < z) : ahead y + 365 ≤ ahead z := by
  have h1 := ahead_mono (y := y + 1) (z := z) h
  have h2 := ahead_succ y
  have := lp_cases y
  omega
theorem before_up {y m k : Int} (hm : 1 ≤ m) (h : m < k) (hk : k ≤ 13) : before y m + long y m ≤ before y k := by
  rw [← before_succ ⟨hm, by omega⟩]
  exact before_le (by omega) (by omega) hk
theorem IsDate.no {y m d : Int} (h : IsDate y m d) : ahead y ≤ dayNo y m d ∧ dayNo y m d < ahead (y + 1) ∧ 0 ≤ dayNo y m d ∧ dayNo y m d ≤ 3652058 := by
  obtain ⟨h1, h2, h3⟩ := h
  have a1 := ahead_mono (y := 1) (z := y) h1.1
  have a2 := ahead_mono (y := y + 1) (z := 10000) (by omega)
  have a3 : ahead 1 = 0 := by decide
  have a4 : ahead 10000 = 3652059 := by decide
  have a5 := ahead_succ y
  have b1 := before_succ (y := y) h2
  have b2 := before_bd (y := y) (m := m) (by omega)
  have b3 := before_up (y := y) h2.1 (k := 13) (by omega) (by omega)
  rw [before_13] at b3
  have b4 := lp_cases y
  unfold dayNo
  omega
/-- a day's number tells its date -/
theorem dayNo_inj {y m d y2 m2 d2 : Int} (h : IsDate y m d) (h2 : IsDate y2 m2 d2) (e : dayNo y m d = dayNo y2 m2 d2) : y = y2 ∧ m = m2 ∧ d = d2 := by
  have a := h.no
  have b := h2.no
  have hy : y = y2 := by
    rcases Int.lt_trichotomy y y2 with z | z | z
    · have := ahead_mono (y := y + 1) (z := y2) z
      omega
    · exact z
    · have := ahead_mono (y := y2 + 1) (z := y) z
      omega
  subst hy
  obtain ⟨h1, h3, h4⟩ := h
  obtain ⟨k1, k3, k4⟩ := h2
  have hm : m = m2 := by
    rcases Int.lt_trichotomy m m2 with z | z | z
    · have := before_up (y := y) h3.1 z (by omega)
      unfold dayNo at e
      omega
    · exact z
    · have := before_up (y := y) k3.1 z (by omega)
      unfold dayNo at e
      omega
  subst hm
  unfold dayNo at e
  exact ⟨rfl, rfl, by omega⟩
/-! ### what the program computes -/
theorem leap_eq (y : Int) (S : Sto) : F_is_leap [.p (.int y)] S = .ok (.p (.bool (leap y))) S := by
  simp [F_is_leap, M_is_leap, initE, leap]
theorem bd_year {y : Int} (h : 0 ≤ y ∧ y ≤ 10001) : Bd y 14 := bd_of 14 (by omega)
theorem ahead_eq {y : Int} (S : Sto) (h : 0 ≤ y ∧ y ≤ 10001) : F_days_ahead [.p (.int y)] S = .ok (.p (.int (ahead y))) S := by
  have := bd_year h
  simp [F_days_ahead, M_days_ahead, initE, ahead]
theorem days_ok {y m : Int} (S : Sto) (h : 1 ≤ y ∧ y ≤ 9999) (h2 : 1 ≤ m ∧ m ≤ 12) : F_days_in [.p (.int y), .p (.int m)] S = .ok (.p (.int (long y m))) S := by
  obtain rfl | rfl | rfl | rfl | rfl | rfl | rfl | rfl | rfl | rfl | rfl | rfl : m = 1 ∨ m = 2 ∨ m = 3 ∨ m = 4 ∨ m = 5 ∨ m = 6 ∨ m = 7 ∨ m = 8 ∨ m = 9 ∨ m = 10 ∨ m = 11 ∨ m = 12 := by omega
  all_goals simp [F_days_in, M_days_in, initE, h.1, h.2, c_LENGTHS, leap_eq, long, lp]
theorem days_no {y m : Int} (S : Sto) (h : ¬ ((1 ≤ y ∧ y ≤ 9999) ∧ (1 ≤ m ∧ m ≤ 12))) : F_days_in [.p (.int y), .p (.int m)] S = .exc 1 none S := by
  by_cases h1 : 1 ≤ y <;> by_cases h2 : y ≤ 9999 <;> by_cases h3 : 1 ≤ m <;> by_cases h4 : m ≤ 12 <;> simp [F_days_in, M_days_in, initE, h1, h2, h3, h4] <;> omega
theorem before_sum {y : Int} : ∀ n : Nat, n ≤ 12 → ((iR 1 (n + 1)).map (long y)).sum = before y (n + 1)
  | 0, _ => by rw [iR_nil (by decide)]; rfl
  | n + 1, h => by
    have e := before_succ (y := y) (m := (n : Int) + 1) (by omega)
    rw [show ((n + 1 : Nat) : Int) + 1 = (n : Int) + 1 + 1 by omega, iR_succ (by omega), List.map_append, List.sum_append, before_sum n (by omega), e]
    simp
theorem day_of_ok {y m d : Int} (S : Sto) (h : IsDate y m d) : F_day_of [.p (.int y), .p (.int m), .p (.int d)] S = .ok (.p (.int (dayNo y m d))) S := by
  obtain ⟨h1, h2, h3⟩ := h
  have e1 := fun S => days_ok S h1 h2
  have e2 := fun S => ahead_eq (y := y) S (by omega)
  have e4 := lcG_map (g := gNm 3) (a := mCall F_days_in [mVar 0, mVar 3]) (e := [some (.p (.int y)), some (.p (.int m)), some (.p (.int d)), none]) (S := S) (fun k => .p (.int k)) (fun k => .p (.int (long y k))) (iR 1 m) fun k hk => by
    have := mem_iR.mp hk
    exact ⟨_, rfl, by simp [days_ok S h1 (m := k) (by omega)]⟩
  have e5 : ((iR 1 m).map (long y)).sum = before y m := by
    have := before_sum (y := y) (m - 1).toNat (by omega)
    rwa [show ((m - 1).toNat : Int) + 1 = m by omega] at this
  have e6 := sumV_ints ((iR 1 m).map (long y)) S
  rw [e5] at e6
  have := bdI (i := m) (by omega)
  have e7 : (m - 1).toNat ≤ 16777216 := by omega
  simp [Function.comp_def] at e6 e7
  simp [F_day_of, M_day_of, initE, e1, e2, h3, e4, e7, Function.comp_def, e6, dayNo]
theorem day_of_no {y m d : Int} (S : Sto) (h : ¬ IsDate y m d) : F_day_of [.p (.int y), .p (.int m), .p (.int d)] S = .exc 1 none S := by
  by_cases h1 : (1 ≤ y ∧ y ≤ 9999) ∧ (1 ≤ m ∧ m ≤ 12)
  · have e1 := fun S => days_ok S h1.1 h1.2
    by_cases h2 : 1 ≤ d
    · have h3 : ¬ d ≤ long y m := fun z => h ⟨h1.1, h1.2, h2, z⟩
      simp [F_day_of, M_day_of, initE, e1, h2, h3]
    · simp [F_day_of, M_day_of, initE, e1, h2]
  · have e1 := fun S => days_no S h1
    simp [F_day_of, M_day_of, initE, e1]
/-! ### date_of -/
theorem year_loop1 {n : Int} (S : Sto) (h0 : 0 ≤ n) {y0 : Int} (h : 1 ≤ y0 ∧ y0 ≤ 10000) : ∃ y, sWhile (m2 gtV (mCall F_days_ahead [mVar 1]) (mVar 0)) M_date_of_b1 [some (.p (.int n)), some (.p (.int y0)), none, none] S = .nx [some (.p (.int n)), some (.p (.int y)), none, none] S ∧ 1 ≤ y ∧ y ≤ 10000 ∧ ahead y ≤ n :=
  while_inv (α := Int) (fun y => [some (.p (.int n)), some (.p (.int y)), none, none]) (fun _ => S) (fun y => 1 ≤ y ∧ y ≤ 10000) (fun y => 1 ≤ y ∧ y ≤ 10000 ∧ ahead y ≤ n) (fun y => y.toNat) (fun y hy => by
    have e := ahead_eq (y := y) S (by omega)
    by_cases q : n < ahead y
    · refine .inr ⟨by simp [e, q], y - 1, by simp [M_date_of_b1, augI], ?_, by omega⟩
      have : y ≠ 1 := fun z => by
        subst z
        have : ahead 1 = 0 := by decide
        omega
      omega
    · exact .inl ⟨by simp [e, q], by omega⟩) (y0.toNat + 1) y0 (Nat.lt_succ_self _) h
theorem year_loop2 {n : Int} (S : Sto) (hn : n ≤ 3652058) {y0 : Int} (h : 1 ≤ y0 ∧ y0 ≤ 10000 ∧ ahead y0 ≤ n) : ∃ y, sWhile (m2 leV (mCall F_days_ahead [m2 addV (mVar 1) (mC (.int 1))]) (mVar 0)) M_date_of_b2 [some (.p (.int n)), some (.p (.int y0)), none, none] S = .nx [some (.p (.int n)), some (.p (.int y)), none, none] S ∧ 1 ≤ y ∧ y ≤ 9999 ∧ ahead y ≤ n ∧ n < ahead (y + 1) :=
  while_inv (α := Int) (fun y => [some (.p (.int n)), some (.p (.int y)), none, none]) (fun _ => S) (fun y => 1 ≤ y ∧ y ≤ 10000 ∧ ahead y ≤ n) (fun y => 1 ≤ y ∧ y ≤ 9999 ∧ ahead y ≤ n ∧ n < ahead (y + 1)) (fun y => (20000 - y).toNat) (fun y hy => by
    have e := ahead_eq (y := y + 1) S (by omega)
    have h9 : y ≤ 9999 := by
      have a4 : ahead 10000 = 3652059 := by decide
      have : y ≠ 10000 := fun z => by subst z; omega
      omega
    by_cases q : ahead (y + 1) ≤ n
    · exact .inr ⟨by simp [e, q], y + 1, by simp [M_date_of_b2, augI], by omega, by omega⟩
    · exact .inl ⟨by simp [e, q], by omega⟩) ((20000 - y0).toNat + 1) y0 (Nat.lt_succ_self _) h
theorem month_loop {n y : Int} (S : Sto) (hy : 1 ≤ y ∧ y ≤ 9999) (h2 : n < ahead (y + 1)) : ∀ {l0 : Int}, l0 = n - ahead y → 0 ≤ l0 → ∃ lm : Int × Int, sWhile (m2 geV (mVar 2) (mCall F_days_in [mVar 1, mVar 3])) M_date_of_b3 [some (.p (.int n)), some (.p (.int y)), some (.p (.int l0)), some (.p (.int 1))] S
      = .nx [some (.p (.int n)), some (.p (.int y)), some (.p (.int lm.1)), some (.p (.int lm.2))] S ∧ IsDate y lm.2 (lm.1 + 1) ∧ dayNo y lm.2 (lm.1 + 1) = n := fun {l0} hl h0 => by
  subst hl
  exact while_inv (α := Int × Int) (fun lm => [some (.p (.int n)), some (.p (.int y)), some (.p (.int lm.1)), some (.p (.int lm.2))]) (fun _ => S) (fun lm => 0 ≤ lm.1 ∧ 1 ≤ lm.2 ∧ lm.2 ≤ 12 ∧ lm.1 + before y lm.2 = n - ahead y) (fun lm => IsDate y lm.2 (lm.1 + 1) ∧ dayNo y lm.2 (lm.1 + 1) = n) (fun lm => (20 - lm.2).toNat) (fun lm hy2 => by
    obtain ⟨l, m⟩ := lm
    simp only at hy2 ⊢
    have e := days_ok (y := y) (m := m) S hy (by omega)
    by_cases q : long y m ≤ l
    · refine .inr ⟨by simp [e, q], (l - long y m, m + 1), by simp [M_date_of_b3, augI, e], ?_, by simp only; omega⟩
      have b1 := before_succ (y := y) (m := m) (by omega)
      have b2 := ahead_succ y
      simp only
      have : m ≠ 12 := fun z => by
        subst z
        have b3 := before_13 y
        simp only [Int.reduceAdd] at b1
        omega
      omega
    · refine .inl ⟨by simp [e, q], ⟨hy, by omega, by omega⟩, ?_⟩
      unfold dayNo
      omega) 20 (n - ahead y, 1) (show (19 : Nat) < 20 by decide) ⟨h0, show (1 : Int) ≤ 1 by decide, show (1 : Int) ≤ 12 by decide, by simp only [before_1]; omega⟩
theorem date_of_ex {n : Int} (h : 0 ≤ n ∧ n ≤ 3652058) (S : Sto) : ∃ y m d : Int, F_date_of [.p (.int n)] S = .ok (.p (.tuple [.int y, .int m, .int d])) S ∧ IsDate y m d ∧ dayNo y m d = n := by
  obtain ⟨y1, e1, a1, a2, a3⟩ := year_loop1 S h.1 (y0 := n * 400 / 146097 + 1) (by omega)
  obtain ⟨y, e2, b1, b2, b3, b4⟩ := year_loop2 S h.2 ⟨a1, a2, a3⟩
  obtain ⟨⟨l, m⟩, e3, c1, c2⟩ := month_loop S ⟨b1, b2⟩ b4 (l0 := n - ahead y) rfl (by omega)
  refine ⟨y, m, l + 1, ?_, c1, c2⟩
  have := bdI (i := n) (by omega)
  have ea := fun S => ahead_eq (y := y) S (by omega)
  simp [F_date_of, M_date_of, initE, h.1, h.2, e1, e2, e3, ea]
theorem date_of_no {n : Int} (h : ¬ (0 ≤ n ∧ n ≤ 3652058)) (S : Sto) : F_date_of [.p (.int n)] S = .exc 1 none S := by
  by_cases h1 : 0 ≤ n
  · have h2 : ¬ n ≤ 3652058 := fun z => h ⟨h1, z⟩
    simp [F_date_of, M_date_of, initE, h1, h2]
  · simp [F_date_of, M_date_of, initE, h1]
/-- a date has a day, a day its date -/
theorem dayOf_ex {n : Int} (h : 0 ≤ n ∧ n ≤ 3652058) : ∃ y m d : Int, IsDate y m d ∧ dayNo y m d = n := by
  obtain ⟨y, m, d, _, h1, h2⟩ := date_of_ex h []
  exact ⟨y, m, d, h1, h2⟩
theorem date_of_ok {y m d : Int} (h : IsDate y m d) (S : Sto) : F_date_of [.p (.int (dayNo y m d))] S = .ok (.p (.tuple [.int y, .int m, .int d])) S := by
  obtain ⟨y2, m2, d2, e, h1, h2⟩ := date_of_ex ⟨h.no.2.2.1, h.no.2.2.2⟩ S
  obtain ⟨rfl, rfl, rfl⟩ := dayNo_inj h1 h h2
  exact e
end PV

/-! What laws reckon with: common helpers. -/
namespace PV
open PySem L2
theorem long_k02 {y m : Int} (S : Sto) (h : 1 ≤ m ∧ m ≤ 12) : F_long_k02 [.p (.int y), .p (.int m)] S = .ok (.p (.int (long y m))) S := by
  obtain rfl | rfl | rfl | rfl | rfl | rfl | rfl | rfl | rfl | rfl | rfl | rfl : m = 1 ∨ m = 2 ∨ m = 3 ∨ m = 4 ∨ m = 5 ∨ m = 6 ∨ m = 7 ∨ m = 8 ∨ m = 9 ∨ m = 10 ∨ m = 11 ∨ m = 12 := by omega
  case inr.inl =>
    simp [F_long_k02, M_long_k02, initE, long, lp, leap]
    by_cases a : y % 4 = 0 <;> by_cases b : y % 100 = 0 <;> by_cases c : y % 400 = 0 <;> simp [a, b, c] <;> omega
  all_goals simp [F_long_k02, M_long_k02, initE, long]
theorem cell_at_k02 {ns : List Int} {i : Int} (S : Sto) (h0 : 0 ≤ i) (hl : ns.length ≤ 63) : F_cell_at_k02 [.p (.list (ns.map PyData.int)), .p (.int i)] S = .ok (.p (.int (cellAt ns i))) S := by
  unfold cellAt
  by_cases h : i < ns.length
  · have h1 : i.toNat < ns.length := by omega
    simp [F_cell_at_k02, M_cell_at_k02, initE, h, atI_pos _ h0, h1]
  · have h1 : ns[i.toNat]? = none := List.getElem?_eq_none (by omega)
    simp [F_cell_at_k02, M_cell_at_k02, initE, h, h1]

theorem bd_cell {ns : List Int} (hb : ∀ z ∈ ns, Builtin.Int.intBits z ≤ 1048576) (i : Int) : Bd (cellAt ns i) 1048576 := ⟨cellAt_sm hb i⟩
theorem alone_k01 (S : Sto) : F_alone_k01 [.x 1 none] S = .ok (.p (.bool true)) S := by
  simp [F_alone_k01, M_alone_k01, initE, anyV, boolsV]
end PV

/-! Months on. -/
namespace PV
open PySem L2
@[simp] theorem dvmV_ap (i : Int) {j : Int} (S : Sto) (h : 0 < j) (h2 : j < 1073741824) : dvmV (.p (.int i)) (.p (.int j)) S = .ok (.p (.tuple [.int (i / j), .int (i % j)])) S := if_pos ⟨h, h2⟩
/-- the month's number that is so many months on -/
def monNo (y m many : Int) : Int := y * 12 + m - 1 + many
/-- the day of the same number, or the month's last -/
def sameDay (t d : Int) : Int := if long (t / 12) (t % 12 + 1) < d then long (t / 12) (t % 12 + 1) else d
theorem sameDay_date {t d : Int} (h : 1 ≤ t / 12 ∧ t / 12 ≤ 9999) (hd : 1 ≤ d) : IsDate (t / 12) (t % 12 + 1) (sameDay t d) := by
  have := long_bd (t / 12) (t % 12 + 1)
  unfold sameDay
  exact ⟨h, by omega, by split <;> omega⟩
theorem months_on_ok {y m d : Int} (h : IsDate y m d) (many : Int) (S : Sto) (ht : 1 ≤ monNo y m many / 12 ∧ monNo y m many / 12 ≤ 9999) :
    F_months_on [.p (.int (dayNo y m d)), .p (.int many)] S = .ok (.p (.int (dayNo (monNo y m many / 12) (monNo y m many % 12 + 1) (sameDay (monNo y m many) d)))) S := by
  have b1 := bdI (i := y) (by have := h.1; omega)
  have e1 := day_of_ok S (sameDay_date ht h.2.2.1)
  have e2 := fun S => days_ok S ht (m := monNo y m many % 12 + 1) (by omega)
  unfold monNo sameDay at *
  simp [F_months_on, M_months_on, initE, date_of_ok h, e1, e2]
theorem months_on_no {y m d : Int} (h : IsDate y m d) (many : Int) (S : Sto) (ht : ¬ (1 ≤ monNo y m many / 12 ∧ monNo y m many / 12 ≤ 9999)) :
    F_months_on [.p (.int (dayNo y m d)), .p (.int many)] S = .exc 1 none S := by
  have b1 := bdI (i := y) (by have := h.1; omega)
  have e2 := fun S => days_no (y := monNo y m many / 12) (m := monNo y m many % 12 + 1) S (fun z => ht z.1)
  unfold monNo at *
  simp [F_months_on, M_months_on, initE, date_of_ok h, e2]
end PV

/-! Texts as lists of signs. -/
namespace PV
open PySem L2
/-- the text of these signs -/
def T (l : List Nat) : Str := ⟨l.toArray⟩
theorem T_of (s : Str) : T s.cps.toList = s := rfl
@[simp] theorem T_tl (l : List Nat) : (T l).cps.toList = l := rfl
@[simp] theorem T_inj {a b : List Nat} : T a = T b ↔ a = b := ⟨fun h => congrArg (fun x : Str => x.cps.toList) h, fun h => h ▸ rfl⟩
@[simp] theorem T_len (a : List Nat) : (T a).length = a.length := by simp [T, Str.length]
@[simp] theorem T_cat (a b : List Nat) : T a ++ T b = T (a ++ b) := SX.S_cat a b
@[simp] theorem T_ite (c : Prop) [Decidable c] (a b : List Nat) : (if c then T a else T b) = T (if c then a else b) := by split <;> rfl
theorem T_ofString (s : String) : Str.ofString s = T (s.toList.map Char.toNat) := by
  rw [Str.ofString_eq_toList] <;> rfl
@[simp] theorem slV_T (a : List Nat) (lo hi : Option Int) (S : Sto) : slV (.p (.str (T a))) lo hi S = if a.length ≤ 16777216 then .ok (.p (.str (T (cutL a lo hi)))) S else .bad := by
  have e : cutS (T a) lo hi = T (cutL a lo hi) := rfl
  show (if (T a).length ≤ sizeLine then _ else _) = _
  rw [T_len, e, sz_line]
@[simp] theorem ixV_T (a : List Nat) (i : Int) (S : Sto) : ixV (.p (.str (T a))) (.p (.int i)) S = if a.length ≤ 16777216 then (match atI a i with
    | some c => .ok (.p (.str (T [c]))) S
    | none => .bad) else .bad := by
  show (if (T a).length ≤ sizeLine then _ else _) = _
  rw [T_len, sz_line]
  rfl
theorem signs_T (a : List Nat) : signs (T a) = a.map fun c => .p (.str (T [c])) := rfl
@[simp] theorem lenV_T (a : List Nat) (S : Sto) : lenV (.p (.str (T a))) S = if a.length ≤ 16777216 then .ok (.p (.int a.length)) S else .bad := by
  rw [lenV_str, T_len, sz_line]
@[simp] theorem inV_T (neg : Bool) (c : Nat) (a : List Nat) (S : Sto) : inV neg (.p (.str (T [c]))) (.p (.str (T a))) S = .ok (.p (.bool (if neg then !decide (c ∈ a) else decide (c ∈ a)))) S := by
  have e : subSeq (T [c]) (T a) = decide (c ∈ a) := SX.in_one a c
  show R.ok (Vl.p (.bool (if neg then !subSeq (T [c]) (T a) else subSeq (T [c]) (T a)))) S = _
  rw [e]
theorem mul_one (c : Nat) (k : Int) : Txt.mul (T [c]) k = T (List.replicate k.toNat c) := by
  unfold Txt.mul
  split
  · rename_i h
    rw [show k.toNat = 0 by omega]
    rfl
  · split
    · rename_i h1 h2
      have : k = 1 := by simpa using h2
      subst this
      rfl
    · have go : ∀ (n : Nat) (acc : List Nat), (List.replicate n (T [c]).cps).foldl (· ++ ·) acc.toArray = (acc ++ List.replicate n c).toArray := fun n => by
        induction n with
        | zero => intro acc; simp
        | succ n ih =>
          intro acc
          rw [List.replicate_succ, List.foldl_cons]
          have e : acc.toArray ++ (T [c]).cps = (acc ++ [c]).toArray := by simp [T]
          rw [e, ih, List.append_assoc]
          rfl
      have := go k.toNat []
      show (⟨_⟩ : Str) = ⟨_⟩
      rw [this]
      rfl
@[simp] theorem mulV_T (c : Nat) (k : Int) (S : Sto) (h1 : -4611686018427387904 ≤ k) (h2 : k ≤ 16777216) : mulV (.p (.str (T [c]))) (.p (.int k)) S = .ok (.p (.str (T (List.replicate k.toNat c)))) S := by
  show (if SmulFits (T [c]) k then _ else _) = _
  rw [if_pos (show SmulFits (T [c]) k from ⟨by omega, by omega, by rw [T_len]; simp only [List.length_singleton, Nat.one_mul]; omega⟩), mul_one]
theorem join_T (a : List Nat) (ys : List (List Nat)) : Txt.join (T a) (ys.map T) = T (TL.joinL a ys) := SX.join_S a ys
theorem split_T {a b : List Nat} (hb : b ≠ []) (hk : b.all (· < 256) = true) : Txt.split (T a) (T b) = (TL.spl b 0 [] a).map T := SX.split_S hb hk
theorem joinL_nil : ∀ ys : List (List Nat), TL.joinL [] ys = ys.flatten
  | [] => rfl
  | [p] => by simp [TL.joinL]
  | p :: q :: r => by
    rw [TL.joinL, joinL_nil (q :: r)]
    simp
/-! ### figures -/
/-- the figures of a number -/
abbrev dg (n : Nat) : List Nat := TL.numL n
theorem dg_lt {n : Nat} (h : n < 10) : dg n = [48 + n] := TL.numL_lt h
theorem dg_step {n : Nat} (h : 10 ≤ n) : dg n = dg (n / 10) ++ [48 + n % 10] := TL.numL_step h
/-- so many figures of a number, the last ones -/
def fx : Nat → Nat → List Nat
  | 0, _ => []
  | k + 1, n => fx k (n / 10) ++ [48 + n % 10]
@[simp] theorem fx_len : ∀ (k n : Nat), (fx k n).length = k
  | 0, _ => rfl
  | k + 1, n => by rw [fx, List.length_append, fx_len k]; rfl
theorem fx_zero : ∀ k : Nat, fx k 0 = List.replicate k 48
  | 0 => rfl
  | k + 1 => by
    rw [fx, show 0 / 10 = 0 from rfl, fx_zero k, show 48 + 0 % 10 = 48 from rfl, List.replicate_succ']
theorem dg_pad : ∀ (k n : Nat), n < 10 ^ k → 1 ≤ k → (dg n).length ≤ k ∧ List.replicate (k - (dg n).length) 48 ++ dg n = fx k n
  | 0, n, _, hk => absurd hk (by decide)
  | k + 1, n, h, _ => by
    by_cases h10 : n < 10
    · rw [dg_lt h10]
      refine ⟨by simp, ?_⟩
      rw [fx, Nat.div_eq_of_lt h10, fx_zero, Nat.mod_eq_of_lt h10]
      simp
    · have hk : 1 ≤ k := by
        rcases Nat.eq_zero_or_pos k with z | z
        · subst z
          simp at h
          omega
        · exact z
      obtain ⟨h1, h2⟩ := dg_pad k (n / 10) (by rw [Nat.pow_succ] at h; omega) hk
      rw [dg_step (by omega)]
      rw [List.length_append, List.length_singleton]
      refine ⟨by omega, ?_⟩
      rw [fx, ← h2, show k + 1 - ((dg (n / 10)).length + 1) = k - (dg (n / 10)).length by omega, List.append_assoc]
def Dig (l : List Nat) : Prop := ∀ c ∈ l, 48 ≤ c ∧ c ≤ 57
theorem fx_dig : ∀ (k n : Nat), Dig (fx k n)
  | 0, _ => fun c h => by cases h
  | k + 1, n => fun c h => by
    rw [fx] at h
    rcases List.mem_append.mp h with h | h
    · exact fx_dig k _ c h
    · rw [List.mem_singleton.mp h]
      omega
theorem dg_dig (n : Nat) : Dig (dg n) := by
  induction n using Nat.strongRecOn with
  | _ n ih =>
    by_cases h : n < 10
    · rw [dg_lt h]
      intro c hc
      rw [List.mem_singleton.mp hc]
      omega
    · rw [dg_step (by omega)]
      intro c hc
      rcases List.mem_append.mp hc with hc | hc
      · exact ih (n / 10) (by omega) c hc
      · rw [List.mem_singleton.mp hc]
        omega
abbrev val (l : List Nat) : Nat := NumText.digitsVal l
theorem val_snoc (l : List Nat) (c : Nat) : val (l ++ [c]) = val l * 10 + (c - 48) := by
  simp [val, NumText.digitsVal, List.foldl_append]
theorem val_nil : val [] = 0 := rfl
theorem val_fx : ∀ (k n : Nat), val (fx k n) = n % 10 ^ k
  | 0, n => by rw [fx, val_nil, Nat.pow_zero, Nat.mod_one]
  | k + 1, n => by
    rw [fx, val_snoc, val_fx k, Nat.pow_succ, Nat.mul_comm (10 ^ k) 10, Nat.mod_mul]
    omega
theorem val_dg (n : Nat) : val (dg n) = n := PySem.W.KIN.val_back n
theorem val_lt : ∀ (n : Nat) {l : List Nat}, Dig l → l.length = n → val l < 10 ^ n
  | 0, l, _, h => by rw [List.length_eq_zero_iff.mp h]; decide
  | n + 1, l, hd, h => by
    have hne : l ≠ [] := fun z => by rw [z] at h; cases h
    have e := List.dropLast_concat_getLast hne
    rw [← e, val_snoc, Nat.pow_succ]
    have h1 := val_lt n (l := l.dropLast) (fun c hc => hd c (List.dropLast_subset l hc)) (by rw [List.length_dropLast, h]; rfl)
    have h2 := hd _ (List.getLast_mem hne)
    omega
theorem fx_val : ∀ (n : Nat) {l : List Nat}, Dig l → l.length = n → fx n (val l) = l
  | 0, l, _, h => by rw [List.length_eq_zero_iff.mp h]; rfl
  | n + 1, l, hd, h => by
    have hne : l ≠ [] := fun z => by rw [z] at h; cases h
    have e := List.dropLast_concat_getLast hne
    have h1 := fx_val n (l := l.dropLast) (fun c hc => hd c (List.dropLast_subset l hc)) (by rw [List.length_dropLast, h]; rfl)
    have h2 := hd _ (List.getLast_mem hne)
    rw [← e, val_snoc, fx]
    rw [show (val l.dropLast * 10 + (l.getLast hne - 48)) / 10 = val l.dropLast by omega, show 48 + (val l.dropLast * 10 + (l.getLast hne - 48)) % 10 = l.getLast hne by omega, h1]
@[simp] theorem intV_T {a : List Nat} (S : Sto) (h : Dig a) (hne : a ≠ []) (hl : a.length ≤ 640) : intV (.p (.str (T a))) S = .ok (.p (.int (val a : Nat))) S := by
  have e : intText? (T a) = some ((val a : Nat) : Int) := intText_digits h hne (by rw [T_len]; omega)
  show (match intText? (T a) with
    | some n => if (T a).length ≤ 640 then R.ok (Vl.p (.int n)) S else R.bad
    | none => R.bad) = _
  rw [e]
  exact if_pos (by rw [T_len]; exact hl)
theorem strV_nat {n : Nat} (S : Sto) (h : n.log2 < 1920) : strV (.p (.int (n : Int))) S = .ok (.p (.str (T (dg n)))) S := by
  have e : Str.ofString (toString (n : Int)) = T (dg n) := SX.num_S n
  show (if ((n : Int)).natAbs.log2 < 1920 then R.ok (Vl.p (.str (Str.ofString (toString (n : Int))))) S else R.bad) = _
  rw [Int.natAbs_natCast, if_pos h, e]
@[simp] theorem strV_pos {i : Int} {b : Nat} (S : Sto) [x : Bd i b] (h0 : 0 ≤ i) (hb : b ≤ 1900) : strV (.p (.int i)) S = .ok (.p (.str (T (dg i.toNat)))) S := by
  obtain ⟨n, rfl⟩ := Int.eq_ofNat_of_zero_le h0
  have h1 := x.h.log
  rw [Int.natAbs_natCast] at h1
  rw [strV_nat S (by omega)]
  rfl
theorem all_dig (l : List Nat) : (l.all fun c => decide (c ∈ [48, 49, 50, 51, 52, 53, 54, 55, 56, 57])) = true ↔ Dig l := by
  rw [List.all_eq_true]
  constructor
  · intro h c hc
    have := of_decide_eq_true (h c hc)
    simp at this
    omega
  · intro h c hc
    have := h c hc
    refine decide_eq_true ?_
    simp
    omega
instance (l : List Nat) : Decidable (Dig l) := by unfold Dig; infer_instance
theorem t_figs : Str.ofString "0123456789" = T [48, 49, 50, 51, 52, 53, 54, 55, 56, 57] := by decide +kernel
theorem t_dash : Str.ofString "-" = T [45] := by decide +kernel
theorem t_dot : Str.ofString "." = T [46] := by decide +kernel
theorem t_0 : Str.ofString "0" = T [48] := by decide +kernel
theorem t_nil : Str.ofString "" = T [] := by decide +kernel
theorem fig_at {d : Nat} (h : d < 10) : [48, 49, 50, 51, 52, 53, 54, 55, 56, 57][d]? = some (48 + d) := by
  obtain rfl | rfl | rfl | rfl | rfl | rfl | rfl | rfl | rfl | rfl : d = 0 ∨ d = 1 ∨ d = 2 ∨ d = 3 ∨ d = 4 ∨ d = 5 ∨ d = 6 ∨ d = 7 ∨ d = 8 ∨ d = 9 := by omega
  all_goals rfl
theorem allV_bools {α : Type} (p : α → Bool) (xs : List α) (S : Sto) : allV (.p (.list (xs.map fun x => PyData.bool (p x)))) S = .ok (.p (.bool (xs.all p))) S := by
  unfold allV boolsV
  rw [asL_list, List.map_map]
  have e : pures (xs.map (Vl.p ∘ fun x => PyData.bool (p x))) = some (xs.map fun x => PyData.bool (p x)) := pures_map' _ _
  simp only [e, boolsOf_map']
  rw [List.all_map]
  rfl
/-! all([sign in FIGURES for sign in x]), of some signs -/
def AllIn (f a : List Nat) : Prop := ∀ c ∈ a, c ∈ f
instance (f a : List Nat) : Decidable (AllIn f a) := by unfold AllIn; infer_instance
def figD (f a : List Nat) : List D := a.map fun c => .bool (decide (c ∈ f))
def figB (f a : List Nat) : List Vl := (figD f a).map .p
@[simp] theorem figB_len (f a : List Nat) : (figB f a).length = a.length := by simp [figB, figD]
@[simp] theorem figB_pures (f a : List Nat) : pures (figB f a) = some (figD f a) := pures_map _
@[simp] theorem figD_all (f a : List Nat) (S : Sto) : allV (.p (.list (figD f a))) S = .ok (.p (.bool (decide (AllIn f a)))) S := by
  unfold figD
  rw [allV_bools]
  congr 3
  rw [Bool.eq_iff_iff, List.all_eq_true, decide_eq_true_iff]
  exact ⟨fun h c hc => of_decide_eq_true (h c hc), fun h c hc => decide_eq_true (h c hc)⟩
@[simp] theorem lcG_figs {i : Nat} {e : Env} (S : Sto) (f a : List Nat) (s : Str) (hs : s = T f) (hi : i < e.length) : lcG (gNm i) mYes (m2 (inV false) (mVar i) (mC (.str s))) (signs (T a)) e S = .ok (figB f a) S := by
  subst hs
  have e2 := lcG_map (g := gNm i) (a := m2 (inV false) (mVar i) (mC (.str (T f)))) (e := e) (S := S) (fun c => .p (.str (T [c]))) (fun c => .p (.bool (decide (c ∈ f)))) a fun c _ =>
    ⟨_, rfl, by
      rw [m2_ap, mVar_ap, List.getElem?_set_self (by simpa using hi)]
      show inV false (.p (.str (T [c]))) (.p (.str (T f))) S = _
      rw [inV_T]
      rfl⟩
  rw [signs_T, e2]
  unfold figB figD
  rw [List.map_map]
  rfl
@[simp] theorem dig_iff (l : List Nat) : AllIn [48, 49, 50, 51, 52, 53, 54, 55, 56, 57] l ↔ Dig l := by
  have := all_dig l
  rw [List.all_eq_true] at this
  rw [← this]
  exact ⟨fun h c hc => decide_eq_true (h c hc), fun h c hc => of_decide_eq_true (h c hc)⟩
@[simp] theorem oJoin_ap (a : Str) (w : Vl) (S : Sto) : oJoin (.p (.str a)) [w] S = (match strsV S w with
    | some ys => if (ys.map (·.length)).sum + ys.length * a.length ≤ 16777216 then .ok (.p (.str (PySem.Txt.join a ys))) S else .bad
    | none => .bad) := rfl
@[simp] theorem strsV_list (ds : List D) (S : Sto) : strsV S (.p (.list ds)) = strsOf ds := by
  simp [strsV]
@[simp] theorem join_T0 (s : List Nat) : Txt.join (T s) [] = T [] := join_T s []
@[simp] theorem join_T1 (s a : List Nat) : Txt.join (T s) [T a] = T a := join_T s [a]
@[simp] theorem join_T2 (s a b : List Nat) : Txt.join (T s) [T a, T b] = T (a ++ (s ++ b)) := join_T s [a, b]
@[simp] theorem join_T3 (s a b c : List Nat) : Txt.join (T s) [T a, T b, T c] = T (a ++ (s ++ (b ++ (s ++ c)))) := join_T s [a, b, c]
@[simp] theorem join_T4 (s a b c d : List Nat) : Txt.join (T s) [T a, T b, T c, T d] = T (a ++ (s ++ (b ++ (s ++ (c ++ (s ++ d)))))) := join_T s [a, b, c, d]
theorem join_map {α : Type} (s : List Nat) (f : α → List Nat) (xs : List α) : Txt.join (T s) (xs.map fun x => T (f x)) = T (TL.joinL s (xs.map f)) := by
  rw [← join_T, List.map_map]
  rfl
theorem fx_front : ∀ (j n : Nat), fx (j + 1) n = (48 + n / 10 ^ j % 10) :: fx j n
  | 0, n => by simp [fx]
  | j + 1, n => by
    rw [fx, fx_front j (n / 10), fx, Nat.div_div_eq_div_mul, Nat.pow_succ, Nat.mul_comm (10 ^ j) 10]
    rfl
end PV

/-! Texts of known lengths. -/
namespace PV
open PySem L2
class Ln (l : List Nat) (n : outParam Nat) : Prop where
  h : l.length ≤ n
theorem ln_of {l : List Nat} (n : Nat) (h : l.length ≤ n) : Ln l n := ⟨h⟩
instance Ln.nil : Ln [] 0 := ⟨Nat.le_refl _⟩
instance Ln.cons {c : Nat} {l : List Nat} {n : Nat} [x : Ln l n] : Ln (c :: l) (n + 1) := ⟨Nat.succ_le_succ x.h⟩
instance Ln.app {a b : List Nat} {m n : Nat} [x : Ln a m] [y : Ln b n] : Ln (a ++ b) (m + n) := ⟨by rw [List.length_append]; exact Nat.add_le_add x.h y.h⟩
instance Ln.take {a : List Nat} {m k : Nat} [x : Ln a m] : Ln (a.take k) m := ⟨Nat.le_trans (List.length_take_le' _ _) x.h⟩
instance Ln.drop {a : List Nat} {m k : Nat} [x : Ln a m] : Ln (a.drop k) m := ⟨by rw [List.length_drop]; exact Nat.le_trans (Nat.sub_le _ _) x.h⟩
theorem cutL_le {α : Type} (a : List α) (lo hi : Option Int) : (cutL a lo hi).length ≤ a.length := by
  unfold cutL
  exact Nat.le_trans (List.length_take_le' _ _) (by rw [List.length_drop]; exact Nat.sub_le _ _)
instance Ln.cut {a : List Nat} {m : Nat} {lo hi : Option Int} [x : Ln a m] : Ln (cutL a lo hi) m := ⟨Nat.le_trans (cutL_le a lo hi) x.h⟩
instance Ln.dropLast {a : List Nat} {m : Nat} [x : Ln a m] : Ln a.dropLast m := ⟨by rw [List.length_dropLast]; exact Nat.le_trans (Nat.sub_le _ _) x.h⟩
instance Ln.ite {c : Prop} [Decidable c] {a b : List Nat} {m n : Nat} [x : Ln a m] [y : Ln b n] : Ln (if c then a else b) (m + n) := ⟨by
  split
  · exact Nat.le_trans x.h (Nat.le_add_right _ _)
  · exact Nat.le_trans y.h (Nat.le_add_left _ _)⟩
instance Ln.fx {k n : Nat} : Ln (fx (no_index (OfNat.ofNat k)) n) k := ⟨by rw [fx_len]; exact Nat.le_refl _⟩
@[simp high] theorem addV_ln {a b : List Nat} {m n : Nat} (S : Sto) [x : Ln a m] [y : Ln b n] (h : m + n ≤ 16777216) : addV (.p (.str (T a))) (.p (.str (T b))) S = .ok (.p (.str (T (a ++ b)))) S := by
  rw [addV_str, T_len, T_len, if_pos (Nat.le_trans (Nat.add_le_add x.h y.h) (by rw [sz_line]; exact h)), T_cat]
@[simp high] theorem slV_ln {a : List Nat} {n : Nat} (lo hi : Option Int) (S : Sto) [x : Ln a n] (h : n ≤ 16777216) : slV (.p (.str (T a))) lo hi S = .ok (.p (.str (T (cutL a lo hi)))) S := by
  rw [slV_T, if_pos (Nat.le_trans x.h h)]
@[simp high] theorem ixV_ln {a : List Nat} {n : Nat} (i : Int) (S : Sto) [x : Ln a n] (h : n ≤ 16777216) : ixV (.p (.str (T a))) (.p (.int i)) S = (match atI a i with
    | some c => .ok (.p (.str (T [c]))) S
    | none => .bad) := by
  rw [ixV_T, if_pos (Nat.le_trans x.h h)] <;> rfl
@[simp high] theorem lenV_ln {a : List Nat} {n : Nat} (S : Sto) [x : Ln a n] (h : n ≤ 16777216) : lenV (.p (.str (T a))) S = .ok (.p (.int a.length)) S := by
  rw [lenV_T, if_pos (Nat.le_trans x.h h)]
@[simp] theorem ordV_T (c : Nat) (S : Sto) : ordV (.p (.str (T [c]))) S = .ok (.p (.int (c : Int))) S := by
  simp [ordV, T, Str.length]
theorem pickT (xs : List (List Nat)) (i : Int) (n : Nat) (h0 : 0 ≤ i) (h : i < xs.length) (hp : ∀ x ∈ xs, x.length ≤ n) : ∃ q : List Nat, atI (xs.map fun x => Vl.p (.str (T x))) i = some (.p (.str (T q))) ∧ Ln q n := by
  rw [atI_pos _ h0, List.getElem?_map, List.getElem?_eq_getElem (show i.toNat < xs.length by omega)]
  exact ⟨_, rfl, ⟨hp _ (List.getElem_mem _)⟩⟩
theorem pickC (xs : List Nat) (i : Int) (h0 : 0 ≤ i) (h : i < xs.length) : ∃ q : Nat, atI xs i = some q ∧ q ∈ xs := by
  rw [atI_pos _ h0, List.getElem?_eq_getElem (show i.toNat < xs.length by omega)]
  exact ⟨_, rfl, List.getElem_mem _⟩
/-- a picked sign of a text -/
theorem signs_val (p : List Nat) : ∀ n : Nat, Dig p → p.foldl (fun (v : Int) (c : Nat) => v * 10 + (c : Int) - 48) (n : Int) = ((p.foldl (fun v c => v * 10 + (c - 48)) n : Nat) : Int) := by
  induction p with
  | nil => intro n _; rfl
  | cons c p ih =>
    intro n h
    have hc := h c List.mem_cons_self
    rw [List.foldl_cons, List.foldl_cons, ← ih _ fun d hd => h d (List.mem_cons_of_mem _ hd)]
    congr 1
    omega
end PV

/-! Cycles: where spans begin; the laws' drawing of first days and cycles. -/
namespace PV
open PySem L2
theorem whole_k10 (i : Int) (S : Sto) : F_whole_k10 [.p (.int i)] S = .ok (.p (.bool true)) S := by
  simp [F_whole_k10, M_whole_k10, initE]
/-! ### months on, by the day's number -/
noncomputable def dateD (n : Int) : Int × Int × Int := by
  classical
  exact if h : 0 ≤ n ∧ n ≤ 3652058 then ((dayOf_ex h).choose, (dayOf_ex h).choose_spec.choose, (dayOf_ex h).choose_spec.choose_spec.choose) else (1, 1, 1)
theorem dateD_ok {n : Int} (h : 0 ≤ n ∧ n ≤ 3652058) : IsDate (dateD n).1 (dateD n).2.1 (dateD n).2.2 ∧ dayNo (dateD n).1 (dateD n).2.1 (dateD n).2.2 = n := by
  unfold dateD
  rw [dif_pos h]
  exact (dayOf_ex h).choose_spec.choose_spec.choose_spec
/-- the month of a day -/
noncomputable def monD (n : Int) : Int := (dateD n).1 * 12 + (dateD n).2.1 - 1
noncomputable def onD (n many : Int) : Int := dayNo ((monD n + many) / 12) ((monD n + many) % 12 + 1) (sameDay (monD n + many) (dateD n).2.2)
theorem monD_bd {n N : Int} {y : Int} (h : 0 ≤ n ∧ n ≤ 3652058) (h2 : n < ahead (y + 1)) : 12 ≤ monD n ∧ monD n ≤ y * 12 + 11 := by
  obtain ⟨h3, h4⟩ := dateD_ok h
  have a := h3.1
  have b := h3.2.1
  have : (dateD n).1 ≤ y := by
    rcases Int.lt_or_le y (dateD n).1 with z | z
    · have c := ahead_mono (y := y + 1) (z := (dateD n).1) z
      have := h3.no
      omega
    · exact z
  unfold monD
  omega
theorem monD_lo {n : Int} (h : 0 ≤ n ∧ n ≤ 3652058) : 12 ≤ monD n := by
  have := (dateD_ok h).1
  have a := this.1
  have b := this.2.1
  unfold monD
  omega
theorem monD_hi {n : Int} (h : 0 ≤ n ∧ n ≤ 3500000) : monD n ≤ 9583 * 12 + 11 := by
  have e : ahead (9583 + 1) = 3500118 := by decide
  exact (monD_bd (N := 0) (y := 9583) ⟨h.1, by omega⟩ (by omega)).2
theorem months_on_D {n many : Int} (S : Sto) (h : 0 ≤ n ∧ n ≤ 3652058) (h2 : 12 ≤ monD n + many) (h3 : monD n + many < 120000) : F_months_on [.p (.int n), .p (.int many)] S = .ok (.p (.int (onD n many))) S := by
  obtain ⟨h4, h5⟩ := dateD_ok h
  have := months_on_ok h4 many S (by unfold monNo; unfold monD at *; omega)
  rw [h5] at this
  exact this
theorem onD_date {n many : Int} (h : 0 ≤ n ∧ n ≤ 3652058) (h2 : 12 ≤ monD n + many) (h3 : monD n + many < 120000) : IsDate ((monD n + many) / 12) ((monD n + many) % 12 + 1) (sameDay (monD n + many) (dateD n).2.2) :=
  sameDay_date (by omega) (dateD_ok h).1.2.2.1
theorem onD_bd {n many : Int} (h : 0 ≤ n ∧ n ≤ 3652058) (h2 : 12 ≤ monD n + many) (h3 : monD n + many < 120000) : 0 ≤ onD n many ∧ onD n many ≤ 3652058 := (onD_date h h2 h3).no.2.2
theorem dayNo_mono {t t2 d d2 : Int} (h : t < t2) (hd : IsDate (t / 12) (t % 12 + 1) d) (hd2 : IsDate (t2 / 12) (t2 % 12 + 1) d2) : dayNo (t / 12) (t % 12 + 1) d < dayNo (t2 / 12) (t2 % 12 + 1) d2 := by
  rcases Int.lt_or_le (t / 12) (t2 / 12) with z | z
  · have a := ahead_mono (y := t / 12 + 1) (z := t2 / 12) z
    have b := hd.no
    have c := hd2.no
    omega
  · have e : t / 12 = t2 / 12 := by omega
    have a := before_up (y := t / 12) (m := t % 12 + 1) (k := t2 % 12 + 1) (by omega) (by omega) (by omega)
    have b := hd.2.2
    have c := hd2.2.2
    rw [← e] at c ⊢
    unfold dayNo
    omega
theorem onD_mono {n a b : Int} (h : 0 ≤ n ∧ n ≤ 3652058) (hab : a < b) (h2 : 12 ≤ monD n + a) (h3 : monD n + b < 120000) : onD n a < onD n b := dayNo_mono (by omega) (onD_date h h2 (by omega)) (onD_date h (by omega) h3)
/-! ### cycles -/
structure Cy where
  days : Bool
  many : Int
def Cy.d (c : Cy) : D := .tuple [.str (if c.days then "days" else "months"), .int c.many]
def Cy.Ok (c : Cy) : Prop := 1 ≤ c.many ∧ c.many ≤ if c.days then 400 else 12
/-- where the k-th span begins -/
noncomputable def beg (n : Int) (c : Cy) (k : Int) : Int := if c.days then n + k * c.many else onD n (k * c.many)
theorem km {c : Cy} {k : Int} (hc : c.Ok) (hk : 0 ≤ k ∧ k ≤ 60) (hd : c.days = false) : 0 ≤ k * c.many ∧ k * c.many ≤ 720 := by
  obtain ⟨h1, h2⟩ := hc
  rw [hd] at h2
  simp at h2
  exact ⟨Int.mul_nonneg hk.1 (by omega), by have := Int.mul_le_mul hk.2 h2 (by omega) (by omega); omega⟩
theorem kd {c : Cy} {k : Int} (hc : c.Ok) (hk : 0 ≤ k ∧ k ≤ 60) : 0 ≤ k * c.many ∧ k * c.many ≤ 24000 := by
  obtain ⟨h1, h2⟩ := hc
  have h3 : c.many ≤ 400 := by split at h2 <;> omega
  exact ⟨Int.mul_nonneg hk.1 (by omega), by have := Int.mul_le_mul hk.2 h3 (by omega) (by omega); omega⟩
def FirstOk (n : Int) : Prop := 0 ≤ n ∧ n ≤ 3500000
theorem beg_bd {n : Int} {c : Cy} {k : Int} (hn : FirstOk n) (hc : c.Ok) (hk : 0 ≤ k ∧ k ≤ 60) : 0 ≤ beg n c k ∧ beg n c k ≤ 3652058 := by
  have h1 := monD_hi hn
  obtain ⟨h3, h4⟩ := hn
  have h2 := monD_lo (n := n) ⟨h3, by omega⟩
  unfold beg
  by_cases q : c.days
  · rw [if_pos q]
    have := kd hc hk
    omega
  · rw [if_neg q]
    have := km hc hk (by simpa using q)
    exact onD_bd ⟨h3, by omega⟩ (by omega) (by omega)
theorem beg_mono {n : Int} {c : Cy} {j k : Int} (hn : FirstOk n) (hc : c.Ok) (hj : 0 ≤ j) (hjk : j < k) (hk : k ≤ 60) : beg n c j < beg n c k := by
  have h1 := monD_hi hn
  obtain ⟨h3, h4⟩ := hn
  have h2 := monD_lo (n := n) ⟨h3, by omega⟩
  have h5 : j * c.many < k * c.many := Int.mul_lt_mul_of_pos_right hjk (by have := hc.1; omega)
  unfold beg
  by_cases q : c.days
  · rw [if_pos q, if_pos q]
    omega
  · rw [if_neg q, if_neg q]
    have a := km hc (k := j) (by omega) (by simpa using q)
    have b := km hc (k := k) (by omega) (by simpa using q)
    exact onD_mono ⟨h3, by omega⟩ h5 (by omega) (by omega)
theorem beg_0 {n : Int} {c : Cy} (hn : FirstOk n) : beg n c 0 = n := by
  unfold beg
  by_cases q : c.days
  · rw [if_pos q]; omega
  · rw [if_neg q]
    obtain ⟨h3, h4⟩ := hn
    obtain ⟨a, b⟩ := dateD_ok (n := n) ⟨h3, by omega⟩
    have a1 := a.1
    have a2 := a.2.1
    unfold onD
    rw [show monD n + 0 * c.many = monD n by omega, show monD n / 12 = (dateD n).1 by unfold monD; omega, show monD n % 12 + 1 = (dateD n).2.1 by unfold monD; omega]
    unfold sameDay
    rw [show monD n / 12 = (dateD n).1 by unfold monD; omega, show monD n % 12 + 1 = (dateD n).2.1 by unfold monD; omega, if_neg (by have := a.2.2; omega), b]
/-! ### what the program computes -/
/-- the object of a cycle -/
def Cy.e (n : Int) (c : Cy) : Ent := .obj (if c.days then 20 else 21) [("first", .p (.int n)), ("many", .p (.int c.many))]
theorem cycle_of_ok (n : Int) (c : Cy) (S : Sto) : F_cycle_of_m [.p (.int n), .p c.d] S = .ok (.r S.length) (S ++ [c.e n]) := by
  obtain ⟨q, m⟩ := c
  cases q <;> simp [F_cycle_of_m, M_cycle_of_m, initE, Cy.d, Cy.e, F_Days___init__, M_Days___init__, F_Months___init__, M_Months___init__]
theorem begin_at_ok {n : Int} {c : Cy} {k : Int} (S : Sto) (hn : FirstOk n) (hc : c.Ok) (hk : 0 ≤ k ∧ k ≤ 60) : (if c.days then F_Days_begin_at else F_Months_begin_at) [.r S.length, .p (.int k)] (S ++ [c.e n]) = .ok (.p (.int (beg n c k))) (S ++ [c.e n]) := by
  have h1 := monD_hi hn
  obtain ⟨h3, h4⟩ := hn
  have h2 := monD_lo (n := n) ⟨h3, by omega⟩
  have b1 := bdI (i := k) (by omega)
  have b2 := bdI (i := c.many) (by obtain ⟨h1, h2⟩ := hc; split at h2 <;> omega)
  obtain ⟨q, m⟩ := c
  cases q
  · have a := km hc hk rfl
    have e := fun S => months_on_D (n := n) (many := k * m) S ⟨h3, by omega⟩ (by simp at a; omega) (by simp at a; omega)
    simp [F_Months_begin_at, M_Months_begin_at, initE, Cy.e, beg, e]
  · simp [F_Days_begin_at, M_Days_begin_at, initE, Cy.e, beg]
theorem begin_of_ok {n : Int} {c : Cy} {k : Int} (S : Sto) (hn : FirstOk n) (hc : c.Ok) (hk : 0 ≤ k ∧ k ≤ 60) : F_begin_of [.p (.int n), .p c.d, .p (.int k)] S = .ok (.p (.int (beg n c k))) S := by
  have e1 := begin_at_ok S hn hc hk
  have e2 := cycle_of_ok n c S
  have h1 : ¬ (k < 0) := by omega
  have h2 : ¬ (60 < k) := by omega
  obtain ⟨q, m⟩ := c
  cases q <;> simp [Cy.e, -fnOf_ap] at e1 e2 <;> simp [F_begin_of, M_begin_of, initE, h1, h2, e2, e1]
theorem begin_of_lo {n : Int} {c : D} {k : Int} (S : Sto) (hk : k < 0) : F_begin_of [.p (.int n), .p c, .p (.int k)] S = .exc 4 none S := by
  simp [F_begin_of, M_begin_of, initE, hk]
theorem begin_of_hi {n : Int} {c : D} {k : Int} (S : Sto) (hk : 60 < k) : F_begin_of [.p (.int n), .p c, .p (.int k)] S = .exc 5 none S := by
  have h1 : ¬ (k < 0) := by omega
  simp [F_begin_of, M_begin_of, initE, h1, hk]
/-! ### what the laws draw -/
theorem starts_k20 {y : Int} (S : Sto) (h : 0 ≤ y ∧ y ≤ 20000) : F_starts_k20 [.p (.int y)] S = .ok (.p (.int (ahead y))) S := by
  have := bdI (i := y) (by omega)
  simp [F_starts_k20, M_starts_k20, initE, ahead]
theorem length_k20 {y m : Int} (S : Sto) (h : 0 ≤ y ∧ y < 20000) (h2 : 1 ≤ m ∧ m ≤ 12) : F_length_k20 [.p (.int y), .p (.int m)] S = .ok (.p (.int (long y m))) S := by
  have e1 := fun S => starts_k20 (y := y) S (by omega)
  have e2 := fun S => starts_k20 (y := y + 1) S (by omega)
  have e3 : 28 + ahead (y + 1) - ahead y - 365 = 28 + lp y := by rw [ahead_succ]; omega
  obtain rfl | rfl | rfl | rfl | rfl | rfl | rfl | rfl | rfl | rfl | rfl | rfl : m = 1 ∨ m = 2 ∨ m = 3 ∨ m = 4 ∨ m = 5 ∨ m = 6 ∨ m = 7 ∨ m = 8 ∨ m = 9 ∨ m = 10 ∨ m = 11 ∨ m = 12 := by omega
  all_goals simp [F_length_k20, M_length_k20, initE, e1, e2, e3, long]
theorem day_k20 {y m d : Int} (S : Sto) (h : 0 ≤ y ∧ y < 20000) (h2 : 1 ≤ m ∧ m ≤ 12) : F_day_k20 [.p (.int y), .p (.int m), .p (.int d)] S = .ok (.p (.int (dayNo y m d))) S := by
  have e2 := fun S => starts_k20 (y := y) S (by omega)
  have e4 := fun S => lcG_map (g := gNm 3) (a := mCall F_length_k20 [mVar 0, mVar 3]) (e := [some (.p (.int y)), some (.p (.int m)), some (.p (.int d)), none]) (S := S) (fun k => .p (.int k)) (fun k => .p (.int (long y k))) (iR 1 m) fun k hk => by
    have := mem_iR.mp hk
    exact ⟨_, rfl, by simp [length_k20 S h (m := k) (by omega)]⟩
  have e5 : ((iR 1 m).map (long y)).sum = before y m := by
    have := before_sum (y := y) (m - 1).toNat (by omega)
    rwa [show ((m - 1).toNat : Int) + 1 = m by omega] at this
  have e6 := sumV_ints ((iR 1 m).map (long y)) S
  rw [e5] at e6
  have := bdI (i := m) (by omega)
  have e7 : (m - 1).toNat ≤ 16777216 := by omega
  simp [Function.comp_def] at e6 e7
  simp [F_day_k20, M_day_k20, initE, e2, e4, e7, Function.comp_def, e6, dayNo]
theorem pickG {α : Type} (f : α → Vl) (xs : List α) (i : Int) (Q : α → Prop) (h0 : 0 ≤ i) (h : i < xs.length) (hp : ∀ x ∈ xs, Q x) : ∃ q : α, atI (xs.map f) i = some (f q) ∧ Q q := by
  rw [atI_pos _ h0, List.getElem?_map, List.getElem?_eq_getElem (show i.toNat < xs.length by omega)]
  exact ⟨_, rfl, hp _ (List.getElem_mem _)⟩
theorem dayNo_first {y m d : Int} (h : 1 ≤ y ∧ y ≤ 9503) (h2 : 1 ≤ m ∧ m ≤ 12) (h3 : 1 ≤ d ∧ d ≤ 31) : 0 ≤ dayNo y m d ∧ dayNo y m d < 3500001 := by
  have a1 := ahead_mono (y := 1) (z := y) h.1
  have a2 := ahead_mono (y := y) (z := 9503) (by omega)
  have a3 : ahead 1 = 0 := by decide
  have a4 : ahead 9503 = 3470533 := by decide
  have b2 := before_bd (y := y) (m := m) (by omega)
  have b4 := lp_cases y
  unfold dayNo
  omega
theorem first_k20 (c : Int) (S : Sto) : ∃ n : Int, F_first_k20 [.p (.int c)] S = .ok (.p (.int n)) S ∧ FirstOk n := by
  have hy : 4 ≤ 4 + c / 32 % 9500 ∧ 4 + c / 32 % 9500 ≤ 9503 := by omega
  generalize hg : 4 + c / 32 % 9500 = y at hy
  have k := fun m d S (h2 : 1 ≤ m ∧ m ≤ 12) => day_k20 (y := y) (m := m) (d := d) S (by omega) h2
  have k3 := fun m d S (h2 : 1 ≤ m ∧ m ≤ 12) => day_k20 (y := y / 4 * 4) (m := m) (d := d) S (by omega) h2
  have f := fun m d (h2 : 1 ≤ m ∧ m ≤ 12) (h3 : 1 ≤ d ∧ d ≤ 31) => dayNo_first (y := y) (m := m) (d := d) (by omega) h2 h3
  have f3 := dayNo_first (y := y / 4 * 4) (m := 2) (d := 29) (by omega) (by omega) (by omega)
  obtain ⟨n, e, h1, h2⟩ := pick [0, 3500000, dayNo y 1 31, dayNo y 1 30, dayNo (y / 4 * 4) 2 29, dayNo y 8 31, dayNo y 12 31, c / 32 % 3500001] (c / 4 % 8) 0 3500001 (by omega) (by simp; omega) (by
    have a1 := f 1 31 (by decide) (by decide)
    have a2 := f 1 30 (by decide) (by decide)
    have a3 := f 8 31 (by decide) (by decide)
    have a4 := f 12 31 (by decide) (by decide)
    simp only [List.mem_cons, List.not_mem_nil, or_false]
    rintro x (rfl | rfl | rfl | rfl | rfl | rfl | rfl | rfl) <;> omega)
  have by' := bdI (i := y) (by omega)
  have g1 := fun S => k 1 31 S (by decide)
  have g2 := fun S => k 1 30 S (by decide)
  have g3 := fun S => k 8 31 S (by decide)
  have g4 := fun S => k 12 31 S (by decide)
  have g5 := fun S => k3 2 29 S (by decide)
  simp only [List.map_cons, List.map_nil] at e
  exact ⟨n, by simp [F_first_k20, M_first_k20, initE, hg, g1, g2, g3, g4, g5, e], h1, by omega⟩
theorem cycle_k20 (c : Int) (S : Sto) : ∃ y : Cy, F_cycle_k20 [.p (.int c)] S = .ok (.p y.d) S ∧ y.Ok := by
  obtain ⟨y, e, h⟩ := pickG (fun y : Cy => .p y.d) [⟨true, 1 + c / 8 % 40⟩, ⟨true, 28 + c / 8 % 4⟩, ⟨false, 1⟩, ⟨false, 1 + c / 8 % 3⟩, ⟨true, 1 + c / 8 % 7⟩, ⟨false, 1 + c / 8 % 12⟩, ⟨false, 12⟩, ⟨true, 1 + c / 8 % 400⟩] (c % 8) Cy.Ok (by omega) (by simp; omega) (by
    simp only [List.mem_cons, List.not_mem_nil, or_false]
    rintro x (rfl | rfl | rfl | rfl | rfl | rfl | rfl | rfl) <;> simp [Cy.Ok] <;> omega)
  simp [Cy.d] at e
  exact ⟨y, by simp [F_cycle_k20, M_cycle_k20, initE, e, Cy.d], h⟩
theorem year_k20 {n many : Int} (S : Sto) (hn : n ≤ 3652058) {y0 : Int} (h : 1 ≤ y0 ∧ y0 ≤ 10000 ∧ ahead y0 ≤ n) : ∃ y, sWhile (m2 leV (mCall F_starts_k20 [m2 addV (mVar 2) (mC (.int 1))]) (mVar 0)) M_months_on_k20_b1 [some (.p (.int n)), some (.p (.int many)), some (.p (.int y0)), none, none] S = .nx [some (.p (.int n)), some (.p (.int many)), some (.p (.int y)), none, none] S ∧ 1 ≤ y ∧ y ≤ 9999 ∧ ahead y ≤ n ∧ n < ahead (y + 1) :=
  while_inv (α := Int) (fun y => [some (.p (.int n)), some (.p (.int many)), some (.p (.int y)), none, none]) (fun _ => S) (fun y => 1 ≤ y ∧ y ≤ 10000 ∧ ahead y ≤ n) (fun y => 1 ≤ y ∧ y ≤ 9999 ∧ ahead y ≤ n ∧ n < ahead (y + 1)) (fun y => (20000 - y).toNat) (fun y hy => by
    have e := starts_k20 (y := y + 1) S (by omega)
    have h9 : y ≤ 9999 := by
      have a4 : ahead 10000 = 3652059 := by decide
      have : y ≠ 10000 := fun z => by subst z; omega
      omega
    by_cases q : ahead (y + 1) ≤ n
    · exact .inr ⟨by simp [e, q], y + 1, by simp [M_months_on_k20_b1], by omega, by omega⟩
    · exact .inl ⟨by simp [e, q], by omega⟩) ((20000 - y0).toNat + 1) y0 (Nat.lt_succ_self _) h
theorem month_k20 {n many y : Int} (S : Sto) (hy : 1 ≤ y ∧ y ≤ 9999) (h2 : n < ahead (y + 1)) {l0 : Int} (hl : l0 = n - ahead y) (h0 : 0 ≤ l0) : ∃ lm : Int × Int, sWhile (m2 geV (mVar 3) (mCall F_length_k20 [mVar 2, mVar 4])) M_months_on_k20_b2 [some (.p (.int n)), some (.p (.int many)), some (.p (.int y)), some (.p (.int l0)), some (.p (.int 1))] S
      = .nx [some (.p (.int n)), some (.p (.int many)), some (.p (.int y)), some (.p (.int lm.1)), some (.p (.int lm.2))] S ∧ IsDate y lm.2 (lm.1 + 1) ∧ dayNo y lm.2 (lm.1 + 1) = n := by
  subst hl
  exact while_inv (α := Int × Int) (fun lm => [some (.p (.int n)), some (.p (.int many)), some (.p (.int y)), some (.p (.int lm.1)), some (.p (.int lm.2))]) (fun _ => S) (fun lm => 0 ≤ lm.1 ∧ 1 ≤ lm.2 ∧ lm.2 ≤ 12 ∧ lm.1 + before y lm.2 = n - ahead y) (fun lm => IsDate y lm.2 (lm.1 + 1) ∧ dayNo y lm.2 (lm.1 + 1) = n) (fun lm => (20 - lm.2).toNat) (fun lm hy2 => by
    obtain ⟨l, m⟩ := lm
    simp only at hy2 ⊢
    have e := length_k20 (y := y) (m := m) S (by omega) (by omega)
    by_cases q : long y m ≤ l
    · refine .inr ⟨by simp [e, q], (l - long y m, m + 1), by simp [M_months_on_k20_b2, e], ?_, by simp only; omega⟩
      have b1 := before_succ (y := y) (m := m) (by omega)
      have b2 := ahead_succ y
      simp only
      have : m ≠ 12 := fun z => by
        subst z
        have b3 := before_13 y
        simp only [Int.reduceAdd] at b1
        omega
      omega
    · refine .inl ⟨by simp [e, q], ⟨hy, by omega, by omega⟩, ?_⟩
      unfold dayNo
      omega) 20 (n - ahead y, 1) (show (19 : Nat) < 20 by decide) ⟨h0, show (1 : Int) ≤ 1 by decide, show (1 : Int) ≤ 12 by decide, by simp only [before_1]; omega⟩
theorem months_on_k20 {n many : Int} (S : Sto) (h : 0 ≤ n ∧ n ≤ 3652058) (h2 : 12 ≤ monD n + many) (h3 : monD n + many < 120000) : F_months_on_k20 [.p (.int n), .p (.int many)] S = .ok (.p (.int (onD n many))) S := by
  obtain ⟨y, e2, b1, b2, b3, b4⟩ := year_k20 (many := many) S h.2 (y0 := n / 366 + 1) (by unfold ahead; omega)
  obtain ⟨⟨l, m⟩, e3, c1, c2⟩ := month_k20 (many := many) S ⟨b1, b2⟩ b4 (l0 := n - ahead y) rfl (by omega)
  simp only at e3 c1 c2
  obtain ⟨d1, d2⟩ := dateD_ok h
  obtain ⟨g1, g2, g3⟩ := dayNo_inj d1 c1 (d2.trans c2.symm)
  have bn := bdI (i := n) (by omega)
  have by' := bdI (i := y) (by omega)
  have ea := fun S => starts_k20 (y := y) S (by omega)
  have em : y * 12 + m - 1 + many = monD n + many := by unfold monD; rw [g1, g2]
  generalize ht : monD n + many = t at *
  have e4 := fun S => length_k20 (y := t / 12) (m := t % 12 + 1) S (by omega) (by omega)
  have e5 := fun d S => day_k20 (y := t / 12) (m := t % 12 + 1) (d := d) S (by omega) (by omega)
  simp [F_months_on_k20, M_months_on_k20, initE, e2, e3, ea, em, e4, e5, onD, ht, g3, sameDay]
theorem begins_k20 {n : Int} {c : Cy} {N : Int} (S : Sto) (hn : FirstOk n) (hc : c.Ok) (hN : 0 ≤ N ∧ N ≤ 60) : F_begins_k20 [.p (.int n), .p c.d, .p (.int N)] S = .ok (.p (.list ((iR 0 (N + 1)).map fun k => .int (beg n c k)))) S := by
  have h1 := monD_hi hn
  obtain ⟨h3, h4⟩ := hn
  have h2 := monD_lo (n := n) ⟨h3, by omega⟩
  have b2 := bdI (i := c.many) (by obtain ⟨h1, h2⟩ := hc; split at h2 <;> omega)
  have bN := bdI (i := N + 1) (by omega)
  have lN : (N + 1).toNat ≤ 16777216 := by omega
  obtain ⟨q, m⟩ := c
  cases q
  · have e4 := lcG_map (g := gNm 3) (a := mCall F_months_on_k20 [mVar 0, m2 mulV (mVar 3) (m2 ixV (mVar 1) (mC (.int 1)))]) (e := [some (.p (.int n)), some (.p (Cy.d ⟨false, m⟩)), some (.p (.int N)), none]) (S := S) (fun k => .p (.int k)) (fun k => .p (.int (beg n ⟨false, m⟩ k))) (iR 0 (N + 1)) fun k hk => by
      have hk' := mem_iR.mp hk
      have := bdI (i := k) (by omega)
      have a := km hc (k := k) (by omega) rfl
      have e := fun S => months_on_k20 (n := n) (many := k * m) S ⟨h3, by omega⟩ (by simp at a; omega) (by simp at a; omega)
      exact ⟨_, rfl, by simp at *; simp [Cy.d, beg, e]⟩
    simp [Cy.d] at e4
    simp [F_begins_k20, M_begins_k20, initE, Cy.d, e4, Function.comp_def, lN]
  · have e4 := lcG_map (g := gNm 3) (a := m2 addV (mVar 0) (m2 mulV (mVar 3) (m2 ixV (mVar 1) (mC (.int 1))))) (e := [some (.p (.int n)), some (.p (Cy.d ⟨true, m⟩)), some (.p (.int N)), none]) (S := S) (fun k => .p (.int k)) (fun k => .p (.int (beg n ⟨true, m⟩ k))) (iR 0 (N + 1)) fun k hk => by
      have hk' := mem_iR.mp hk
      have := bdI (i := k) (by omega)
      exact ⟨_, rfl, by simp at *; simp [Cy.d, beg]⟩
    simp [Cy.d] at e4
    simp [F_begins_k20, M_begins_k20, initE, Cy.d, e4, Function.comp_def, lN]
end PV

/-! Spans: the one in which a day lies. -/
namespace PV
open PySem L2
theorem monD_date {n : Int} (h : 0 ≤ n ∧ n ≤ 3652058) : (dateD n).1 = monD n / 12 ∧ (dateD n).2.1 = monD n % 12 + 1 := by
  have := (dateD_ok h).1
  have a := this.1
  have b := this.2.1
  unfold monD
  omega
theorem monD_mono {a b : Int} (ha : 0 ≤ a ∧ a ≤ 3652058) (hb : 0 ≤ b ∧ b ≤ 3652058) (h : a ≤ b) : monD a ≤ monD b := by
  rcases Int.lt_or_le (monD b) (monD a) with z | z
  · obtain ⟨a1, a2⟩ := dateD_ok ha
    obtain ⟨b1, b2⟩ := dateD_ok hb
    rw [(monD_date ha).1, (monD_date ha).2] at a1 a2
    rw [(monD_date hb).1, (monD_date hb).2] at b1 b2
    have := dayNo_mono z b1 a1
    omega
  · exact z
theorem dateD_no {y m d : Int} (h : IsDate y m d) : dateD (dayNo y m d) = (y, m, d) := by
  obtain ⟨a, b⟩ := dateD_ok ⟨h.no.2.2.1, h.no.2.2.2⟩
  obtain ⟨h1, h2, h3⟩ := dayNo_inj a h b
  exact Prod.ext h1 (Prod.ext h2 h3)
theorem monD_onD {n many : Int} (h : 0 ≤ n ∧ n ≤ 3652058) (h2 : 12 ≤ monD n + many) (h3 : monD n + many < 120000) : monD (onD n many) = monD n + many := by
  have e : dateD (onD n many) = _ := dateD_no (onD_date h h2 h3)
  unfold monD at e ⊢
  rw [e]
  simp only
  omega
theorem date_of_D {n : Int} (h : 0 ≤ n ∧ n ≤ 3652058) (S : Sto) : F_date_of [.p (.int n)] S = .ok (.p (.tuple [.int (dateD n).1, .int (dateD n).2.1, .int (dateD n).2.2])) S := by
  obtain ⟨a, b⟩ := dateD_ok h
  have := date_of_ok a S
  rwa [b] at this
/-- the day lies in the k-th span -/
def InSpan (n : Int) (c : Cy) (k day : Int) : Prop := beg n c k ≤ day ∧ day < beg n c (k + 1)
theorem span_ex {n : Int} {c : Cy} {day : Int} (hn : FirstOk n) : ∀ m : Nat, n ≤ day → day < beg n c m → ∃ k : Int, 0 ≤ k ∧ k < m ∧ InSpan n c k day
  | 0, h, h2 => by
    have : beg n c ((0 : Nat) : Int) = n := beg_0 hn
    omega
  | m + 1, h, h2 => by
    rcases Int.lt_or_le day (beg n c m) with z | z
    · obtain ⟨k, a, b, d⟩ := span_ex hn m h z
      exact ⟨k, a, by omega, d⟩
    · exact ⟨m, by omega, by omega, z, by simpa using h2⟩
theorem InSpan.first {n : Int} {c : Cy} {k day : Int} (h : InSpan n c k day) (hn : FirstOk n) (hc : c.Ok) (hk : 0 ≤ k ∧ k < 60) : n ≤ day := by
  have := beg_0 (c := c) hn
  rcases Int.lt_or_le 0 k with z | z
  · have := beg_mono (j := 0) (k := k) hn hc (by omega) z (by omega)
    have := h.1
    omega
  · have e : k = 0 := by omega
    subst e
    have := h.1
    omega
theorem InSpan.last {n : Int} {c : Cy} {k day : Int} (h : InSpan n c k day) (hn : FirstOk n) (hc : c.Ok) (hk : 0 ≤ k ∧ k < 60) : day < beg n c 60 := by
  have := h.2
  rcases Int.lt_or_le (k + 1) 60 with z | z
  · have := beg_mono (j := k + 1) (k := 60) hn hc (by omega) z (by omega)
    omega
  · rw [show k + 1 = 60 by omega] at this
    exact this
theorem number_on_ok {n : Int} {c : Cy} {k day : Int} (S : Sto) (hn : FirstOk n) (hc : c.Ok) (hk : 0 ≤ k ∧ k < 60) (hd : InSpan n c k day) : (if c.days then F_Days_number_on else F_Months_number_on) [.r S.length, .p (.int day)] (S ++ [c.e n]) = .ok (.p (.int k)) (S ++ [c.e n]) := by
  have h60 := beg_bd (k := k + 1) hn hc (by omega)
  have hbk := beg_bd (k := k) hn hc (by omega)
  have eB := fun j (h : 0 ≤ j ∧ j ≤ 60) => begin_at_ok (k := j) S hn hc h
  have h1 := monD_hi hn
  have hn' := hn
  obtain ⟨h3, h4⟩ := hn
  have h2 := monD_lo (n := n) ⟨h3, by omega⟩
  have hday : 0 ≤ day ∧ day ≤ 3652058 := by have a := hd.1; have b := hd.2; omega
  have b1 := bdI (i := k) (by omega)
  have hm : 1 ≤ c.many ∧ c.many ≤ 400 := by obtain ⟨h1, h2⟩ := hc; split at h2 <;> omega
  have b2 := bdI (i := c.many) (by omega)
  obtain ⟨q, m⟩ := c
  simp only at hm b2
  have hm1 : 0 < m := by omega
  cases q
  · have a := km hc (k := k) (by omega) rfl
    have a' := km hc (k := k + 1) (by omega) rfl
    simp only at a a'
    have g1 : monD n + k * m ≤ monD day := by
      have := monD_mono (a := beg n ⟨false, m⟩ k) ⟨hbk.1, hbk.2⟩ hday hd.1
      have e : monD (beg n ⟨false, m⟩ k) = monD n + k * m := monD_onD ⟨h3, by omega⟩ (by simp only; omega) (by simp only; omega)
      omega
    have g2 : monD day ≤ monD n + (k + 1) * m := by
      have := monD_mono hday (b := beg n ⟨false, m⟩ (k + 1)) ⟨h60.1, h60.2⟩ (Int.le_of_lt hd.2)
      have e : monD (beg n ⟨false, m⟩ (k + 1)) = monD n + (k + 1) * m := monD_onD ⟨h3, by omega⟩ (by simp only; omega) (by simp only; omega)
      omega
    have d1 := date_of_D (n := n) ⟨h3, by omega⟩
    have d2 := date_of_D hday
    have hq : ((dateD day).1 - (dateD n).1) * 12 + (dateD day).2.1 - (dateD n).2.1 = monD day - monD n := by unfold monD; omega
    have x1 := monD_date (n := n) ⟨h3, by omega⟩
    have x2 := monD_date hday
    have x3 := monD_lo hday
    have x4 : monD day ≤ 9999 * 12 + 11 := by have := (dateD_ok hday).1; unfold monD; have a := this.1; have b := this.2.1; omega
    have bx := bdI (i := (dateD day).1) (by omega)
    have by' := bdI (i := (dateD n).1) (by omega)
    have hexp : (k + 1) * m = k * m + m := by rw [Int.add_mul, Int.one_mul]
    have hm200 : m < 1606938044258990275541962092341162602522202993782792835301376 := by omega
    have hkk : (monD day - monD n) / m = k ∨ (monD day - monD n) / m = k + 1 := by
      have l1 : k ≤ (monD day - monD n) / m := (Int.le_ediv_iff_mul_le (by omega)).mpr (by omega)
      have l2 : (monD day - monD n) / m < k + 2 := (Int.ediv_lt_iff_lt_mul (by omega)).mpr (by rw [show k + 2 = k + 1 + 1 by omega, Int.add_mul (k + 1) 1]; omega)
      omega
    rcases hkk with hkk | hkk
    · have e1 := eB k (by omega)
      have e2 : ¬ (day < beg n ⟨false, m⟩ k) := by have := hd.1; omega
      simp [Cy.e, -fnOf_ap] at e1
      simp [F_Months_number_on, M_Months_number_on, initE, Cy.e, d1, d2, hq, hm1, hm200, hkk, e1, e2]
    · have e1 := eB (k + 1) (by omega)
      have e2 : day < beg n ⟨false, m⟩ (k + 1) := hd.2
      simp [Cy.e, -fnOf_ap] at e1
      simp [F_Months_number_on, M_Months_number_on, initE, Cy.e, d1, d2, hq, hm1, hm200, hkk, e1, e2, augI]
  · have hkk : (day - n) / m = k := by
      have g1 : n + k * m ≤ day := hd.1
      have g2 : day < n + (k + 1) * m := hd.2
      have l1 : k ≤ (day - n) / m := (Int.le_ediv_iff_mul_le (by omega)).mpr (by omega)
      have l2 : (day - n) / m < k + 1 := (Int.ediv_lt_iff_lt_mul (by omega)).mpr (by omega)
      omega
    have hm200 : m < 1606938044258990275541962092341162602522202993782792835301376 := by omega
    simp [F_Days_number_on, M_Days_number_on, initE, Cy.e, hm1, hm200, hkk]
theorem span_on_ok {n : Int} {c : Cy} {k day : Int} (S : Sto) (hn : FirstOk n) (hc : c.Ok) (hk : 0 ≤ k ∧ k < 60) (hd : InSpan n c k day) : F_span_on [.p (.int n), .p c.d, .p (.int day)] S = .ok (.p (.tuple [.int k, .int (beg n c k), .int (beg n c (k + 1))])) S := by
  have e1 := begin_at_ok (k := k) S hn hc (by omega)
  have e2 := begin_at_ok (k := k + 1) S hn hc (by omega)
  have e3 := begin_at_ok (k := 60) S hn hc (by omega)
  have e4 := number_on_ok S hn hc hk hd
  have e5 := cycle_of_ok n c S
  have h1 : ¬ (day < n) := by have := hd.first hn hc hk; omega
  have h2 : ¬ (beg n c 60 ≤ day) := by have := hd.last hn hc hk; omega
  obtain ⟨q, m⟩ := c
  cases q <;> simp [Cy.e, -fnOf_ap] at e1 e2 e3 e4 e5 <;> simp [F_span_on, M_span_on, initE, h1, h2, e1, e2, e3, e4, e5]
theorem span_on_lo {n : Int} {c : D} {day : Int} (S : Sto) (h : day < n) : F_span_on [.p (.int n), .p c, .p (.int day)] S = .exc 4 none S := by
  simp [F_span_on, M_span_on, initE, h]
theorem span_on_hi {n : Int} {c : Cy} {day : Int} (S : Sto) (hn : FirstOk n) (hc : c.Ok) (h : beg n c 60 ≤ day) : F_span_on [.p (.int n), .p c.d, .p (.int day)] S = .exc 5 none S := by
  have e3 := begin_at_ok (k := 60) S hn hc (by omega)
  have e5 := cycle_of_ok n c S
  have h1 : ¬ (day < n) := by
    have := beg_0 (c := c) hn
    have := beg_mono (j := 0) (k := 60) hn hc (by omega) (by omega) (by omega)
    omega
  obtain ⟨q, m⟩ := c
  cases q <;> simp [Cy.e, -fnOf_ap] at e3 e5 <;> simp [F_span_on, M_span_on, initE, h1, h, e3, e5]
end PV

/-! Accounts: what check_account takes. -/
namespace PV
open PySem L2
@[simp] theorem kIn_str (neg : Bool) (kvs : List (Str × D)) (z : Str) (S : Sto) : kIn neg kvs (.p (.str z)) S = .ok (.p (.bool (if neg then !(kvs.map (·.1)).contains z else (kvs.map (·.1)).contains z))) S := id rfl
@[simp] theorem kIx_str (kvs : List (Str × D)) (z : Str) (S : Sto) : kIx kvs (.p (.str z)) S = (match kvs.lookup z with
    | some d => .ok (.p d) S
    | none => .bad) := id rfl
@[simp] theorem lookup_sD (k j : Str) (v : D) (l : List (Str × D)) : List.lookup k ((j, v) :: l) = if k = j then some v else l.lookup k := by
  by_cases h : k = j
  · subst h
    rw [if_pos rfl, List.lookup_cons, show (k == k) = true from beq_self_eq_true k]
  · rw [List.lookup_cons, show (k == j) = false from beq_false_of_ne h, if_neg h]
theorem is_between_ok (i a b : Int) (S : Sto) : F_is_between [.p (.int i), .p (.int a), .p (.int b)] S = .ok (.p (.bool (decide (a ≤ i ∧ i ≤ b)))) S := by
  by_cases h1 : a ≤ i <;> by_cases h2 : i ≤ b <;> simp [F_is_between, M_is_between, initE, h1, h2]
theorem is_cycle_ok (c : Cy) (S : Sto) : F_is_cycle [.p c.d] S = .ok (.p (.bool (decide (1 ≤ c.many ∧ c.many ≤ if c.days then 400 else 12)))) S := by
  obtain ⟨q, m⟩ := c
  have e := fun a b S => is_between_ok m a b S
  cases q <;> simp [F_is_cycle, M_is_cycle, initE, Cy.d, e]
structure Pl where
  name : List Nat
  price : Int
  count : Int
def Pl.d (p : Pl) : D := .tuple [.str (T p.name), .int p.price, .int p.count]
def abc : List Nat := [97, 98, 99, 100, 101, 102, 103, 104, 105, 106, 107, 108, 109, 110, 111, 112, 113, 114, 115, 116, 117, 118, 119, 120, 121, 122]
theorem t_abc : Str.ofString "abcdefghijklmnopqrstuvwxyz" = T abc := by decide +kernel
theorem mem_abc {c : Nat} : c ∈ abc ↔ 97 ≤ c ∧ c ≤ 122 := by
  unfold abc
  simp
  omega
def Word (l : List Nat) : Prop := 1 ≤ l.length ∧ l.length ≤ 8 ∧ AllIn abc l
instance (l : List Nat) : Decidable (Word l) := by unfold Word; infer_instance
def Pl.Ok (p : Pl) : Prop := Word p.name ∧ (0 ≤ p.price ∧ p.price ≤ 999999999999999999999999999999) ∧ (0 ≤ p.count ∧ p.count ≤ 400)
instance (p : Pl) : Decidable p.Ok := by unfold Pl.Ok; infer_instance
theorem is_word_ok (l : List Nat) (S : Sto) (hl : l.length ≤ 16777216) : F_is_word [.p (.str (T l))] S = .ok (.p (.bool (decide (Word l)))) S := by
  unfold Word
  by_cases h1 : 1 ≤ l.length
  · by_cases h2 : l.length ≤ 8
    · have h1' : (1 : Int) ≤ (l.length : Int) := by omega
      have h2' : (l.length : Int) ≤ 8 := by omega
      simp [F_is_word, M_is_word, initE, hl, h1, h2, h1', h2', t_abc]
    · have h1' : (1 : Int) ≤ (l.length : Int) := by omega
      have h2' : ¬ ((l.length : Int) ≤ 8) := by omega
      simp [F_is_word, M_is_word, initE, hl, h1, h2, h1', h2']
  · have h1' : ¬ ((1 : Int) ≤ (l.length : Int)) := by omega
    simp [F_is_word, M_is_word, initE, hl, h1, h1']
theorem is_plan_ok (p : Pl) (S : Sto) (hl : p.name.length ≤ 16777216) : F_is_plan [.p p.d] S = .ok (.p (.bool (decide p.Ok))) S := by
  have e1 := fun S => is_word_ok p.name S hl
  have e2 := fun a b S => is_between_ok p.price a b S
  have e3 := fun a b S => is_between_ok p.count a b S
  unfold Pl.Ok
  by_cases h1 : Word p.name
  · by_cases h2 : 0 ≤ p.price ∧ p.price ≤ 999999999999999999999999999999
    · simp [F_is_plan, M_is_plan, initE, Pl.d, e1, e2, e3, h1, h2]
    · simp [F_is_plan, M_is_plan, initE, Pl.d, e1, e2, e3, h1, h2]
  · simp [F_is_plan, M_is_plan, initE, Pl.d, e1, h1]
theorem cntN_nodup {xs : List Str} (h : xs.Nodup) : ∀ i, i ≤ xs.length → cntN xs i = i
  | 0, _ => rfl
  | i + 1, hi => by
    have ih := cntN_nodup h i (by omega)
    have e : (xs.take i).any (· == xs.getD i Str.empty) = false := by
      rw [Bool.eq_false_iff]
      intro z
      obtain ⟨x, hx, hxe⟩ := List.any_eq_true.mp z
      have hxe' : x = xs.getD i Str.empty := by simpa using hxe
      rw [List.getD_eq_getElem?_getD, List.getElem?_eq_getElem (by omega), Option.getD_some] at hxe'
      obtain ⟨j, hj, hje⟩ := List.mem_take_iff_getElem.mp hx
      exact (List.pairwise_iff_getElem.mp h) j i (by omega) (by omega) (by omega) (by rw [hje, hxe'])
    unfold cntN
    rw [ih, e]
    rfl
/-- an account as the laws hand it -/
def acctD (ps : List Pl) (n : Int) (c : Cy) : D := .tuple [.list (ps.map Pl.d), .int n, c.d]
structure AcctOk (ps : List Pl) (n : Int) (c : Cy) : Prop where
  l1 : 1 ≤ ps.length
  l8 : ps.length ≤ 8
  ok : ∀ p ∈ ps, p.Ok
  nd : (ps.map (·.name)).Nodup
  first : FirstOk n
  cy : c.Ok
theorem lenSet_names {ps : List Pl} (S : Sto) (h : (ps.map (·.name)).Nodup) (hl : ps.length < 1000) : lenSet (.p (.list (ps.map fun p => .str (T p.name)))) S = .ok (.p (.int ps.length)) S := by
  have e : strsOf (ps.map fun p => PyData.str (T p.name)) = some (ps.map fun p => T p.name) := by
    have := strsOf_map (ps.map fun p => T p.name)
    rw [List.map_map] at this
    exact this
  have nd : (ps.map fun p => T p.name).Nodup := by
    have : (ps.map fun p => T p.name) = (ps.map (·.name)).map T := by rw [List.map_map]; rfl
    rw [this]
    exact List.Pairwise.map T (fun a b z => by simpa using z) h
  show (match strsOf (ps.map fun p => PyData.str (T p.name)) with
    | some xs => if xs.length < 1000 then R.ok (Vl.p (.int (cntN xs xs.length : Nat))) S else .bad
    | none => .bad) = _
  rw [e]
  show (if _ then _ else _) = _
  rw [if_pos (by simpa using hl), cntN_nodup nd _ (Nat.le_refl _)]
  simp
theorem check_account_ok {ps : List Pl} {n : Int} {c : Cy} (h : AcctOk ps n c) (S : Sto) : F_check_account [.p (acctD ps n c)] S = .ok (.p .none) S := by
  have h1 : (1 : Int) ≤ (ps.length : Int) := by have := h.l1; omega
  have h8 : (ps.length : Int) ≤ 8 := by have := h.l8; omega
  have e1 := fun e S => lcG_map (g := gNm 4) (a := mCall F_is_plan [mVar 4]) (e := [some (.p (acctD ps n c)), some (.p (.list (ps.map Pl.d))), some (.p (.int n)), some (.p c.d), e]) (S := S) (fun p : Pl => .p p.d) (fun _ => .p (.bool true)) ps fun p hp => by
    have ok := h.ok p hp
    have := is_plan_ok p S (by have := ok.1.2.1; omega)
    rw [decide_eq_true ok] at this
    exact ⟨_, rfl, by simp [this]⟩
  have e2 := fun e S => lcG_map (g := gNm 4) (a := m2 ixV (mVar 4) (mC (.int 0))) (e := [some (.p (acctD ps n c)), some (.p (.list (ps.map Pl.d))), some (.p (.int n)), some (.p c.d), e]) (S := S) (fun p : Pl => .p p.d) (fun p => .p (.str (T p.name))) ps fun p _ => ⟨_, rfl, by simp [Pl.d]⟩
  have e3 := fun S => lenSet_names (ps := ps) S h.nd (by have := h.l8; omega)
  have e4 := fun S => is_between_ok n 0 3500000 S
  have e5 := fun S => is_cycle_ok c S
  have c1 : 1 ≤ c.many ∧ c.many ≤ if c.days = true then 400 else 12 := h.cy
  have c2 : 0 ≤ n ∧ n ≤ 3500000 := h.first
  rw [decide_eq_true c2] at e4
  rw [decide_eq_true c1] at e5
  have hl : ps.length ≤ 16777216 := by have := h.l8; omega
  have e6 := fun S => allV_true ps S
  unfold acctD at e1 e2 ⊢
  simp [F_check_account, M_check_account, initE, h1, h8, e1, e2, e3, e4, e5, e6, hl, Function.comp_def]
end PV

/-! Changes; the day from which a term counts. -/
namespace PV
open PySem L2
inductive Ch where
  | plan (d : Int) (nm : List Nat) | seats (d k : Int) | hold (d : Int) | go (d : Int) | stop (d : Int) | last (d : Int) | undo (k : Int) | grant (a : Int) | back
deriving DecidableEq
def Ch.d : Ch → D
  | .plan d nm => .tuple [.str "plan", .int d, .str (T nm)]
  | .seats d k => .tuple [.str "seats", .int d, .int k]
  | .hold d => .tuple [.str "hold", .int d]
  | .go d => .tuple [.str "go", .int d]
  | .stop d => .tuple [.str "stop", .int d]
  | .last d => .tuple [.str "last", .int d]
  | .undo k => .tuple [.str "undo", .int k]
  | .grant a => .tuple [.str "grant", .int a]
  | .back => .tuple [.str "back"]
def Ch.isT : Ch → Bool
  | .undo _ => false
  | .grant _ => false
  | .back => false
  | _ => true
/-- a term's own day -/
def Ch.day : Ch → Int
  | .plan d _ => d
  | .seats d _ => d
  | .hold d => d
  | .go d => d
  | .stop d => d
  | .last d => d
  | _ => 0
theorem pln_ch (c : Ch) : pln 3 c.d = true := by cases c <;> simp [Ch.d]
/-- the number of the span in which a day lies -/
noncomputable def spanK (n : Int) (c : Cy) (d : Int) : Int := by
  classical
  exact if h : ∃ k, 0 ≤ k ∧ k < 60 ∧ InSpan n c k d then h.choose else 0
def InAcct (n : Int) (c : Cy) (d : Int) : Prop := n ≤ d ∧ d < beg n c 60
theorem spanK_ok {n : Int} {c : Cy} {d : Int} (hn : FirstOk n) (h : InAcct n c d) : 0 ≤ spanK n c d ∧ spanK n c d < 60 ∧ InSpan n c (spanK n c d) d := by
  have hx : ∃ k, 0 ≤ k ∧ k < 60 ∧ InSpan n c k d := by
    obtain ⟨k, h1, h2, h3⟩ := span_ex (c := c) (day := d) hn 60 h.1 h.2
    exact ⟨k, h1, h2, h3⟩
  unfold spanK
  rw [dif_pos hx]
  exact hx.choose_spec
theorem beg_le {n : Int} {c : Cy} {j k : Int} (hn : FirstOk n) (hc : c.Ok) (hj : 0 ≤ j) (hjk : j ≤ k) (hk : k ≤ 60) : beg n c j ≤ beg n c k := by
  rcases Int.lt_or_le j k with z | z
  · exact Int.le_of_lt (beg_mono hn hc hj z hk)
  · rw [show j = k by omega]
    exact Int.le_refl _
theorem spanK_eq {n : Int} {c : Cy} {d k : Int} (hn : FirstOk n) (hc : c.Ok) (hk : 0 ≤ k ∧ k < 60) (h : InSpan n c k d) : spanK n c d = k := by
  obtain ⟨h1, h2, h3⟩ := spanK_ok (d := d) hn ⟨h.first hn hc hk, h.last hn hc hk⟩
  generalize spanK n c d = j at *
  rcases Int.lt_trichotomy j k with z | z | z
  · have := beg_le (j := j + 1) (k := k) hn hc (by omega) z (by omega)
    have := h3.2
    have := h.1
    omega
  · exact z
  · have := beg_le (j := k + 1) (k := j) hn hc (by omega) z (by omega)
    have := h3.1
    have := h.2
    omega
/-- the begin of the next span -/
noncomputable def nextB (n : Int) (c : Cy) (d : Int) : Int := beg n c (spanK n c d + 1)
theorem span_on_D {n : Int} {c : Cy} {d : Int} (S : Sto) (hn : FirstOk n) (hc : c.Ok) (h : InAcct n c d) : F_span_on [.p (.int n), .p c.d, .p (.int d)] S = .ok (.p (.tuple [.int (spanK n c d), .int (beg n c (spanK n c d)), .int (nextB n c d)])) S := by
  obtain ⟨h1, h2, h3⟩ := spanK_ok hn h
  exact span_on_ok S hn hc ⟨h1, h2⟩ h3
/-- from when a term counts -/
noncomputable def cf (n : Int) (c : Cy) : Ch → Int
  | .last d => nextB n c d
  | ch => ch.day
def TermOk (n : Int) (c : Cy) (ch : Ch) : Prop := ch.isT = true ∧ InAcct n c ch.day
theorem counts_from_ok {ps : List Pl} {n : Int} {c : Cy} {ch : Ch} (S : Sto) (hn : FirstOk n) (hc : c.Ok) (h : TermOk n c ch) : F_counts_from [.p (acctD ps n c), .p ch.d] S = .ok (.p (.int (cf n c ch))) S := by
  cases ch with
  | last d =>
    have e := fun S => span_on_D (d := d) S hn hc h.2
    simp [F_counts_from, M_counts_from, initE, acctD, Ch.d, e, cf]
  | undo k => cases h.1
  | grant k => cases h.1
  | back => cases h.1
  | _ => simp [F_counts_from, M_counts_from, initE, acctD, Ch.d, cf, Ch.day]
/-- the smallest of a list -/
theorem minOf_le (x : Int) : ∀ (l : List Int) (m : Int), x ≤ m → (∀ y ∈ l, x ≤ y) → (m = x ∨ x ∈ l) → minOf m l = x
  | [], m, h1, h2, h3 => by
    rcases h3 with h3 | h3
    · exact h3
    · cases h3
  | y :: l, m, h1, h2, h3 => by
    unfold minOf
    have hy := h2 y List.mem_cons_self
    refine minOf_le x l _ (by split <;> omega) (fun z hz => h2 z (List.mem_cons_of_mem _ hz)) ?_
    rcases h3 with h3 | h3
    · left
      split <;> omega
    · rcases List.mem_cons.mp h3 with h3 | h3
      · left
        split <;> omega
      · exact .inr h3
theorem minV_of {l : List Int} {x : Int} (S : Sto) (h : x ∈ l) (h2 : ∀ y ∈ l, x ≤ y) : minV (.p (.list (l.map PyData.int))) S = .ok (.p (.int x)) S := by
  cases l with
  | nil => cases h
  | cons m l =>
    rw [List.map_cons, minV_list]
    rw [minOf_le x l m (h2 m List.mem_cons_self) (fun y hy => h2 y (List.mem_cons_of_mem _ hy)) ((List.mem_cons.mp h).imp (fun z => z.symm) id)]
/-- the begins that come behind a day -/
theorem next_min {n : Int} {c : Cy} {d : Int} (S : Sto) (hn : FirstOk n) (hc : c.Ok) (h : InAcct n c d) : minV (.p (.list ((((iR 0 61).map (beg n c)).filter fun b => decide (d < b)).map PyData.int))) S = .ok (.p (.int (nextB n c d))) S := by
  obtain ⟨h1, h2, h3⟩ := spanK_ok hn h
  refine minV_of S ?_ fun y hy => ?_
  · exact List.mem_filter.mpr ⟨List.mem_map.mpr ⟨spanK n c d + 1, mem_iR.mpr (by omega), rfl⟩, decide_eq_true h3.2⟩
  · obtain ⟨h4, h5⟩ := List.mem_filter.mp hy
    obtain ⟨j, hj, rfl⟩ := List.mem_map.mp h4
    have hj' := mem_iR.mp hj
    have h6 := of_decide_eq_true h5
    refine beg_le hn hc (by omega) ?_ (by omega)
    rcases Int.lt_or_le (spanK n c d) j with z | z
    · omega
    · have := beg_le (j := j) (k := spanK n c d) hn hc (by omega) z (by omega)
      have := h3.1
      omega
end PV

/-! What the k30 family draws. -/
namespace PV
open PySem L2
theorem mixed_k30 (c k : Int) [b : Bd k 40] : ∃ m : Int, (∀ S, F_mixed_k30 [.p (.int c), .p (.int k)] S = .ok (.p (.int m)) S) ∧ 0 ≤ m ∧ m < 2147483563 := by
  refine ⟨_, fun S => by simp [F_mixed_k30, M_mixed_k30, initE]; rfl, by omega, by omega⟩
theorem occ_abc : (abc.all fun c => Builtin.Str.occurrences (T abc) (T [c]) 0 (T abc).length 1 == [c - 97]) = true := by decide +kernel
theorem index_abc {c : Nat} (h : c ∈ abc) (S : Sto) : oIndex (.p (.str (T abc))) [.p (.str (T [c]))] S = .ok (.p (.int ((c - 97 : Nat) : Int))) S := by
  have e : Builtin.Str.occurrences (T abc) (T [c]) 0 (T abc).length 1 = [c - 97] := by
    have := List.all_eq_true.mp occ_abc c h
    simpa using this
  show (match Builtin.Str.occurrences (T abc) (T [c]) 0 (T abc).length 1 with
    | i :: _ => R.ok (Vl.p (.int (i : Nat))) S
    | [] => R.bad) = _
  rw [e]
theorem addV_maps {α : Type} (f : α → D) (a b : List α) (S : Sto) (h : a.length + b.length ≤ 16777216) : addV (.p (.list (a.map f))) (.p (.list (b.map f))) S = .ok (.p (.list ((a ++ b).map f))) S := by
  rw [addV_list, lstF_ap, if_pos (by simpa using h), ← List.map_append, pures_map, List.map_append]
def sg (c : Nat) : D := .str (T [c])
/-- the sign that a word has at its place -/
def sgAt (c : Nat) (x : Int) : Nat := 97 + (((c : Int) - 97 + x) % 26).toNat
theorem sgAt_mem (c : Nat) (x : Int) : sgAt c x ∈ abc := by
  rw [mem_abc]
  unfold sgAt
  omega
theorem abc_at (n : Nat) (h : n < 26) : abc[n]? = some (97 + n) := by
  have : (List.range 26).all (fun n => abc[n]? == some (97 + n)) = true := by decide +kernel
  have := List.all_eq_true.mp this n (List.mem_range.mpr h)
  simpa using this
def wd (bs : List Nat) (at_ : Nat) (x : Int) : List Nat := bs.set at_ (sgAt (bs.getD at_ 97) x)
theorem join_sg (l : List Nat) (S : Sto) (hl : l.length ≤ 1000) : oJoin (.p (.str (T []))) [.p (.list (l.map sg))] S = .ok (.p (.str (T l))) S := by
  have e : strsOf (l.map sg) = some (l.map fun c => T [c]) := by
    have := strsOf_map (l.map fun c => T [c])
    rw [List.map_map] at this
    exact this
  have e2 : ((l.map fun c => T [c]).map (·.length)).sum = l.length := by
    clear hl e
    induction l with
    | nil => rfl
    | cons c l ih => simp only [List.map_cons, List.sum_cons, List.length_cons, T_len, List.length_nil, ih]; omega
  have e3 : Txt.join (T []) (l.map fun c => T [c]) = T l := by
    rw [join_map, joinL_nil]
    congr 1
    clear hl e e2
    induction l with
    | nil => rfl
    | cons c l ih => rw [List.map_cons, List.flatten_cons, ih]; rfl
  rw [oJoin_ap, strsV_list, e]
  show (if _ then _ else _) = _
  rw [if_pos (by rw [e2]; simp; omega), e3]
/-- steps of 1, 3, 5, 7 meet no sign twice -/
theorem sgAt_inj {c : Nat} {t j k : Int} (ht : t = 1 ∨ t = 3 ∨ t = 5 ∨ t = 7) (hj : 0 ≤ j ∧ j < 26) (hk : 0 ≤ k ∧ k < 26) (h : sgAt c (j * t) = sgAt c (k * t)) : j = k := by
  unfold sgAt at h
  obtain rfl | rfl | rfl | rfl := ht <;> omega
theorem wd_inj {bs : List Nat} {a : Nat} {x y : Int} (ha : a < bs.length) (h : wd bs a x = wd bs a y) : sgAt (bs.getD a 97) x = sgAt (bs.getD a 97) y := by
  unfold wd at h
  have := congrArg (fun l : List Nat => l[a]?) h
  simpa [ha] using this
theorem wd_word {bs : List Nat} {a : Nat} {x : Int} (h : Word bs) : Word (wd bs a x) := by
  obtain ⟨h1, h2, h3⟩ := h
  unfold wd
  refine ⟨by simpa using h1, by simpa using h2, fun c hc => ?_⟩
  rcases List.mem_or_eq_of_mem_set hc with z | rfl
  · exact h3 c z
  · exact sgAt_mem _ _
theorem set_cut {α : Type} (l : List α) (a : Nat) (x : α) (h : a < l.length) : l.take a ++ [x] ++ l.drop (a + 1) = l.set a x := by
  rw [List.set_eq_take_append_cons_drop, if_pos h, List.append_assoc]
  rfl
/-- a comprehension whose items are some or other -/
theorem lcG_ex {α β : Type} {g : G} {a : M} {e : Env} {S : Sto} (mk : α → Vl) (f : β → Vl) (Q : α → β → Prop) : ∀ (xs : List α), (∀ x ∈ xs, ∃ e1 y, g (mk x) e S = .ok e1 S ∧ a e1 S = .ok (f y) S ∧ Q x y) → ∃ ys : List β, lcG g mYes a (xs.map mk) e S = .ok (ys.map f) S ∧ ys.length = xs.length ∧ ∀ y ∈ ys, ∃ x ∈ xs, Q x y
  | [], _ => ⟨[], rfl, rfl, fun y h => by cases h⟩
  | x :: xs, h => by
    obtain ⟨e1, y, h1, h2, h3⟩ := h x List.mem_cons_self
    obtain ⟨ys, i1, i2, i3⟩ := lcG_ex mk f Q xs fun z hz => h z (List.mem_cons_of_mem _ hz)
    refine ⟨y :: ys, ?_, by simp [i2], ?_⟩
    · rw [List.map_cons, lcG, h1]
      have e2 : mYes e1 S = .ok (.p (.bool true)) S := rfl
      simp only [e2, h2, i1, List.map_cons]
    · intro z hz
      rcases List.mem_cons.mp hz with rfl | hz
      · exact ⟨x, List.mem_cons_self, h3⟩
      · obtain ⟨w, hw, hq⟩ := i3 z hz
        exact ⟨w, List.mem_cons_of_mem _ hw, hq⟩
theorem word_turn (c many t : Int) (bs : List Nat) (a : Nat) (k : Int) (S : Sto) (ws : List D) (hb : Word bs) (ha : a < bs.length) (hk : 0 ≤ k ∧ k < 8) (ht : t = 1 ∨ t = 3 ∨ t = 5 ∨ t = 7) (hl : ws.length ≤ 1000) :
    M_words_k30_b1 [some (.p (.int c)), some (.p (.int many)), some (.p (.str (T abc))), some (.p (.list (bs.map sg))), some (.p (.int (a : Nat))), some (.p (.int t)), some (.r S.length), some (.p (.int k)), none, none] (S ++ [.lst (ws.map Vl.p)])
      = .nx [some (.p (.int c)), some (.p (.int many)), some (.p (.str (T abc))), some (.p (.list (bs.map sg))), some (.p (.int (a : Nat))), some (.p (.int t)), some (.r S.length), none, none, none] (S ++ [.lst ((ws ++ [PyData.str (T (wd bs a (k * t)))]).map Vl.p)]) := by
  obtain ⟨h1, h2, h3⟩ := hb
  have m1 : bs.getD a 97 ∈ abc := by
    rw [List.getD_eq_getElem?_getD, List.getElem?_eq_getElem ha]
    exact h3 _ (List.getElem_mem _)
  have e1 := fun S => index_abc m1 S
  have a1 : bs[a]? = some (bs.getD a 97) := by
    rw [List.getD_eq_getElem?_getD, List.getElem?_eq_getElem ha]
    rfl
  have e4 : atI abc ((((bs.getD a 97 - 97 : Nat) : Int) + k * t) % 26) = some (sgAt (bs.getD a 97) (k * t)) := by
    have := mem_abc.mp m1
    rw [atI_pos _ (by omega), abc_at _ (by omega)]
    unfold sgAt
    congr 3
    omega
  have b1 := bdI (i := k) (by omega)
  have b2 := bdI (i := t) (by omega)
  have c1 : cutL bs none (some (a : Int)) = bs.take a := cutL_to bs a
  have c2 : cutL bs (some ((a : Int) + 1)) none = bs.drop (a + 1) := cutL_from bs (a + 1)
  have c3 : bs.take a ++ [sgAt (bs.getD a 97) (k * t)] ++ bs.drop (a + 1) = wd bs a (k * t) := set_cut _ _ _ ha
  have a2 : atI (bs.map fun c => Vl.p (sg c)) (a : Int) = some (.p (sg (bs.getD a 97))) := by
    rw [atI_nat, List.getElem?_map, a1]
    rfl
  generalize hg : sgAt (bs.getD a 97) (k * t) = z at *
  generalize bs.getD a 97 = q at *
  have g1 := fun S => addV_maps sg (bs.take a) [z] S (by simp; omega)
  have g2 := fun S => addV_maps sg (bs.take a ++ [z]) (bs.drop (a + 1)) S (by simp; omega)
  have g3 := fun S => join_sg (bs.take a ++ [z] ++ bs.drop (a + 1)) S (by simp; omega)
  rw [c3] at g2 g3
  have l1 : (bs.take a).length ≤ 16777216 := by simp; omega
  have l2 : (bs.drop (a + 1)).length ≤ 16777216 := by simp; omega
  simp [sg] at e1 a2 g1 g2 g3
  have l0 : abc.length ≤ 16777216 := by decide
  have l1 : min a bs.length ≤ 16777216 := by omega
  have l2 : bs.length ≤ 16777216 + (a + 1) := by omega
  have l3 : ws.length < 16777216 := by omega
  simp [M_words_k30_b1, a2, e1, e4, c1, c2, sg, g1, g2, g3, t_nil, l0, l1, l2, l3]
theorem words_k30 (c many : Int) (S : Sto) (hm : 0 ≤ many ∧ many ≤ 8) [b : Bd c 1048576] : ∃ ws : List (List Nat), F_words_k30 [.p (.int c), .p (.int many)] S = .ok (.p (.list (ws.map fun w => .str (T w)))) S ∧ ws.length = many.toNat ∧ (∀ w ∈ ws, Word w) ∧ ws.Nodup := by
  obtain ⟨bs, e1, l1, q1⟩ := lcG_ex (g := gNm 9) (a := m2 ixV (mVar 2) (m2 modV (mCall F_mixed_k30 [mVar 0, m2 addV (mC (.int 70)) (mVar 9)]) (mC (.int 26)))) (e := [some (.p (.int c)), some (.p (.int many)), some (.p (.str (T abc))), none, none, none, none, none, none, none]) (S := S) (fun k => .p (.int k)) (fun c => .p (sg c)) (fun _ q => q ∈ abc) (iR 0 (1 + c % 8)) fun k hk => by
    have hk' := mem_iR.mp hk
    have := bdI (i := k) (by omega)
    obtain ⟨m, h1, h2, h3⟩ := mixed_k30 c (70 + k) (b := bdI (by omega))
    obtain ⟨q, h4, h5⟩ := pickC abc (m % 26) (by omega) (by show _ < (26 : Int); omega)
    exact ⟨_, q, rfl, by simp [h1, h4, sg, show abc.length ≤ 16777216 by decide], h5⟩
  rw [len_iR] at l1
  have hb : Word bs := ⟨by omega, by omega, fun c hc => (q1 c hc).elim fun _ h => h.2⟩
  obtain ⟨t, e2, ht⟩ := pickG (fun t : Int => Vl.p (.int t)) [1, 3, 5, 7] (c / 64 % 4) (fun t => t = 1 ∨ t = 3 ∨ t = 5 ∨ t = 7) (by omega) (by simp; omega) (by simp)
  obtain ⟨a, ha⟩ : ∃ a : Nat, c / 8 % (bs.length : Int) = (a : Int) := ⟨(c / 8 % (bs.length : Int)).toNat, by rw [Int.toNat_of_nonneg]; exact Int.emod_nonneg _ (by omega)⟩
  have ha2 : a < bs.length := by have := Int.emod_lt_of_pos (c / 8) (b := (bs.length : Int)) (by omega); omega
  have e3 := loop_rng (g := gNm 7) (b := M_words_k30_b1) (i := 0) (j := many) (fun _ => [some (.p (.int c)), some (.p (.int many)), some (.p (.str (T abc))), some (.p (.list (bs.map sg))), some (.p (.int (a : Nat))), some (.p (.int t)), some (.r S.length), none, none, none])
    (fun k => S ++ [.lst (((iR 0 k).map fun k => PyData.str (T (wd bs a (k * t)))).map Vl.p)]) hm.1 fun k h1 h2 => ⟨_, rfl, by
      have := word_turn c many t bs a k S ((iR 0 k).map fun k => PyData.str (T (wd bs a (k * t)))) hb ha2 (by omega) ht (by simp; omega)
      rw [iR_succ h1, List.map_append]
      exact this⟩
  rw [iR_nil (Int.le_refl 0)] at e3
  refine ⟨(iR 0 many).map fun k => wd bs a (k * t), ?_, by simp, ?_, ?_⟩
  · have bm := bdI (i := many) (by omega)
    have bc := bdI (i := 1 + c % 8) (by omega)
    have lb : bs.length ≤ 16777216 := by omega
    have lp : 0 < (bs.length : Int) := by omega
    have em := fun S => modV_pos (c / 8) S lp
    simp at e1 e2 e3
    have l26 : abc.length ≤ 16777216 := by decide
    simp [F_words_k30, M_words_k30, initE, t_abc, e1, e2, e3, lb, em, ha, l26]
  · intro w hw
    obtain ⟨k, _, rfl⟩ := List.mem_map.mp hw
    exact wd_word hb
  · have nd : (iR 0 many).Nodup := by
      unfold iR
      refine List.Pairwise.map _ (fun a b h => ?_) List.nodup_range
      omega
    refine List.pairwise_map.mpr (nd.imp_of_mem fun {j k} hj hk hne z => hne ?_)
    have hj' := mem_iR.mp hj
    have hk' := mem_iR.mp hk
    exact sgAt_inj ht (by omega) (by omega) (wd_inj ha2 z)
def PlsOk (ps : List Pl) : Prop := 1 ≤ ps.length ∧ ps.length ≤ 8 ∧ (∀ p ∈ ps, p.Ok) ∧ (ps.map (·.name)).Nodup
theorem plan_turn (c many : Int) (ws : List (List Nat)) (k : Int) (S : Sto) (ps : List Pl) (hk : 0 ≤ k ∧ k < ws.length) (hl : ws.length ≤ 8) (hw : ∀ w ∈ ws, Word w) (hp : ps.length ≤ 1000) [b : Bd c 1048576] :
    ∃ p : Pl, p.Ok ∧ ws[k.toNat]? = some p.name ∧ M_plans_k30_b1 [some (.p (.int c)), some (.p (.int many)), some (.p (.list (ws.map fun w => .str (T w)))), some (.r S.length), some (.p (.int k)), none, none, none] (S ++ [.lst (ps.map fun p => .p p.d)])
      = .nx [some (.p (.int c)), some (.p (.int many)), some (.p (.list (ws.map fun w => .str (T w)))), some (.r S.length), none, none, none, none] (S ++ [.lst ((ps ++ [p]).map fun p => .p p.d)]) := by
  have bk := bdI (i := k) (by omega)
  obtain ⟨m, e1, h1, h2⟩ := mixed_k30 c k
  have hk1 : 0 < k + 1 := by omega
  have hk2 : k + 1 < 1606938044258990275541962092341162602522202993782792835301376 := by omega
  obtain ⟨x, e2, x1, x2⟩ := pick [m / 32 % 1000, m / 32 % 7, c / (k + 1) % 1000000000000000000000000000000, m / 32 % 20000] (m % 4) 0 1000000000000000000000000000000 (by omega) (by simp; omega) (by simp only [List.mem_cons, List.not_mem_nil, or_false]; rintro x (rfl | rfl | rfl | rfl) <;> omega)
  obtain ⟨y, e3, y1, y2⟩ := pick [0, 30, 0, 28 + m / 32 % 4, 7, 1 + m / 32 % 400, 0, 400] (m / 4 % 8) 0 401 (by omega) (by simp; omega) (by simp only [List.mem_cons, List.not_mem_nil, or_false]; rintro x (rfl | rfl | rfl | rfl | rfl | rfl | rfl | rfl) <;> omega)
  have e4 : ws[k.toNat]? = some ws[k.toNat] := List.getElem?_eq_getElem (by omega)
  have hm : ws[k.toNat] ∈ ws := List.getElem_mem _
  have e5 : atI (ws.map fun w => Vl.p (.str (T w))) k = some (.p (.str (T ws[k.toNat]))) := by rw [atI_pos _ hk.1, List.getElem?_map, e4]; rfl
  refine ⟨⟨ws[k.toNat], x, y⟩, ⟨hw _ hm, ⟨x1, by simp only; omega⟩, ⟨y1, by simp only; omega⟩⟩, e4, ?_⟩
  generalize ws[k.toNat] = q at *
  have hp' : ps.length < 16777216 := by omega
  simp at e2 e3 e5
  simp [M_plans_k30_b1, e1, e2, e3, e5, hk1, hk2, hp', Pl.d, Function.comp_def]
theorem plans_k30 (c : Int) (S : Sto) [b : Bd c 1048576] : ∃ ps : List Pl, F_plans_k30 [.p (.int c)] S = .ok (.p (.list (ps.map Pl.d))) S ∧ PlsOk ps := by
  obtain ⟨many, e1, m1, m2⟩ := pick [1, 2, 3, 4, 2, 3, 1, 8] (c % 8) 1 9 (by omega) (by simp; omega) (by simp only [List.mem_cons, List.not_mem_nil, or_false]; rintro x (rfl | rfl | rfl | rfl | rfl | rfl | rfl | rfl) <;> omega)
  obtain ⟨ws, e2, l1, w1, w2⟩ := words_k30 (c / 8) many S (by omega)
  obtain ⟨ps, e3, i1, i2⟩ := loop_rngI (g := gNm 4) (b := M_plans_k30_b1) (j := many) (fun _ : List Pl => [some (.p (.int c)), some (.p (.int many)), some (.p (.list (ws.map fun w => .str (T w)))), some (.r S.length), none, none, none, none])
    (fun ps => S ++ [.lst (ps.map fun p => .p p.d)]) (fun k ps => ps.map (·.name) = ws.take k.toNat ∧ ∀ p ∈ ps, p.Ok) _ 0 [] rfl (by omega) ⟨by simp, by simp⟩ fun k ps h1 h2 h3 => by
      have hlen := congrArg List.length h3.1
      simp at hlen
      obtain ⟨p, p1, p2, p3⟩ := plan_turn c many ws k S ps (by omega) (by omega) w1 (by omega)
      refine ⟨ps ++ [p], ⟨_, rfl, p3⟩, ?_, ?_⟩
      · rw [show (k + 1).toNat = k.toNat + 1 by omega, List.take_add_one, p2, List.map_append, h3.1]
        rfl
      · intro q hq
        rcases List.mem_append.mp hq with hq | hq
        · exact h3.2 q hq
        · rw [List.mem_singleton.mp hq]; exact p1
  rw [List.take_of_length_le (by omega)] at i1
  have lp : ps.length = ws.length := by rw [← i1, List.length_map]
  refine ⟨ps, ?_, by omega, by omega, i2, by rw [i1]; exact w2⟩
  have bm := bdI (i := many) (by omega)
  simp at e1 e3
  simp [F_plans_k30, M_plans_k30, initE, e1, e2, e3, Function.comp_def]
/-- figures of a number, one of each size -/
def digs : Int → List Int → List Int
  | _, [] => []
  | c, s :: r => c % s :: digs (c / s) r
def digsRest : Int → List Int → Int
  | c, [] => c
  | c, s :: r => digsRest (c / s) r
theorem digs_snoc : ∀ (l : List Int) (c s : Int), digs c (l ++ [s]) = digs c l ++ [digsRest c l % s] ∧ digsRest c (l ++ [s]) = digsRest c l / s
  | [], c, s => ⟨rfl, rfl⟩
  | x :: l, c, s => by
    obtain ⟨h1, h2⟩ := digs_snoc l (c / x) s
    simp only [List.cons_append, digs, digsRest, h1, h2, true_and]
@[simp] theorem digs_len : ∀ (l : List Int) (c : Int), (digs c l).length = l.length
  | [], _ => rfl
  | x :: l, c => by simp only [digs, List.length_cons, digs_len l]
theorem digits_k30 (c : Int) (sizes : List Int) (S : Sto) (hs : ∀ s ∈ sizes, 0 < s ∧ s < 1606938044258990275541962092341162602522202993782792835301376) (hl : sizes.length ≤ 1000) : F_digits_k30 [.p (.int c), .p (.list (sizes.map .int))] S = .ok (.p (.list ((digs c sizes).map .int))) S := by
  have hb : ∀ (c s : Int) (acc : List Int), 0 < s → s < 1606938044258990275541962092341162602522202993782792835301376 → acc.length < 16777216 →
      M_digits_k30_b1 [some (.p (.int c)), some (.p (.list (sizes.map .int))), some (.r S.length), some (.p (.int s))] (S ++ [.lst (acc.map fun i => .p (.int i))])
        = .nx [some (.p (.int (c / s))), some (.p (.list (sizes.map .int))), some (.r S.length), none] (S ++ [.lst ((acc ++ [c % s]).map fun i => .p (.int i))]) := by
    intro c s acc h1 h2 h3
    simp [M_digits_k30_b1, h1, h2, h3]
  obtain ⟨a, e3, h3⟩ := loop_pre (g := gNm 3) (b := M_digits_k30_b1) (fun s : Int => .p (.int s)) (fun a : Int × List Int => [some (.p (.int a.1)), some (.p (.list (sizes.map .int))), some (.r S.length), none]) (fun a => S ++ [.lst (a.2.map fun i => .p (.int i))])
    (fun pre a => a = (digsRest c pre, digs c pre)) sizes sizes [] (c, []) rfl rfl fun pre x post a h1 h2 => by
      subst h2
      have hx := hs x (by rw [h1]; simp)
      have hlen : pre.length < 16777216 := by rw [h1] at hl; simp at hl; omega
      refine ⟨(digsRest c pre / x, digs c pre ++ [digsRest c pre % x]), ⟨_, rfl, hb (digsRest c pre) x (digs c pre) hx.1 hx.2 (by rw [digs_len]; exact hlen)⟩, ?_⟩
      obtain ⟨q1, q2⟩ := digs_snoc pre c x
      rw [q1, q2]
  subst h3
  simp at e3
  simp [F_digits_k30, M_digits_k30, initE, e3, Function.comp_def]
theorem digs_app : ∀ (l m : List Int) (c : Int), digs c (l ++ m) = digs c l ++ digs (digsRest c l) m
  | [], m, c => rfl
  | x :: l, m, c => by simp only [List.cons_append, digs, digsRest, digs_app l m]
theorem digs_lt {b : Int} (hb : 0 < b) : ∀ (l : List Int) (c : Int), (∀ s ∈ l, s = b) → ∀ x ∈ digs c l, 0 ≤ x ∧ x < b
  | [], _, _, x, hx => by cases hx
  | s :: l, c, h, x, hx => by
    have hs := h s List.mem_cons_self
    subst hs
    rcases List.mem_cons.mp hx with rfl | hx
    · exact ⟨Int.emod_nonneg _ (by omega), Int.emod_lt_of_pos _ hb⟩
    · exact digs_lt hb l _ (fun t ht => h t (List.mem_cons_of_mem _ ht)) x hx
/-- the plan that any figures draw -/
def anyD (c : Int) : List Int := digs (c / 8) (List.replicate 8 26)
def anyR (c : Int) : Int := digsRest (c / 8) (List.replicate 8 26)
def anyO (c : Int) : List Int := (anyD c).take (1 + c % 8).toNat
def anyName (c : Int) : List Nat := (anyO c).map fun x => 97 + x.toNat
def anyPl (c : Int) : Pl := ⟨anyName c, anyR c % 1000000000000000000000000000000, anyR c / 1000000000000000000000000000000 % 401⟩
theorem anyD_len (c : Int) : (anyD c).length = 8 := by unfold anyD; rw [digs_len]; rfl
theorem anyD_lt (c : Int) : ∀ x ∈ anyD c, 0 ≤ x ∧ x < 26 := digs_lt (by decide) _ _ fun s hs => (List.eq_of_mem_replicate hs)
theorem anyPl_ok (c : Int) : (anyPl c).Ok := by
  refine ⟨⟨?_, ?_, fun x hx => ?_⟩, ⟨by show 0 ≤ anyR c % _; omega, by show anyR c % _ ≤ _; omega⟩, ⟨by show 0 ≤ _ % (401 : Int); omega, by show _ % (401 : Int) ≤ _; omega⟩⟩
  · show 1 ≤ (anyName c).length
    simp [anyName, anyO, anyD_len]; omega
  · show (anyName c).length ≤ 8
    simp [anyName, anyO, anyD_len]; omega
  · obtain ⟨y, hy, rfl⟩ := List.mem_map.mp hx
    have := anyD_lt c y (List.mem_of_mem_take hy)
    rw [mem_abc]
    omega
def anyL (c : Int) : List Int := c % 8 :: (anyD c ++ [anyR c % 1000000000000000000000000000000, anyR c / 1000000000000000000000000000000 % 401])
theorem any_digits (c : Int) (S : Sto) : F_digits_k30 [.p (.int c), .p (.list [.int 8, .int 26, .int 26, .int 26, .int 26, .int 26, .int 26, .int 26, .int 26, .int 1000000000000000000000000000000, .int 401])] S = .ok (.p (.list ((anyL c).map .int))) S := by
  have h := digits_k30 c ([8] ++ (List.replicate 8 26 ++ [1000000000000000000000000000000, 401])) S (by decide) (by decide)
  rw [show digs c ([8] ++ (List.replicate 8 26 ++ [1000000000000000000000000000000, 401])) = c % 8 :: digs (c / 8) (List.replicate 8 26 ++ [1000000000000000000000000000000, 401]) from rfl, digs_app] at h
  exact h
theorem anyL_cut (c : Int) : cutL (anyL c) (some 1) (some (2 + c % 8)) = anyO c := by
  have l8 := anyD_len c
  have := cutL_both (anyL c) 1 (2 + c % 8).toNat
  rw [Int.toNat_of_nonneg (by omega)] at this
  unfold anyL at this ⊢
  rw [show (2 + c % 8).toNat = (1 + c % 8).toNat + 1 by omega, List.take_succ_cons, List.drop_succ_cons, List.drop_zero, List.take_append_of_le_length (by omega)] at this
  exact this
theorem anyL_0 (c : Int) : (anyL c)[0]? = some (c % 8) := rfl
theorem anyL_9 (c : Int) : (anyL c)[9]? = some (anyPl c).price := by
  unfold anyL
  rw [List.getElem?_cons_succ, List.getElem?_append_right (by rw [anyD_len]; decide), anyD_len]
  rfl
theorem anyL_10 (c : Int) : (anyL c)[10]? = some (anyPl c).count := by
  unfold anyL
  rw [List.getElem?_cons_succ, List.getElem?_append_right (by rw [anyD_len]; decide), anyD_len]
  rfl
theorem anyL_len (c : Int) : (anyL c).length = 11 := by
  unfold anyL
  simp [anyD_len]
theorem anyG_0 (c : Int) (h : 0 < (anyL c).length) : (anyL c)[0] = c % 8 := rfl
theorem anyG_9 (c : Int) (h : 9 < (anyL c).length) : (anyL c)[9] = (anyPl c).price := by
  have := anyL_9 c
  rw [List.getElem?_eq_getElem h] at this
  exact Option.some.inj this
theorem anyG_10 (c : Int) (h : 10 < (anyL c).length) : (anyL c)[10] = (anyPl c).count := by
  have := anyL_10 c
  rw [List.getElem?_eq_getElem h] at this
  exact Option.some.inj this
theorem e8_k30 (e : Env) (S : Sto) : mTmp (m2 repL (mLstM [mC (.int 26)]) (mC (.int 8))) e S = .ok (.p (.list [.int 26, .int 26, .int 26, .int 26, .int 26, .int 26, .int 26, .int 26])) S := by
  have h := repL_r S.length 8 (S ++ [.lst [.p (.int 26)]]) [.p (.int 26)] (by simp) (by decide)
  have h2 : lstF (List.replicate (8 : Int).toNat [Vl.p (.int 26)]).flatten (S ++ [.lst [.p (.int 26)]]) = .ok (.p (.list [.int 26, .int 26, .int 26, .int 26, .int 26, .int 26, .int 26, .int 26])) (S ++ [.lst [.p (.int 26)]]) := by
    simp [List.replicate]
  rw [h2] at h
  simp [h]
theorem any_turn (c many : Int) (k : Int) (S : Sto) (ps : List Pl) (hp : ps.length ≤ 1000) :
    M_any_plans_k30_b1 [some (.p (.int c)), some (.p (.str (T abc))), some (.r S.length), some (.p (.int many)), some (.p (.int k)), none, none, none, none] (S ++ [.lst (ps.map fun p => .p p.d)])
      = .nx [some (.p (.int (c / 669917223159808000000000000000000000000000000))), some (.p (.str (T abc))), some (.r S.length), some (.p (.int many)), none, none, none, none, none] (S ++ [.lst ((if anyName c ∈ ps.map (·.name) then ps else ps ++ [anyPl c]).map fun p => .p p.d)]) := by
  have e1 := fun S => any_digits c S
  have hn := (anyPl_ok c).1
  have c1 := anyL_cut c
  have c2 := anyG_0 c
  have c3 := anyG_9 c
  have c4 := anyG_10 c
  have l1 : (anyO c).length ≤ 16777216 := by unfold anyO; rw [List.length_take]; have := anyD_len c; omega
  have c5 := anyL_len c
  have e2 := fun S => lcG_map (g := gNm 7) (a := m2 ixV (mVar 1) (mVar 7)) (e := [some (.p (.int c)), some (.p (.str (T abc))), some (.r S.length), some (.p (.int many)), some (.p (.int k)), some (.p (.list ((anyL c).map .int))), none, none, none]) (S := S ++ [.lst (ps.map fun p => .p p.d)]) (fun x : Int => .p (.int x)) (fun x => .p (sg (97 + x.toNat))) (anyO c) fun x hx => by
    have h2 := anyD_lt c x (List.mem_of_mem_take hx)
    refine ⟨_, rfl, ?_⟩
    have h3 : atI abc x = some (97 + x.toNat) := by rw [atI_pos _ h2.1, abc_at _ (by omega)]
    simp [h3, sg, show abc.length ≤ 16777216 by decide]
  have e3 := fun S => join_sg (anyName c) S (by have := hn.2.1; show (anyPl c).name.length ≤ 1000; omega)
  have e4 : (anyO c).map (fun x => sg (97 + x.toNat)) = (anyName c).map sg := by unfold anyName; rw [List.map_map]; rfl
  have e5 := fun gd hG => lcGp_map (g := gNm 8) (a := m2 ixV (mVar 8) (mC (.int 0))) (gd := gd) (e := [some (.p (.int c)), some (.p (.str (T abc))), some (.r S.length), some (.p (.int many)), some (.p (.int k)), some (.p (.list ((anyL c).map .int))), some (.p (.str (T (anyName c)))), none, none]) (S := S ++ [.lst (ps.map fun p => .p p.d)]) (fun p : Pl => .p p.d) (fun p => .p (.str (T p.name))) hG ps fun p _ => ⟨_, rfl, by simp [Pl.d]⟩
  have e6 : (PyData.str (T (anyName c)) ∈ ps.map fun p => PyData.str (T p.name)) ↔ anyName c ∈ ps.map (·.name) := by
    rw [List.mem_map, List.mem_map]
    exact ⟨fun ⟨p, h1, h2⟩ => ⟨p, h1, by simpa using h2⟩, fun ⟨p, h1, h2⟩ => ⟨p, h1, by rw [h2]⟩⟩
  have e7 := inV_list true (.str (T (anyName c))) (ps.map fun p => .str (T p.name)) (S ++ [.lst (ps.map fun p => .p p.d)]) (by simp) (by simp)
  rw [decide_eq_decide.mpr e6] at e7
  have hp1 : ps.length < 16777216 := by omega
  have hp2 : ps.length ≤ 16777216 := by omega
  by_cases hin : anyName c ∈ ps.map (·.name)
  · simp only [if_pos hin]
    rw [decide_eq_true hin] at e7
    simp [M_any_plans_k30_b1, e8_k30, e1, c1, c2, c3, c4, c5, e2, e3, e4, e5, e7, t_nil, hp1, hp2, l1, -mTmp_ap]
  · simp only [if_neg hin]
    rw [decide_eq_false hin] at e7
    have e9 : Vl.p (anyPl c).d = .p (.tuple [.str (T (anyName c)), .int (anyPl c).price, .int (anyPl c).count]) := rfl
    simp [M_any_plans_k30_b1, e8_k30, e1, c1, c2, c3, c4, c5, e2, e3, e4, e5, e7, e9, t_nil, hp1, hp2, l1, -mTmp_ap]
theorem any_plans_k30 (c : Int) (S : Sto) : ∃ ps : List Pl, F_any_plans_k30 [.p (.int c)] S = .ok (.p (.list (ps.map Pl.d))) S ∧ PlsOk ps := by
  have hm : 0 ≤ 1 + c % 8 := by omega
  obtain ⟨⟨c2, ps⟩, e3, i0, i1, i2, i3⟩ := loop_rngI (g := gNm 4) (b := M_any_plans_k30_b1) (j := 1 + c % 8) (fun a : Int × List Pl => [some (.p (.int a.1)), some (.p (.str (T abc))), some (.r S.length), some (.p (.int (1 + c % 8))), none, none, none, none, none])
    (fun a => S ++ [.lst (a.2.map fun p => .p p.d)]) (fun k a => a.2.length ≤ k ∧ (1 ≤ k → 1 ≤ a.2.length) ∧ (∀ p ∈ a.2, p.Ok) ∧ (a.2.map (·.name)).Nodup) _ 0 (c / 8, []) rfl hm ⟨by simp, by omega, by simp, by simp⟩ fun k a h1 h2 h3 => by
      obtain ⟨x, ps⟩ := a
      obtain ⟨g1, g2, g3, g4⟩ := h3
      simp only at g1 g2 g3 g4
      refine ⟨(x / 669917223159808000000000000000000000000000000, if anyName x ∈ ps.map (·.name) then ps else ps ++ [anyPl x]), ⟨_, rfl, any_turn x _ k S ps (by omega)⟩, ?_⟩
      by_cases hin : anyName x ∈ ps.map (·.name)
      · simp only [if_pos hin]
        refine ⟨by omega, fun _ => ?_, g3, g4⟩
        cases ps with
        | nil => cases hin
        | cons p ps => simp
      · simp only [if_neg hin]
        refine ⟨by simp; omega, fun _ => by simp, fun p hp => ?_, ?_⟩
        · rcases List.mem_append.mp hp with hp | hp
          · exact g3 p hp
          · rw [List.mem_singleton.mp hp]; exact anyPl_ok x
        · rw [List.map_append, List.map_cons, List.map_nil, List.nodup_append]
          exact ⟨g4, by simp, fun a ha b hb => by rw [List.mem_singleton.mp hb]; exact fun z => hin (show (anyPl x).name ∈ _ by rw [← z]; exact ha)⟩
  simp only at i0 i1 i2 i3
  refine ⟨ps, ?_, i1 (by omega), by omega, i2, i3⟩
  have bc := bdI (i := 1 + c % 8) (by omega)
  simp at e3
  simp [F_any_plans_k30, M_any_plans_k30, initE, t_abc, e3, Function.comp_def]
theorem AcctOk.of {ps : List Pl} {n : Int} {c : Cy} (h : PlsOk ps) (hn : FirstOk n) (hc : c.Ok) : AcctOk ps n c := ⟨h.1, h.2.1, h.2.2.1, h.2.2.2, hn, hc⟩
theorem AcctOk.pls {ps : List Pl} {n : Int} {c : Cy} (h : AcctOk ps n c) : PlsOk ps := ⟨h.l1, h.l8, h.ok, h.nd⟩
theorem account_k30 {ns : List Int} (hl : ns.length ≤ 63) (hb : ∀ z ∈ ns, Builtin.Int.intBits z ≤ 1048576) (S : Sto) : ∃ ps n c, F_account_k30 [.p (.list (ns.map PyData.int))] S = .ok (.p (acctD ps n c)) S ∧ AcctOk ps n c := by
  have c0 := fun S => cell_at_k02 (ns := ns) (i := 0) S (by decide) hl
  have c1 := fun S => cell_at_k02 (ns := ns) (i := 1) S (by decide) hl
  have c2 := fun S => cell_at_k02 (ns := ns) (i := 2) S (by decide) hl
  have b0 := bd_cell hb 0
  obtain ⟨n, f1, hn⟩ := first_k20 (cellAt ns 1) S
  obtain ⟨c, f2, hc⟩ := cycle_k20 (cellAt ns 2) S
  obtain ⟨ps, f3, h3⟩ := plans_k30 (cellAt ns 0 / 2) S
  obtain ⟨qs, f4, h4⟩ := any_plans_k30 (cellAt ns 0 / 2) S
  by_cases h : cellAt ns 0 % 2 = 1
  · exact ⟨qs, n, c, by simp [F_account_k30, M_account_k30, initE, c0, c1, c2, f1, f2, f3, f4, h, acctD], .of h4 hn hc⟩
  · exact ⟨ps, n, c, by simp [F_account_k30, M_account_k30, initE, c0, c1, c2, f1, f2, f3, f4, h, acctD], .of h3 hn hc⟩
theorem setPl_ok {ps : List Pl} {a : Nat} (h : PlsOk ps) (ha : a < ps.length) {x y : Int} (hx : 0 ≤ x ∧ x ≤ 999999999999999999999999999999) (hy : 0 ≤ y ∧ y ≤ 400) : PlsOk (ps.set a ⟨ps[a].name, x, y⟩) := by
  obtain ⟨h1, h2, h3, h4⟩ := h
  refine ⟨by simpa using h1, by simpa using h2, fun p hp => ?_, ?_⟩
  · rcases List.mem_or_eq_of_mem_set hp with z | rfl
    · exact h3 p z
    · exact ⟨(h3 _ (List.getElem_mem ha)).1, hx, hy⟩
  · have e : (ps.set a ⟨ps[a].name, x, y⟩).map (·.name) = ps.map (·.name) := by
      apply List.ext_getElem?
      intro i
      rw [List.getElem?_map, List.getElem?_map, List.getElem?_set]
      split
      · rename_i q
        subst q
        simp [ha]
      · rfl
    rw [e]
    exact h4
/-- the z words -/
def zPl (k : Int) : Pl := ⟨List.replicate (k + 1).toNat 122, k, k⟩
theorem zPl_ok {k : Int} (h : 0 ≤ k ∧ k < 8) : (zPl k).Ok := by
  refine ⟨⟨?_, ?_, fun c hc => ?_⟩, ⟨h.1, by show k ≤ _; omega⟩, ⟨h.1, by show k ≤ _; omega⟩⟩
  · show 1 ≤ (List.replicate (k + 1).toNat 122).length
    rw [List.length_replicate]; omega
  · show (List.replicate (k + 1).toNat 122).length ≤ 8
    rw [List.length_replicate]; omega
  · rw [List.eq_of_mem_replicate hc, mem_abc]; decide
/-- each name's first plan -/
def isFst (ps : List Pl) (k : Int) : Bool := decide (¬ ((ps.map (·.name)).getD k.toNat []) ∈ (ps.map (·.name)).take k.toNat)
def firsts (ps : List Pl) : List Pl := ((iR 0 ps.length).filter (isFst ps)).map fun k => ps.getD k.toNat ⟨[], 0, 0⟩
theorem firsts_ok {ps : List Pl} (h1 : 1 ≤ ps.length) (h8 : ps.length ≤ 8) (h : ∀ p ∈ ps, p.Ok) : PlsOk (firsts ps) := by
  refine ⟨?_, ?_, fun p hp => ?_, ?_⟩
  · unfold firsts
    rw [iR_cons (by omega), List.filter_cons]
    simp [isFst]
  · unfold firsts
    rw [List.length_map]
    exact Nat.le_trans (List.length_filter_le _ _) (by rw [len_iR]; omega)
  · obtain ⟨k, hk, rfl⟩ := List.mem_map.mp hp
    have hk' := mem_iR.mp (List.mem_filter.mp hk).1
    refine h _ ?_
    rw [List.getD_eq_getElem?_getD, List.getElem?_eq_getElem (by omega)]
    exact List.getElem_mem _
  · unfold firsts
    rw [List.map_map]
    have nd : (iR 0 ps.length).Pairwise (· < ·) := by
      unfold iR
      exact List.Pairwise.map _ (fun a b h => by omega) List.pairwise_lt_range
    refine List.pairwise_map.mpr ((nd.filter _).imp_of_mem fun {j k} hj hk hlt z => ?_)
    obtain ⟨hk1, hk2⟩ := List.mem_filter.mp hk
    obtain ⟨hj1, hj2⟩ := List.mem_filter.mp hj
    have hk3 := mem_iR.mp hk1
    have hj3 := mem_iR.mp hj1
    refine of_decide_eq_true hk2 ?_
    have z' : (ps.getD j.toNat ⟨[], 0, 0⟩).name = (ps.getD k.toNat ⟨[], 0, 0⟩).name := z
    rw [List.getD_eq_getElem?_getD, List.getD_eq_getElem?_getD, List.getElem?_eq_getElem (show j.toNat < ps.length by omega), List.getElem?_eq_getElem (show k.toNat < ps.length by omega)] at z'
    rw [List.getD_eq_getElem?_getD, List.getElem?_map, List.getElem?_eq_getElem (show k.toNat < ps.length by omega)]
    refine List.mem_take_iff_getElem.mpr ⟨j.toNat, by simp; omega, ?_⟩
    rw [List.getElem_map]
    exact z'
end PV

/-! The ledger: what check_entries takes. -/
namespace PV
open PySem L2
@[simp ↓] theorem sRaiseN_ap (c : Nat) (m : M) (e : Env) (S : Sto) : sRaiseN c m e S = hofR e (m e S) (k := ⟨fun v S1 => match v with
  | .p (.int n) => .ex c (some n) e S1
  | _ => .bad⟩) := id rfl
/-! two things at the end of the store -/
section
variable (S : Sto) (a b x : Ent)
@[simp] theorem app2_0 : (S ++ [a, b])[S.length]? = some a := by simp
@[simp] theorem app2_1 : (S ++ [a, b])[S.length + 1]? = some b := by simp
@[simp] theorem set2_0 : (S ++ [a, b]).set S.length x = S ++ [x, b] := by simp
@[simp] theorem set2_1 : (S ++ [a, b]).set (S.length + 1) x = S ++ [a, x] := by simp
@[simp] theorem entL2_1 (xs : List Vl) : entL (S ++ [a, .lst xs]) (S.length + 1) = some xs := by simp [entL]
end
theorem clean_two (S : Sto) (a b a' b' : Ent) (h : entBelow (S.length + 2) a' = true) (h2 : entBelow (S.length + 2) b' = true) : Clean (S ++ [a, b]) (S ++ [a', b']) := fun i hi => by
  have hl : (S ++ [a, b]).length = S.length + 2 := by simp
  rw [hl] at hi ⊢
  by_cases q : i < S.length
  · exact .inl (by rw [List.getElem?_append_left q, List.getElem?_append_left q])
  · by_cases e : i = S.length
    · subst e
      exact .inr ⟨a', by simp, h⟩
    · have e2 : i = S.length + 1 := by omega
      subst e2
      exact .inr ⟨b', by simp, h2⟩
theorem leave_two (S : Sto) (a b a' b' : Ent) (v : Vl) (hv : below (S.length + 2) v = true) (h : entBelow (S.length + 2) a' = true) (h2 : entBelow (S.length + 2) b' = true) : leave (S ++ [a, b]) v (S ++ [a', b']) = .ok v (S ++ [a', b']) := by
  unfold leave
  rw [if_pos ⟨by simpa using hv, clean_two S a b a' b' h h2⟩]
  congr 1
  rw [List.take_of_length_le (by simp)]
theorem leaveX_two (S : Sto) (a b a' b' : Ent) (c : Nat) (n : Option Int) (h : entBelow (S.length + 2) a' = true) (h2 : entBelow (S.length + 2) b' = true) : leaveX (S ++ [a, b]) c n (S ++ [a', b']) = .exc c n (S ++ [a', b']) := by
  unfold leaveX
  rw [if_pos (clean_two S a b a' b' h h2)]
  congr 1
  rw [List.take_of_length_le (by simp)]
/-- the ledger's object -/
def ledE (nm : List (List Nat)) (n last reached count : Int) (j : Nat) : Ent := .obj 23 [("names", .p (.list (nm.map fun w => .str (T w)))), ("first", .p (.int n)), ("last", .p (.int last)), ("reached", .p (.int reached)), ("standing", .r j), ("count", .p (.int count))]
/-- .. and its list -/
def ledS (S : Sto) (nm : List (List Nat)) (n last reached count : Int) (st : List Int) : Sto := S ++ [ledE nm n last reached count (S.length + 1), .lst (st.map fun k => .p (.int k))]
section
variable (S : Sto) (nm : List (List Nat)) (n last reached count : Int) (st : List Int)
theorem is_day_int (k : Int) : F_Ledger_is_day [.r S.length, .p (.int k)] (ledS S nm n last reached count st) = .ok (.p (.bool (decide (n ≤ k ∧ k ≤ last)))) (ledS S nm n last reached count st) := by
  have e := fun S => is_between_ok k n last S
  simp [F_Ledger_is_day, M_Ledger_is_day, initE, ledS, ledE, e]
theorem inV_standing (k : Int) : inV false (.p (.int k)) (.r (S.length + 1)) (ledS S nm n last reached count st) = .ok (.p (.bool (decide (k ∈ st)))) (ledS S nm n last reached count st) := by
  have h1 : datL (ledS S nm n last reached count st) (.r (S.length + 1)) = some (.list (st.map .int)) := by
    show (match entL (ledS S nm n last reached count st) (S.length + 1) with
      | some vs => (pures vs).map PyData.list
      | none => none) = _
    unfold ledS
    rw [entL2_1]
    simp
  rw [inV_dat false (ledS S nm n last reached count st) h1 rfl (by simp) (by simp) (fun z h => by cases h)]
  simp
/-- a change that may stand -/
def ChOk (nm : List (List Nat)) (n last : Int) (st : List Int) : Ch → Prop
  | .plan d w => (n ≤ d ∧ d ≤ last) ∧ w ∈ nm
  | .seats d k => (n ≤ d ∧ d ≤ last) ∧ (0 ≤ k ∧ k ≤ 1000000)
  | .hold d => n ≤ d ∧ d ≤ last
  | .go d => n ≤ d ∧ d ≤ last
  | .stop d => n ≤ d ∧ d ≤ last
  | .last d => n ≤ d ∧ d ≤ last
  | .undo k => k ∈ st
  | .grant a => 1 ≤ a ∧ a ≤ 999999999999999999999999999999
  | .back => True
theorem inV_names (w : List Nat) (S : Sto) : inV false (.p (.str (T w))) (.p (.list (nm.map fun w => .str (T w)))) S = .ok (.p (.bool (decide (w ∈ nm)))) S := by
  rw [inV_list false _ _ S (by simp) (by simp)]
  have : (PyData.str (T w) ∈ nm.map fun w => PyData.str (T w)) ↔ w ∈ nm := by
    rw [List.mem_map]
    exact ⟨fun ⟨x, h1, h2⟩ => (show x = w by simpa using h2) ▸ h1, fun h => ⟨w, h, rfl⟩⟩
  simp only [Bool.false_eq_true, if_false, decide_eq_decide.mpr this]
theorem is_term_ok (ch : Ch) (h : ChOk nm n last st ch) (ht : ch.isT = true) : F_Ledger_is_term [.r S.length, .p ch.d] (ledS S nm n last reached count st) = .ok (.p (.bool true)) (ledS S nm n last reached count st) := by
  have e1 := is_day_int S nm n last reached count st
  have e2 := fun w S => inV_names nm w S
  have e3 := fun i a b S => is_between_ok i a b S
  unfold ledS ledE at *
  cases ch with
  | plan d w =>
    obtain ⟨h1, h2⟩ := h
    simp [F_Ledger_is_term, M_Ledger_is_term, initE, Ch.d, c_WORDS, e1, e2, h1, h2]
  | seats d k =>
    obtain ⟨h1, h2⟩ := h
    simp [F_Ledger_is_term, M_Ledger_is_term, initE, Ch.d, c_WORDS, e1, e3, h1, h2]
  | hold d => simp [F_Ledger_is_term, M_Ledger_is_term, initE, Ch.d, c_WORDS, e1, show n ≤ d ∧ d ≤ last from h]
  | go d => simp [F_Ledger_is_term, M_Ledger_is_term, initE, Ch.d, c_WORDS, e1, show n ≤ d ∧ d ≤ last from h]
  | stop d => simp [F_Ledger_is_term, M_Ledger_is_term, initE, Ch.d, c_WORDS, e1, show n ≤ d ∧ d ≤ last from h]
  | last d => simp [F_Ledger_is_term, M_Ledger_is_term, initE, Ch.d, c_WORDS, e1, show n ≤ d ∧ d ≤ last from h]
  | undo k => cases ht
  | grant k => cases ht
  | back => cases ht
theorem is_change_ok (ch : Ch) (h : ChOk nm n last st ch) : F_Ledger_is_change [.r S.length, .p ch.d] (ledS S nm n last reached count st) = .ok (.p (.bool true)) (ledS S nm n last reached count st) := by
  have e1 := fun ht => is_term_ok S nm n last reached count st ch h ht
  have e2 := fun k => inV_standing S nm n last reached count st k
  have e3 := fun i a b S => is_between_ok i a b S
  unfold ledS ledE at *
  cases ch with
  | undo k => simp [F_Ledger_is_change, M_Ledger_is_change, initE, Ch.d, e2, show k ∈ st from h]
  | grant a => simp [F_Ledger_is_change, M_Ledger_is_change, initE, Ch.d, e3, show 1 ≤ a ∧ a ≤ 999999999999999999999999999999 from h]
  | back => simp [F_Ledger_is_change, M_Ledger_is_change, initE, Ch.d]
  | _ =>
    simp [Ch.d, Ch.isT] at e1
    simp [F_Ledger_is_change, M_Ledger_is_change, initE, Ch.d, e1]
end
theorem find_erase (k : Int) : ∀ st : List Int, k ∈ st → ∃ j, st.findIdx? (· == k) = some j ∧ st.eraseIdx j = st.erase k
  | [], h => by cases h
  | x :: st, h => by
    rw [List.findIdx?_cons, List.erase_cons]
    by_cases e : x = k
    · subst e
      exact ⟨0, by simp, by simp⟩
    · have h2 : k ∈ st := (List.mem_cons.mp h).resolve_left fun z => e z.symm
      obtain ⟨j, h3, h4⟩ := find_erase k st h2
      have e2 : (x == k) = false := beq_false_of_ne e
      rw [h3, e2]
      exact ⟨j + 1, by simp, by simp [h4]⟩
/-- the terms that stand behind an entry -/
def nst (st : List Int) (count : Int) : Ch → List Int
  | .undo k => st.erase k
  | .grant _ => st
  | .back => st
  | _ => st ++ [count]
theorem nst_len (st : List Int) (count : Int) (ch : Ch) : (nst st count ch).length ≤ st.length + 1 := by
  cases ch with
  | undo k => exact Nat.le_succ_of_le (List.erase_sublist.length_le)
  | grant => exact Nat.le_succ _
  | back => exact Nat.le_succ _
  | _ => simp [nst]
@[simp] theorem augI_int (k : Int → Int → Int) (i j : Int) (S : Sto) : augI k (.p (.int i)) (.p (.int j)) S = .ok (.p (.int (k i j))) S := id rfl
@[simp] theorem belowAll_ints (n : Nat) (st : List Int) : belowAll n (st.map fun k => Vl.p (.int k)) = true := by
  induction st with
  | nil => simp
  | cons x st ih => simp [ih]
@[simp] theorem entBelow_lst (n : Nat) (xs : List Vl) : entBelow n (.lst xs) = belowAll n xs := by simp [entBelow]
theorem rem_two (S : Sto) (a : Ent) (st : List Int) (k : Int) (h : k ∈ st) : oRem (.r (S.length + 1)) [.p (.int k)] (S ++ [a, .lst (st.map fun k => .p (.int k))]) = .ok (.p .none) (S ++ [a, .lst ((st.erase k).map fun k => .p (.int k))]) := by
  obtain ⟨j, h3, h4⟩ := find_erase k st h
  have h1 : intsV (S ++ [a, .lst (st.map fun k => .p (.int k))]) (.r (S.length + 1)) = some st := by
    unfold intsV
    rw [asL_r, entL2_1]
    simp
  show (match intsV (S ++ [a, .lst (st.map fun k => .p (.int k))]) (.r (S.length + 1)) with
    | some ns => (match ns.findIdx? (· == k) with
      | some j => R.ok (Vl.p .none) ((S ++ [a, .lst (st.map fun k => .p (.int k))]).set (S.length + 1) (.lst ((ns.eraseIdx j).map fun n => .p (.int n))))
      | none => .bad)
    | none => .bad) = _
  simp only [h1, h3, h4, set2_1]
theorem take_ok (S : Sto) (nm : List (List Nat)) (n last reached count : Int) (st : List Int) (e : Int) (ch : Ch) (he : n ≤ e ∧ e ≤ last) (hr : reached ≤ e) (h : ChOk nm n last st ch) (hs : st.length ≤ 1000) :
    F_Ledger_take [.r S.length, .p (.int e), .p ch.d] (ledS S nm n last reached count st) = .ok (.p .none) (ledS S nm n last e (count + 1) (nst st count ch)) := by
  have e1 := is_day_int S nm n last reached count st e
  have e2 := is_change_ok S nm n last reached count st ch h
  have hr' : ¬ (e < reached) := by omega
  have hl : st.length < 16777216 := by omega
  unfold ledS at *
  cases ch with
  | undo k =>
    have h5 := fun a => rem_two S a st k h
    simp [Ch.d, ledE, -fnOf_ap] at e1 e2
    simp [F_Ledger_take, M_Ledger_take, initE, Ch.d, ledE, e1, e2, he, hr', c_TERMS, nst, h5, leave_two, -List.map_append, belowAll_ints]
  | grant a =>
    simp [Ch.d, ledE, -fnOf_ap] at e1 e2
    simp [F_Ledger_take, M_Ledger_take, initE, Ch.d, ledE, e1, e2, he, hr', c_TERMS, nst, leave_two, belowAll_ints]
  | back =>
    simp [Ch.d, ledE, -fnOf_ap] at e1 e2
    simp [F_Ledger_take, M_Ledger_take, initE, Ch.d, ledE, e1, e2, he, hr', c_TERMS, nst, leave_two, belowAll_ints]
  | _ =>
    have hm : (st.map fun k => Vl.p (.int k)) ++ [Vl.p (.int count)] = (st ++ [count]).map fun k => Vl.p (.int k) := by simp
    simp [Ch.d, ledE, -fnOf_ap] at e1 e2
    simp [F_Ledger_take, M_Ledger_take, initE, Ch.d, ledE, e1, e2, he, hr', c_TERMS, nst, leave_two, hl, hm, belowAll_ints, -List.map_append]
end PV

/-! Entries that may stand: what check_entries says of them. -/
namespace PV
open PySem L2
/-- an entry -/
def enD (p : Int × Ch) : D := .tuple [.int p.1, p.2.d]
/-- entries that may stand, one behind another -/
def EOk (nm : List (List Nat)) (n last : Int) : Int → List Int → Nat → List (Int × Ch) → Prop
  | _, _, _, [] => True
  | reached, st, count, p :: es => (n ≤ p.1 ∧ p.1 ≤ last) ∧ reached ≤ p.1 ∧ ChOk nm n last st p.2 ∧ EOk nm n last p.1 (nst st count p.2) (count + 1) es
/-- what stands behind them -/
def runSt : List Int → Nat → List (Int × Ch) → List Int
  | st, _, [] => st
  | st, count, p :: es => runSt (nst st count p.2) (count + 1) es
def runAt : Int → List (Int × Ch) → Int
  | r, [] => r
  | _, p :: es => runAt p.1 es
section
variable {nm : List (List Nat)} {n last : Int}
theorem EOk.app : ∀ {es : List (Int × Ch)} {r : Int} {st : List Int} {count : Nat} {p : Int × Ch}, EOk nm n last r st count es → (n ≤ p.1 ∧ p.1 ≤ last) → runAt r es ≤ p.1 → ChOk nm n last (runSt st count es) p.2 → EOk nm n last r st count (es ++ [p])
  | [], _, _, _, _, _, h1, h2, h3 => ⟨h1, h2, h3, trivial⟩
  | q :: es, r, st, count, p, h, h1, h2, h3 => ⟨h.1, h.2.1, h.2.2.1, EOk.app h.2.2.2 h1 h2 h3⟩
theorem EOk.take : ∀ {es : List (Int × Ch)} (k : Nat) {r : Int} {st : List Int} {count : Nat}, EOk nm n last r st count es → EOk nm n last r st count (es.take k)
  | [], k, _, _, _, _ => by simp [EOk]
  | q :: es, 0, _, _, _, _ => trivial
  | q :: es, k + 1, _, _, _, h => ⟨h.1, h.2.1, h.2.2.1, EOk.take k h.2.2.2⟩
theorem runSt_app : ∀ (es : List (Int × Ch)) (st : List Int) (count : Nat) (p : Int × Ch), runSt st count (es ++ [p]) = nst (runSt st count es) ((count + es.length : Nat) : Int) p.2
  | [], _, _, _ => by simp [runSt]
  | q :: es, st, count, p => by
    simp only [List.cons_append, runSt]
    rw [runSt_app es, List.length_cons, show count + 1 + es.length = count + (es.length + 1) by omega]
theorem runAt_app : ∀ (es : List (Int × Ch)) (r : Int) (p : Int × Ch), runAt r (es ++ [p]) = p.1
  | [], _, _ => rfl
  | q :: es, _, p => runAt_app es q.1 p
theorem runSt_len : ∀ (es : List (Int × Ch)) (st : List Int) (count : Nat), (runSt st count es).length ≤ st.length + es.length
  | [], _, _ => Nat.le_refl _
  | q :: es, st, count => by
    have h1 := runSt_len es (nst st count q.2) (count + 1)
    have h2 := nst_len st count q.2
    simp only [runSt, List.length_cons]
    omega
end
theorem take_run {ps : List Pl} {n : Int} {c : Cy} {last : Int} {w : Option Vl} (S : Sto) (rest : List Vl) : ∀ (es : List (Int × Ch)) (r : Int) (st : List Int) (count : Nat), EOk (ps.map (·.name)) n last r st count es → st.length + es.length ≤ 100 →
    loopG (gTp [gNm 3, gNm 4]) M_check_entries_b1 ((es.map fun p => .p (enD p)) ++ rest) [some (.p (acctD ps n c)), w, some (.r S.length), none, none] (ledS S (ps.map (·.name)) n last r count st)
      = loopG (gTp [gNm 3, gNm 4]) M_check_entries_b1 rest [some (.p (acctD ps n c)), w, some (.r S.length), none, none] (ledS S (ps.map (·.name)) n last (runAt r es) ((count + es.length : Nat) : Int) (runSt st count es))
  | [], r, st, count, _, _ => by simp [runAt, runSt]
  | p :: es, r, st, count, h, hl => by
    have e1 := take_ok S (ps.map (·.name)) n last r count st p.1 p.2 h.1 h.2.1 h.2.2.1 (by simp only [List.length_cons] at hl; omega)
    have e2 := take_run (c := c) (w := w) S rest es p.1 (nst st count p.2) (count + 1) h.2.2.2 (by have := nst_len st count p.2; simp only [List.length_cons] at hl; omega)
    have e3 : (count + 1 + es.length : Nat) = count + (p :: es).length := by simp only [List.length_cons]; omega
    rw [e3] at e2
    obtain ⟨d, ch⟩ := p
    simp only [runAt, runSt, List.map_cons, List.cons_append]
    rw [show (((count + 1 : Nat) : Int)) = (count : Int) + 1 by omega] at e2
    rw [← e2]
    unfold ledS ledE at *
    simp [M_check_entries_b1, enD, e1, -List.map_map]
theorem take_loop {ps : List Pl} {n : Int} {c : Cy} {last : Int} {w : Option Vl} (S : Sto) (es : List (Int × Ch)) (r : Int) (st : List Int) (count : Nat) (h : EOk (ps.map (·.name)) n last r st count es) (hl : st.length + es.length ≤ 100) :
    loopG (gTp [gNm 3, gNm 4]) M_check_entries_b1 (es.map fun p => .p (enD p)) [some (.p (acctD ps n c)), w, some (.r S.length), none, none] (ledS S (ps.map (·.name)) n last r count st)
      = .nx [some (.p (acctD ps n c)), w, some (.r S.length), none, none] (ledS S (ps.map (·.name)) n last (runAt r es) ((count + es.length : Nat) : Int) (runSt st count es)) := by
  have h := take_run (c := c) (w := w) S [] es r st count h hl
  rwa [List.append_nil, loopG_nil] at h
theorem check_entries_ok {ps : List Pl} {n : Int} {c : Cy} (h : AcctOk ps n c) {es : List (Int × Ch)} (hl : es.length ≤ 40) (he : EOk (ps.map (·.name)) n (beg n c 60 - 1) n [] 0 es) (S : Sto) :
    F_check_entries [.p (acctD ps n c), .p (.list (es.map enD))] S = .ok (.p .none) S := by
  have e1 := take_loop (c := c) (w := some (.p (.list (es.map enD)))) S es n [] 0 he (by simp; omega)
  have e2 := fun S => begin_of_ok (n := n) (c := c) (k := 60) S h.first h.cy (by decide)
  have e4 := fun e S (he : e.length = 3) => lcG_map (g := gNm 2) (a := m2 ixV (mVar 2) (mC (.int 0))) (e := e) (S := S) (fun p : Pl => .p p.d) (fun p => .p (.str (T p.name))) ps fun p _ => ⟨_, rfl, by simp [Pl.d, he]⟩
  have l1 : ps.length ≤ 16777216 := by have := h.l8; omega
  have l2 : es.length ≤ 16777216 := by omega
  have l3 : ¬ ((40 : Int) < es.length) := by omega
  unfold ledS ledE acctD at *
  simp [Function.comp_def] at e1
  simp [F_check_entries, M_check_entries, initE, acctD, F_Ledger___init___m, M_Ledger___init___m, e1, e2, e4, l1, l2, l3, Function.comp_def]
end PV

/-! Entries as the laws draw them. -/
namespace PV
open PySem L2
theorem atI_bg (n : Int) (c : Cy) {j k : Int} (h0 : 0 ≤ k) (h : k < j) : atI ((iR 0 j).map fun k => Vl.p (.int (beg n c k))) k = some (.p (.int (beg n c k))) := by
  rw [atI_pos _ h0, List.getElem?_map, iR_get h0 (by omega)]
  simp
theorem atI_bgL (n : Int) (c : Cy) : atI ((iR 0 61).map fun k => Vl.p (.int (beg n c k))) (-1) = some (.p (.int (beg n c 60))) := by
  have h : ((iR 0 61).map fun k => Vl.p (.int (beg n c k))).length = 61 := by rw [List.length_map, len_iR]; rfl
  rw [atI_m1, List.getLast?_eq_getElem?, h, List.getElem?_map, show 61 - 1 = (60 : Int).toNat by decide, iR_get (by decide) (by decide)]
  simp
theorem beg60 {n : Int} {c : Cy} (hn : FirstOk n) (hc : c.Ok) : n < beg n c 60 ∧ beg n c 60 ≤ 3652058 := by
  have h := beg_mono (j := 0) (k := 60) hn hc (by decide) (by decide) (by decide)
  rw [beg_0 hn] at h
  exact ⟨h, (beg_bd hn hc (by decide)).2⟩
theorem from_k32 {n : Int} {c : Cy} (hn : FirstOk n) (hc : c.Ok) (y e sp : Int) (S : Sto) (hs : 1 ≤ sp ∧ sp ≤ 60) : ∃ d : Int, F_from_k32 [.p (.int y), .p (.int e), .p (.list ((iR 0 61).map fun k => .int (beg n c k))), .p (.int sp)] S = .ok (.p (.int d)) S ∧ n ≤ d ∧ d ≤ beg n c 60 - 1 := by
  have hs0 : 0 < sp := by omega
  have em := fun S => modV_pos (y / 8) S hs0
  have i1 := Int.emod_nonneg (y / 8) (show sp ≠ 0 by omega)
  have i2 := Int.emod_lt_of_pos (y / 8) hs0
  have e1 := atI_bg n c (j := 61) (k := y / 8 % sp) i1 (by omega)
  have e2 := atI_bg n c (j := 61) (k := sp) (by omega) (by omega)
  have e3 := atI_bg n c (j := 61) (k := 0) (by decide) (by decide)
  have e4 := atI_bgL n c
  have h60 := beg60 hn hc
  rw [beg_0 hn] at e3
  have hm := beg_mono (j := 0) (k := sp) hn hc (by decide) (by omega) (by omega)
  rw [beg_0 hn] at hm
  have hb := (beg_bd (k := sp) hn hc (by omega)).2
  have hd : 0 < beg n c sp - n := by omega
  have hd2 : beg n c sp - n < 1606938044258990275541962092341162602522202993782792835301376 := by have := hn.1; omega
  obtain ⟨w, hw⟩ : ∃ w, beg n c sp - n = w := ⟨_, rfl⟩
  rw [hw] at hd hd2
  have em2 := fun S => modV_pos (y / 8) S hd
  obtain ⟨q, e5, _⟩ := pickG (fun i : Int => Vl.p (.int i)) [e, beg n c (y / 8 % sp), beg n c (y / 8 % sp) - 1, e + y / 8 % 40] (y % 4) (fun _ => True) (by omega) (by simp; omega) (fun _ _ => trivial)
  simp only [List.map_cons, List.map_nil] at e5
  by_cases h4 : y % 8 = 4
  · have h5 : y % 8 ≠ 5 := by omega
    refine ⟨_, by simp [-atI_ofNat, -atI_m1, F_from_k32, M_from_k32, initE, em, em2, e1, e2, e3, e4, e5, hw, h4, h5, hs0, hd]; rfl, ?_⟩
    split <;> split <;> omega
  · by_cases h5 : y % 8 = 5
    · refine ⟨_, by simp [-atI_ofNat, -atI_m1, F_from_k32, M_from_k32, initE, em, em2, e1, e2, e3, e4, e5, hw, h4, h5, hs0, hd]; rfl, ?_⟩
      split <;> split <;> omega
    · refine ⟨_, by simp [-atI_ofNat, -atI_m1, F_from_k32, M_from_k32, initE, em, em2, e1, e2, e3, e4, e5, hw, h4, h5, hs0, hd]; rfl, ?_⟩
      split <;> split <;> omega
theorem neV_dat {S : Sto} {u v : Vl} {d : D} (h : datL S u = some d) : neV u v S = neV (.p d) v S := by
  unfold neV
  rw [h]
  rfl
theorem datL_two (S : Sto) (a : Ent) (st : List Int) : datL (S ++ [a, .lst (st.map fun k => .p (.int k))]) (.r (S.length + 1)) = some (.list (st.map .int)) := by
  show (match entL (S ++ [a, .lst (st.map fun k => .p (.int k))]) (S.length + 1) with
    | some vs => (pures vs).map PyData.list
    | none => none) = _
  rw [entL2_1]
  simp
theorem ne_two (S : Sto) (a : Ent) (st : List Int) : neV (.r (S.length + 1)) (.p (.list [])) (S ++ [a, .lst (st.map fun k => .p (.int k))]) = .ok (.p (.bool (!decide (st = [])))) (S ++ [a, .lst (st.map fun k => .p (.int k))]) := by
  rw [neV_dat (datL_two S a st), neV_pln _ (by simp) (by simp)]
  simp
theorem len_r {S : Sto} {k : Nat} {vs : List Vl} (h : entL S k = some vs) : lenV (.r k) S = .ok (.p (.int vs.length)) S := by
  show (match asQ S (.r k) with
    | some vs => R.ok (Vl.p (.int vs.length)) S
    | none => .bad) = _
  unfold asQ
  rw [asL_r, h]
theorem len_two (S : Sto) (a : Ent) (st : List Int) : lenV (.r (S.length + 1)) (S ++ [a, .lst (st.map fun k => .p (.int k))]) = .ok (.p (.int st.length)) (S ++ [a, .lst (st.map fun k => .p (.int k))]) := by
  rw [len_r (entL2_1 S a _), List.length_map]
theorem change_k32 {n last : Int} (x d : Int) (nm : List (List Nat)) (st : List Int) (S : Sto) (a : Ent) (hn : 1 ≤ nm.length ∧ nm.length ≤ 8) (hst : st.length ≤ 100) (hx : 0 ≤ x ∧ x < 1000000000) (hd : n ≤ d ∧ d ≤ last) : ∃ ch : Ch, F_change_k32 [.p (.int x), .p (.int d), .p (.list (nm.map fun w => .str (T w))), .r (S.length + 1)] (S ++ [a, .lst (st.map fun k => .p (.int k))]) = .ok (.p ch.d) (S ++ [a, .lst (st.map fun k => .p (.int k))]) ∧ ChOk nm n last st ch := by
  have e7 := ne_two S a st
  have e8 := len_two S a st
  have b7 := bdI (i := x / 26) (by omega)
  have l0 : 0 < (nm.length : Int) := by omega
  have l1 : nm.length ≤ 16777216 := by omega
  have em := fun S => modV_pos (x / 13) S l0
  have i1 := Int.emod_nonneg (x / 13) (show (nm.length : Int) ≠ 0 by omega)
  have i2 := Int.emod_lt_of_pos (x / 13) l0
  have s1 : st.length ≤ 16777216 := by omega
  obtain ⟨w, e1, hw⟩ := pickG (fun w : List Nat => Vl.p (.str (T w))) nm (x / 13 % nm.length) (· ∈ nm) i1 i2 (fun _ h => h)
  have k0 : x % 13 = 0 ∨ x % 13 = 1 ∨ x % 13 = 2 ∨ x % 13 = 3 ∨ x % 13 = 4 ∨ x % 13 = 5 ∨ x % 13 = 6 ∨ x % 13 = 7 ∨ x % 13 = 8 ∨ x % 13 = 9 ∨ x % 13 = 10 ∨ x % 13 = 11 ∨ x % 13 = 12 := by omega
  by_cases h1 : x % 13 < 3
  · exact ⟨.plan d w, by simp [-atI_ofNat, F_change_k32, M_change_k32, initE, h1, l1, l0, em, e1, Ch.d], hd, hw⟩
  by_cases h2 : x % 13 < 5
  · obtain ⟨q, e2, q1, q2⟩ := pick [0, 1, 2, 3, 1000000, x / 104 % 1000] (x / 13 % 6) 0 1000001 (by omega) (by simp; omega) (by simp only [List.mem_cons, List.not_mem_nil, or_false]; rintro x (rfl | rfl | rfl | rfl | rfl | rfl) <;> omega)
    simp only [List.map_cons, List.map_nil] at e2
    exact ⟨.seats d q, by simp [-atI_ofNat, F_change_k32, M_change_k32, initE, h1, h2, e2, Ch.d], hd, by omega, by omega⟩
  by_cases h3 : x % 13 < 9
  · have : x % 13 = 5 ∨ x % 13 = 6 ∨ x % 13 = 7 ∨ x % 13 = 8 := by omega
    rcases this with h | h | h | h
    · exact ⟨.hold d, by simp [F_change_k32, M_change_k32, initE, h, Ch.d], hd⟩
    · exact ⟨.go d, by simp [F_change_k32, M_change_k32, initE, h, Ch.d], hd⟩
    · exact ⟨.stop d, by simp [F_change_k32, M_change_k32, initE, h, Ch.d], hd⟩
    · exact ⟨.last d, by simp [F_change_k32, M_change_k32, initE, h, Ch.d], hd⟩
  by_cases h4 : x % 13 < 11
  · by_cases h5 : st = []
    · have h6 : x % 13 ≠ 11 := by omega
      have h7 : x % 13 ≠ 12 := by omega
      subst h5
      simp only [List.map_nil] at e7
      have : x / 13 % 4 = 0 ∨ x / 13 % 4 = 1 ∨ x / 13 % 4 = 2 ∨ x / 13 % 4 = 3 := by omega
      rcases this with h | h | h | h
      · exact ⟨.go d, by simp [F_change_k32, M_change_k32, initE, h, h1, h2, h3, h4, h6, h7, e7, Ch.d], hd⟩
      · exact ⟨.stop d, by simp [F_change_k32, M_change_k32, initE, h, h1, h2, h3, h4, h6, h7, e7, Ch.d], hd⟩
      · exact ⟨.hold d, by simp [F_change_k32, M_change_k32, initE, h, h1, h2, h3, h4, h6, h7, e7, Ch.d], hd⟩
      · exact ⟨.last d, by simp [F_change_k32, M_change_k32, initE, h, h1, h2, h3, h4, h6, h7, e7, Ch.d], hd⟩
    · have h0 : 0 < (st.length : Int) := by
        cases st with
        | nil => exact absurd rfl h5
        | cons x st => simp
      have em2 := fun S => modV_pos (x / 13) S h0
      have j1 := Int.emod_nonneg (x / 13) (show (st.length : Int) ≠ 0 by omega)
      have j2 := Int.emod_lt_of_pos (x / 13) h0
      obtain ⟨k, e2, hk⟩ := pickG (fun w : Int => Vl.p (.int w)) st (x / 13 % st.length) (· ∈ st) j1 j2 (fun _ h => h)
      exact ⟨.undo k, by simp [-atI_ofNat, F_change_k32, M_change_k32, initE, h1, h2, h3, h4, h5, s1, h0, em2, e2, e7, e8, Ch.d], hk⟩
  by_cases h5 : x % 13 = 11
  · obtain ⟨q, e2, q1, q2⟩ := pick [x / 26 % 1000, x / 26 * 1000000000000000000 % 999999999999999999999999999999] (x / 13 % 2) 0 999999999999999999999999999999 (by omega) (by simp; omega) (by simp only [List.mem_cons, List.not_mem_nil, or_false]; rintro x (rfl | rfl) <;> omega)
    simp only [List.map_cons, List.map_nil] at e2
    exact ⟨.grant (1 + q), by simp [-atI_ofNat, F_change_k32, M_change_k32, initE, h5, e2, Ch.d], by omega, by omega⟩
  · have h6 : x % 13 = 12 := by omega
    exact ⟨.back, by simp [F_change_k32, M_change_k32, initE, h6, Ch.d], trivial⟩
@[simp] theorem ch_plan (d : Int) (w : List Nat) : (Ch.plan d w).d = .tuple [.str "plan", .int d, .str (T w)] := rfl
@[simp] theorem ch_seats (d k : Int) : (Ch.seats d k).d = .tuple [.str "seats", .int d, .int k] := rfl
@[simp] theorem ch_hold (d : Int) : (Ch.hold d).d = .tuple [.str "hold", .int d] := rfl
@[simp] theorem ch_go (d : Int) : (Ch.go d).d = .tuple [.str "go", .int d] := rfl
@[simp] theorem ch_stop (d : Int) : (Ch.stop d).d = .tuple [.str "stop", .int d] := rfl
@[simp] theorem ch_last (d : Int) : (Ch.last d).d = .tuple [.str "last", .int d] := rfl
@[simp] theorem ch_undo (k : Int) : (Ch.undo k).d = .tuple [.str "undo", .int k] := rfl
@[simp] theorem ch_grant (k : Int) : (Ch.grant k).d = .tuple [.str "grant", .int k] := rfl
@[simp] theorem ch_back : Ch.back.d = .tuple [.str "back"] := rfl
@[simp] theorem enD_mk (e : Int) (ch : Ch) : enD (e, ch) = .tuple [.int e, ch.d] := rfl
/-- the store of a drawing: the entries, and what stands -/
def drS (S : Sto) (es : List (Int × Ch)) : Sto := S ++ [.lst (es.map fun p => .p (enD p)), .lst ((runSt [] 0 es).map fun k => .p (.int k))]
/-- what is drawn behind k turns -/
structure Drawn (nm : List (List Nat)) (n last : Int) (es : List (Int × Ch)) (r : Int) : Prop where
  ok : EOk nm n last n [] 0 es
  at_ : runAt n es ≤ r
  lo : n ≤ r
  hi : r ≤ last
theorem Drawn.nil {nm : List (List Nat)} {n last : Int} (h : n ≤ last) : Drawn nm n last [] n := ⟨trivial, Int.le_refl _, Int.le_refl _, h⟩
theorem Drawn.app {nm : List (List Nat)} {n last r r2 : Int} {es : List (Int × Ch)} {ch : Ch} (h : Drawn nm n last es r) (h1 : r ≤ r2) (h2 : r2 ≤ last) (hc : ChOk nm n last (runSt [] 0 es) ch) : Drawn nm n last (es ++ [(r2, ch)]) r2 :=
  ⟨h.ok.app (p := (r2, ch)) ⟨by have := h.lo; simp only; omega, h2⟩ (by have := h.at_; simp only; omega) hc, by rw [runAt_app]; exact Int.le_refl _, by have := h.lo; omega, h2⟩
theorem atI_c1 {α : Type} (x y : α) (xs : List α) : atI (x :: y :: xs) 1 = some y := by rw [atI_pos _ (by decide)]; rfl
@[simp] theorem entL2_0 (S : Sto) (xs : List Vl) (b : Ent) : entL (S ++ [.lst xs, b]) S.length = some xs := by simp [entL]
noncomputable def eEnv (n : Int) (c : Cy) (nm : List (List Nat)) (ms : List Int) (z many j r : Int) (S : Sto) (k : Option Vl) : Env := [some (.p (.list (ms.map .int))), some (.p (.int z)), some (.p (.list ((iR 0 61).map fun k => .int (beg n c k)))), some (.p (.list (nm.map fun w => .str (T w)))), some (.p (.int many)), some (.p (.int j)), some (.p (.int r)), some (.r S.length), some (.r (S.length + 1)), k, none, none, none]
@[simp] theorem eEnv_eq (n : Int) (c : Cy) (nm : List (List Nat)) (ms : List Int) (z many j r : Int) (S : Sto) (k : Option Vl) : eEnv n c nm ms z many j r S k = [some (.p (.list (ms.map .int))), some (.p (.int z)), some (.p (.list ((iR 0 61).map fun k => .int (beg n c k)))), some (.p (.list (nm.map fun w => .str (T w)))), some (.p (.int many)), some (.p (.int j)), some (.p (.int r)), some (.r S.length), some (.r (S.length + 1)), k, none, none, none] := rfl
section
variable {n : Int} {c : Cy} (hn : FirstOk n) (hc : c.Ok) (nm : List (List Nat)) (hm : 1 ≤ nm.length ∧ nm.length ≤ 8) (ms : List Int) (hms : ms.length ≤ 63) (z : Int) (many : Int) (hmany : 2 ≤ many ∧ many ≤ 60) (S : Sto)
include hn hc hm hms hmany in
theorem entries_turn (j k r : Int) (es : List (Int × Ch)) (hk : k = es.length) (hl : es.length ≤ 60) (h : Drawn nm n (beg n c 60 - 1) es r) :
    ∃ r2 ch, Drawn nm n (beg n c 60 - 1) (es ++ [(r2, ch)]) r2 ∧ M_entries_k32_b1 (eEnv n c nm ms z many j r S (some (.p (.int k)))) (drS S es) = .nx (eEnv n c nm ms z many j r2 S none) (drS S (es ++ [(r2, ch)])) := by
  have bk := bdI (i := k) (by omega)
  have h60 := beg60 hn hc
  have b0 := atI_bg n c (j := 61) (k := 0) (by decide) (by decide)
  rw [beg_0 hn] at b0
  have b1 := atI_bg n c (j := 61) (k := 1) (by decide) (by decide)
  have b2 := atI_bg n c (j := 61) (k := many - 2) (by omega) (by omega)
  have hb1 := beg_mono (j := 0) (k := 1) hn hc (by decide) (by decide) (by decide)
  rw [beg_0 hn] at hb1
  have hb1' := (beg_bd (k := 1) hn hc (by decide)).2
  have hb2 := beg_mono (j := many - 2) (k := 60) hn hc (by omega) (by omega) (by decide)
  obtain ⟨x, e1, _⟩ := pickG (fun i : Int => Vl.p (.int i)) (ms ++ [z]) (if (ms.length : Int) < k then (ms.length : Int) else k) (fun _ => True) (by split <;> omega) (by rw [List.length_append]; simp; split <;> omega) (fun _ _ => trivial)
  rw [List.map_append, List.map_cons, List.map_nil] at e1
  have hp : pures ((ms.map fun k => Vl.p (.int k)) ++ [.p (.int z)]) = some ((ms ++ [z]).map .int) := by
    rw [show ((ms.map fun k => Vl.p (.int k)) ++ [.p (.int z)]) = ((ms ++ [z]).map PyData.int).map Vl.p by simp]
    exact pures_map _
  obtain ⟨m, e2, m1, m2⟩ := mixed_k30 x k
  obtain ⟨w, hw⟩ : ∃ w, beg n c 1 - n + 1 = w := ⟨_, rfl⟩
  have w1 : 0 < w := by omega
  have w2 : w < 1606938044258990275541962092341162602522202993782792835301376 := by have := hn.1; omega
  obtain ⟨q, e3, _⟩ := pickG (fun i : Int => Vl.p (.int i)) [0, 0, 1, m / 8 % 40, m / 8 % w, 0, 7, m / 8 % 100] (m % 8) (fun _ => True) (by omega) (by simp; omega) (fun _ _ => trivial)
  simp only [List.map_cons, List.map_nil] at e3
  obtain ⟨m', e4, _, _⟩ := mixed_k30 m k
  obtain ⟨r2, hr2⟩ : ∃ r2, (if r < (if beg n c (many - 2) - 1 < r + q then beg n c (many - 2) - 1 else r + q) then (if beg n c (many - 2) - 1 < r + q then beg n c (many - 2) - 1 else r + q) else r) = r2 := ⟨_, rfl⟩
  have r21 : r ≤ r2 := by rw [← hr2]; split <;> omega
  have r22 : r2 ≤ beg n c 60 - 1 := by have := h.hi; rw [← hr2]; split <;> (try split) <;> omega
  obtain ⟨d, e5, d1, d2⟩ := from_k32 hn hc m' r2 many (drS S es) (by omega)
  obtain ⟨ch, e6, hch⟩ := change_k32 (n := n) (last := beg n c 60 - 1) (m / 64) d nm (runSt [] 0 es) S (.lst (es.map fun p => .p (enD p))) hm (by have := runSt_len es [] 0; simp at this; omega) (by omega) ⟨d1, d2⟩
  refine ⟨r2, ch, h.app r21 r22 hch, ?_⟩
  have l1 : ms.length ≤ 16777216 := by omega
  have l2 : ms.length + 1 ≤ 16777216 := by omega
  have l3 : es.length < 16777216 := by omega
  have l4 : (runSt [] 0 es).length < 16777216 := by have := runSt_len es [] 0; simp at this; omega
  unfold drS at *
  rw [runSt_app]
  have z0 : ((0 + es.length : Nat) : Int) = k := by omega
  rw [z0]
  cases ch with
  | undo u =>
    have h5 := rem_two S (.lst ((es.map fun p => .p (enD p)) ++ [.p (enD (r2, .undo u))])) (runSt [] 0 es) u hch
    simp at e6 h5
    simp [-atI_ofNat, M_entries_k32_b1, e1, e2, e3, e4, e5, e6, b0, b1, b2, hw, w1, hr2, l1, l2, l3, l4, hp, atI_c1, nst, h5]
  | grant a =>
    simp at e6
    simp [-atI_ofNat, M_entries_k32_b1, e1, e2, e3, e4, e5, e6, b0, b1, b2, hw, w1, hr2, l1, l2, l3, l4, hp, atI_c1, nst]
  | back =>
    simp at e6
    simp [-atI_ofNat, M_entries_k32_b1, e1, e2, e3, e4, e5, e6, b0, b1, b2, hw, w1, hr2, l1, l2, l3, l4, hp, atI_c1, nst]
  | _ =>
    simp at e6
    simp [-atI_ofNat, M_entries_k32_b1, e1, e2, e3, e4, e5, e6, b0, b1, b2, hw, w1, hr2, l1, l2, l3, l4, hp, atI_c1, nst]
include hn hc hm hms in
theorem entries_k32 : ∃ es : List (Int × Ch), F_entries_k32 [.p (.list (ms.map .int)), .p (.int z), .p (.list ((iR 0 61).map fun k => .int (beg n c k))), .p (.list (nm.map fun w => .str (T w)))] S = .ok (.p (.list (es.map enD))) S ∧ EOk nm n (beg n c 60 - 1) n [] 0 es ∧ es.length ≤ 40 := by
  obtain ⟨many, e1, m1, m2⟩ := pick [10, 60] (if z / 11 % 8 = 5 then 1 else 0) 2 61 (by split <;> omega) (by split <;> simp) (by simp only [List.mem_cons, List.not_mem_nil, or_false]; rintro x (rfl | rfl) <;> omega)
  obtain ⟨j, e2, j1, j2⟩ := pick [z % 15, 40 - z / 704 % 3] (if z / 88 % 8 = 5 then 1 else 0) 0 41 (by split <;> omega) (by split <;> simp) (by simp only [List.mem_cons, List.not_mem_nil, or_false]; rintro x (rfl | rfl) <;> omega)
  have h60 := beg60 hn hc
  obtain ⟨⟨r, es⟩, e3, i1, i2⟩ := loop_rngI (g := gNm 9) (b := M_entries_k32_b1) (j := j) (fun a : Int × List (Int × Ch) => eEnv n c nm ms z many j a.1 S none)
    (fun a => drS S a.2) (fun k a => (a.2.length : Int) = k ∧ Drawn nm n (beg n c 60 - 1) a.2 a.1) _ 0 (n, []) rfl (by omega) ⟨rfl, Drawn.nil (by omega)⟩ fun k a h1 h2 h3 => by
      obtain ⟨r, es⟩ := a
      obtain ⟨g1, g2⟩ := h3
      simp only at g1 g2
      obtain ⟨r2, ch, p1, p2⟩ := entries_turn hn hc nm hm ms hms z many ⟨m1, by omega⟩ S j k r es g1.symm (by omega) g2
      exact ⟨(r2, es ++ [(r2, ch)]), ⟨_, rfl, p2⟩, by simp; omega, p1⟩
  simp only at i1 i2
  have bj := bdI (i := j) (by omega)
  have b0 := atI_bg n c (j := 61) (k := 0) (by decide) (by decide)
  rw [beg_0 hn] at b0
  have e4 : (List.map (fun p => Vl.p (enD p)) es) = (es.map enD).map Vl.p := by simp [Function.comp_def]
  refine ⟨es, ?_, i2.ok, by omega⟩
  simp only [List.map_cons, List.map_nil] at e1 e2
  by_cases h1 : z / 11 % 8 = 5 <;> by_cases h2 : z / 88 % 8 = 5 <;> simp [h1, h2] at e1 e2 <;> subst e1 <;> subst e2 <;> simp [drS, runSt] at e3 <;> simp [-atI_ofNat, atI_c1, F_entries_k32, M_entries_k32, initE, h1, h2, b0, e3, Function.comp_def]
end
theorem any_change_k32 {n : Int} {c : Cy} (hn : FirstOk n) (hc : c.Ok) (x y z : Int) (nm : List (List Nat)) (st : List Int) (S : Sto) (a : Ent) (hm : 1 ≤ nm.length ∧ nm.length ≤ 8) (hst : st.length ≤ 100) (hy : 0 ≤ y ∧ y < 13) : ∃ ch : Ch, F_any_change_k32 [.p (.list [.int x, .int y, .int z]), .p (.list ((iR 0 61).map fun k => .int (beg n c k))), .p (.list (nm.map fun w => .str (T w))), .r (S.length + 1)] (S ++ [a, .lst (st.map fun k => .p (.int k))]) = .ok (.p ch.d) (S ++ [a, .lst (st.map fun k => .p (.int k))]) ∧ ChOk nm n (beg n c 60 - 1) st ch := by
  have e7 := ne_two S a st
  have e8 := len_two S a st
  have h60 := beg60 hn hc
  have b0 := atI_bg n c (j := 61) (k := 0) (by decide) (by decide)
  rw [beg_0 hn] at b0
  have b1 := atI_bgL n c
  obtain ⟨w, hw⟩ : ∃ w, beg n c 60 - n = w := ⟨_, rfl⟩
  have w1 : 0 < w := by omega
  have w2 : w < 1606938044258990275541962092341162602522202993782792835301376 := by have := hn.1; omega
  have em0 := fun S => modV_pos x S w1
  have d1 := Int.emod_nonneg x (show w ≠ 0 by omega)
  have d2 := Int.emod_lt_of_pos x w1
  obtain ⟨d, hd⟩ : ∃ d, n + x % w = d := ⟨_, rfl⟩
  have hd3 : n ≤ d ∧ d ≤ beg n c 60 - 1 := by omega
  have l0 : 0 < (nm.length : Int) := by omega
  have l1 : nm.length ≤ 16777216 := by omega
  have em := fun S => modV_pos z S l0
  have i1 := Int.emod_nonneg z (show (nm.length : Int) ≠ 0 by omega)
  have i2 := Int.emod_lt_of_pos z l0
  have s1 : st.length ≤ 16777216 := by omega
  obtain ⟨q, e1, hq⟩ := pickG (fun w : List Nat => Vl.p (.str (T w))) nm (z % nm.length) (· ∈ nm) i1 i2 (fun _ h => h)
  have g1 : atI [Vl.p (.int x), .p (.int y), .p (.int z)] 1 = some (.p (.int y)) := atI_c1 _ _ _
  have g2 : atI [Vl.p (.int x), .p (.int y), .p (.int z)] 2 = some (.p (.int z)) := by rw [atI_pos _ (by decide)]; rfl
  by_cases h1 : y < 3
  · exact ⟨.plan d q, by simp [-atI_ofNat, -atI_m1, F_any_change_k32, M_any_change_k32, initE, b0, b1, hw, em0, hd, w1, g1, g2, h1, l1, l0, em, e1], hd3, hq⟩
  by_cases h2 : y < 5
  · exact ⟨.seats d (z % 1000001), by simp [-atI_ofNat, -atI_m1, F_any_change_k32, M_any_change_k32, initE, b0, b1, hw, em0, hd, w1, g1, g2, h1, h2], hd3, by omega, by omega⟩
  by_cases h3 : y < 9
  · have : y = 5 ∨ y = 6 ∨ y = 7 ∨ y = 8 := by omega
    have g3 (a b c d : Vl) : atI [a, b, c, d] 2 = some c := by rw [atI_pos _ (by decide)]; rfl
    have g4 (a b c d : Vl) : atI [a, b, c, d] 3 = some d := by rw [atI_pos _ (by decide)]; rfl
    rcases this with rfl | rfl | rfl | rfl
    · exact ⟨.hold d, by simp [-atI_ofNat, -atI_m1, F_any_change_k32, M_any_change_k32, initE, b0, b1, hw, em0, hd, w1, g1, g2], hd3⟩
    · exact ⟨.go d, by simp [-atI_ofNat, -atI_m1, F_any_change_k32, M_any_change_k32, initE, b0, b1, hw, em0, hd, w1, g1, g2, atI_c1], hd3⟩
    · exact ⟨.stop d, by simp [-atI_ofNat, -atI_m1, F_any_change_k32, M_any_change_k32, initE, b0, b1, hw, em0, hd, w1, g1, g2, g3], hd3⟩
    · exact ⟨.last d, by simp [-atI_ofNat, -atI_m1, F_any_change_k32, M_any_change_k32, initE, b0, b1, hw, em0, hd, w1, g1, g2, g4], hd3⟩
  by_cases h4 : y < 11
  · by_cases h5 : st = []
    · have h6 : y ≠ 11 := by omega
      subst h5
      simp only [List.map_nil] at e7
      exact ⟨.back, by simp [-atI_ofNat, -atI_m1, F_any_change_k32, M_any_change_k32, initE, b0, b1, hw, em0, hd, w1, g1, g2, h1, h2, h3, h4, h6, e7], trivial⟩
    · have h0 : 0 < (st.length : Int) := by
        cases st with
        | nil => exact absurd rfl h5
        | cons x st => simp
      have em2 := fun S => modV_pos z S h0
      have j1 := Int.emod_nonneg z (show (st.length : Int) ≠ 0 by omega)
      have j2 := Int.emod_lt_of_pos z h0
      obtain ⟨k, e2, hk⟩ := pickG (fun w : Int => Vl.p (.int w)) st (z % st.length) (· ∈ st) j1 j2 (fun _ h => h)
      exact ⟨.undo k, by simp [-atI_ofNat, -atI_m1, F_any_change_k32, M_any_change_k32, initE, b0, b1, hw, em0, hd, w1, g1, g2, h1, h2, h3, h4, h5, s1, h0, em2, e2, e7, e8], hk⟩
  by_cases h5 : y = 11
  · subst h5
    exact ⟨.grant (1 + z % 999999999999999999999999999999), by simp [-atI_ofNat, -atI_m1, F_any_change_k32, M_any_change_k32, initE, b0, b1, hw, em0, hd, w1, g1, g2], by omega, by omega⟩
  · exact ⟨.back, by simp [-atI_ofNat, -atI_m1, F_any_change_k32, M_any_change_k32, initE, b0, b1, hw, em0, hd, w1, g1, g2, h1, h2, h3, h4, h5], trivial⟩
theorem digs6 (x t : Int) (S : Sto) (ht : 0 < t ∧ t < 1606938044258990275541962092341162602522202993782792835301376) : F_digits_k30 [.p (.int x), .p (.list [.int 4, .int t, .int 4, .int t, .int 13, .int 1000000000000000000000000000000])] S = .ok (.p (.list [.int (x % 4), .int (x / 4 % t), .int (x / 4 / t % 4), .int (x / 4 / t / 4 % t), .int (x / 4 / t / 4 / t % 13), .int (x / 4 / t / 4 / t / 13 % 1000000000000000000000000000000)])) S := by
  have h := digits_k30 x [4, t, 4, t, 13, 1000000000000000000000000000000] S (by
    simp only [List.mem_cons, List.not_mem_nil, or_false]
    rintro s (rfl | rfl | rfl | rfl | rfl | rfl)
    · omega
    · exact ht
    · omega
    · exact ht
    · omega
    · omega) (by simp)
  exact h
noncomputable def aEnv (n : Int) (c : Cy) (nm : List (List Nat)) (ms : List Int) (t r : Int) (S : Sto) (k : Option Vl) : Env := [some (.p (.list (ms.map .int))), some (.p (.list ((iR 0 61).map fun k => .int (beg n c k)))), some (.p (.list (nm.map fun w => .str (T w)))), some (.p (.int t)), some (.p (.int r)), some (.r S.length), some (.r (S.length + 1)), k, none, none, none, none]
@[simp] theorem aEnv_eq (n : Int) (c : Cy) (nm : List (List Nat)) (ms : List Int) (t r : Int) (S : Sto) (k : Option Vl) : aEnv n c nm ms t r S k = [some (.p (.list (ms.map .int))), some (.p (.list ((iR 0 61).map fun k => .int (beg n c k)))), some (.p (.list (nm.map fun w => .str (T w)))), some (.p (.int t)), some (.p (.int r)), some (.r S.length), some (.r (S.length + 1)), k, none, none, none, none] := rfl
section
variable {n : Int} {c : Cy} (hn : FirstOk n) (hc : c.Ok) (nm : List (List Nat)) (hm : 1 ≤ nm.length ∧ nm.length ≤ 8) (ms : List Int) (hms : ms.length ≤ 40) (S : Sto)
include hn hc hm hms in
theorem any_entries_turn (t k r : Int) (ht : beg n c 60 - n = t) (es : List (Int × Ch)) (hk : k = es.length) (hl : k < ms.length) (h : Drawn nm n (beg n c 60 - 1) es r) :
    ∃ r2 ch, Drawn nm n (beg n c 60 - 1) (es ++ [(r2, ch)]) r2 ∧ M_any_entries_k32_b1 (aEnv n c nm ms t r S (some (.p (.int k)))) (drS S es) = .nx (aEnv n c nm ms t r2 S none) (drS S (es ++ [(r2, ch)])) := by
  have h60 := beg60 hn hc
  have b0 := atI_bg n c (j := 61) (k := 0) (by decide) (by decide)
  rw [beg_0 hn] at b0
  have b1 := atI_bgL n c
  obtain ⟨x, e1, _⟩ := pickG (fun i : Int => Vl.p (.int i)) ms k (fun _ => True) (by omega) hl (fun _ _ => trivial)
  have t1 : 0 < t := by omega
  have t2 : t < 1606938044258990275541962092341162602522202993782792835301376 := by have := hn.1; omega
  have e2 := fun S => digs6 x t S ⟨t1, t2⟩
  have x1 := Int.emod_nonneg (x / 4) (show t ≠ 0 by omega)
  have x2 := Int.emod_lt_of_pos (x / 4) t1
  have hy : 0 ≤ x / 4 / t / 4 / t % 13 ∧ x / 4 / t / 4 / t % 13 < 13 := by omega
  generalize x / 4 % t = q1 at *
  generalize hz5 : x / 4 / t / 4 / t / 13 % 1000000000000000000000000000000 = z5 at *
  generalize x / 4 / t / 4 % t = q3 at *
  have q20 : 0 ≤ x / 4 / t % 4 ∧ x / 4 / t % 4 < 4 := by omega
  generalize x / 4 / t % 4 = q2 at *
  generalize x / 4 / t / 4 / t % 13 = q4 at *
  have q00 : 0 ≤ x % 4 ∧ x % 4 < 4 := by omega
  generalize x % 4 = q0 at *
  obtain ⟨v, e3, v1, v2⟩ := pick [0, q1 % 8, q1 % 100, q1] q0 0 (t + 1) q00.1 (by simp; omega) (by simp only [List.mem_cons, List.not_mem_nil, or_false]; rintro x (rfl | rfl | rfl | rfl) <;> omega)
  simp only [List.map_cons, List.map_nil] at e3
  obtain ⟨r2, hr2⟩ : ∃ r2, (if beg n c 60 - 1 < r + v then beg n c 60 - 1 else r + v) = r2 := ⟨_, rfl⟩
  have r21 : r ≤ r2 := by have := h.hi; rw [← hr2]; split <;> omega
  have r22 : r2 ≤ beg n c 60 - 1 := by rw [← hr2]; split <;> omega
  obtain ⟨u, e4, _⟩ := pickG (fun i : Int => Vl.p (.int i)) [r2 - n, r2 - n + q3 % 40, q3 % 300, q3] q2 (fun _ => True) q20.1 (by simp; omega) (fun _ _ => trivial)
  simp only [List.map_cons, List.map_nil] at e4
  obtain ⟨ch, e6, hch⟩ := any_change_k32 hn hc u q4 z5 nm (runSt [] 0 es) S (.lst (es.map fun p => .p (enD p))) hm (by have := runSt_len es [] 0; simp at this; omega) hy
  refine ⟨r2, ch, h.app r21 r22 hch, ?_⟩
  have l1 : ms.length ≤ 16777216 := by omega
  have l3 : es.length < 16777216 := by omega
  have l4 : (runSt [] 0 es).length < 16777216 := by have := runSt_len es [] 0; simp at this; omega
  have g0 (a b c d e f : Vl) : atI [a, b, c, d, e, f] 2 = some c := by rw [atI_pos _ (by decide)]; rfl
  have g1 (a b c d e f : Vl) : atI [a, b, c, d, e, f] 3 = some d := by rw [atI_pos _ (by decide)]; rfl
  unfold drS at *
  rw [runSt_app]
  have z0 : ((0 + es.length : Nat) : Int) = k := by omega
  rw [z0]
  cases ch with
  | undo u =>
    have h5 := rem_two S (.lst ((es.map fun p => .p (enD p)) ++ [.p (enD (r2, .undo u))])) (runSt [] 0 es) u hch
    simp at e6 h5
    simp [-atI_ofNat, -atI_m1, M_any_entries_k32_b1, atI_c1, g0, g1, e1, e2, e3, e4, e6, b0, b1, ht, t1, hr2, l1, l3, l4, nst, h5]
  | grant a =>
    simp at e6
    simp [-atI_ofNat, -atI_m1, M_any_entries_k32_b1, atI_c1, g0, g1, e1, e2, e3, e4, e6, b0, b1, ht, t1, hr2, l1, l3, l4, nst]
  | back =>
    simp at e6
    simp [-atI_ofNat, -atI_m1, M_any_entries_k32_b1, atI_c1, g0, g1, e1, e2, e3, e4, e6, b0, b1, ht, t1, hr2, l1, l3, l4, nst]
  | _ =>
    simp at e6
    simp [-atI_ofNat, -atI_m1, M_any_entries_k32_b1, atI_c1, g0, g1, e1, e2, e3, e4, e6, b0, b1, ht, t1, hr2, l1, l3, l4, nst]
include hn hc hm hms in
theorem any_entries_k32 : ∃ es : List (Int × Ch), F_any_entries_k32 [.p (.list (ms.map .int)), .p (.list ((iR 0 61).map fun k => .int (beg n c k))), .p (.list (nm.map fun w => .str (T w)))] S = .ok (.p (.list (es.map enD))) S ∧ EOk nm n (beg n c 60 - 1) n [] 0 es ∧ es.length ≤ 40 := by
  have h60 := beg60 hn hc
  have b0 := atI_bg n c (j := 61) (k := 0) (by decide) (by decide)
  rw [beg_0 hn] at b0
  have b1 := atI_bgL n c
  obtain ⟨t, ht⟩ : ∃ t, beg n c 60 - n = t := ⟨_, rfl⟩
  obtain ⟨⟨r, es⟩, e3, i1, i2⟩ := loop_rngI (g := gNm 7) (b := M_any_entries_k32_b1) (j := ms.length) (fun a : Int × List (Int × Ch) => aEnv n c nm ms t a.1 S none)
    (fun a => drS S a.2) (fun k a => (a.2.length : Int) = k ∧ Drawn nm n (beg n c 60 - 1) a.2 a.1) _ 0 (n, []) rfl (by omega) ⟨rfl, Drawn.nil (by omega)⟩ fun k a h1 h2 h3 => by
      obtain ⟨r, es⟩ := a
      obtain ⟨g1, g2⟩ := h3
      simp only at g1 g2
      obtain ⟨r2, ch, p1, p2⟩ := any_entries_turn hn hc nm hm ms hms S t k r ht es g1.symm h2 g2
      exact ⟨(r2, es ++ [(r2, ch)]), ⟨_, rfl, p2⟩, by simp; omega, p1⟩
  simp only at i1 i2
  have bj := bdI (i := (ms.length : Int)) (by omega)
  refine ⟨es, ?_, i2.ok, by omega⟩
  simp [drS, runSt] at e3
  simp [-atI_ofNat, -atI_m1, F_any_entries_k32, M_any_entries_k32, initE, b0, b1, ht, e3, Function.comp_def, show ms.length ≤ 16777216 by omega]
end
/-- what the laws list -/
theorem listed_k32 {n : Int} {c : Cy} (hn : FirstOk n) (hc : c.Ok) (nm : List (List Nat)) (hm : 1 ≤ nm.length ∧ nm.length ≤ 8) (ms : List Int) (hms : ms.length ≤ 63) (z : Int) (S : Sto) : ∃ es : List (Int × Ch), F_listed_k32 [.p (.list (ms.map .int)), .p (.int z), .p (.list ((iR 0 61).map fun k => .int (beg n c k))), .p (.list (nm.map fun w => .str (T w)))] S = .ok (.p (.list (es.map enD))) S ∧ EOk nm n (beg n c 60 - 1) n [] 0 es ∧ es.length ≤ 40 := by
  by_cases h : z % 2 = 1
  · have hc2 : cutL ms none (some (z / 2 % 41)) = ms.take (z / 2 % 41).toNat := cutL_toI _ (by omega)
    have hl : (ms.take (z / 2 % 41).toNat).length ≤ 40 := by rw [List.length_take]; omega
    obtain ⟨es, e1, h1, h2⟩ := any_entries_k32 hn hc nm hm _ hl S
    generalize ms.take (z / 2 % 41).toNat = xs at *
    exact ⟨es, by simp [F_listed_k32, M_listed_k32, initE, h, hc2, e1, show xs.length ≤ 16777216 by omega], h1, h2⟩
  · obtain ⟨es, e1, h1, h2⟩ := entries_k32 hn hc nm hm ms hms (z / 2) S
    exact ⟨es, by simp [F_listed_k32, M_listed_k32, initE, h, e1], h1, h2⟩
end PV

/-! The terms that are known at a moment. -/
namespace PV
open PySem L2
/-- what is known behind one more entry, and behind all -/
def stp (L : List (Int × Ch)) (count : Nat) : Ch → List (Int × Ch)
  | .undo k => L.filter fun p => decide (p.1 ≠ k)
  | .grant _ => L
  | .back => L
  | ch => L ++ [((count : Int), ch)]
def trm (m : Int) : List (Int × Ch) → Nat → List (Int × Ch) → List (Int × Ch)
  | L, _, [] => L
  | L, c, p :: es => trm m (if p.1 ≤ m then stp L c p.2 else L) (c + 1) es
/-- a dict of them -/
def kvO (L : List (Int × Ch)) : List (Key × Vl) := L.map fun p => (.inl p.1, .p p.2.d)
theorem kvO_any (L : List (Int × Ch)) (k : Int) : ((kvO L).any fun kv => decide (kv.1 = (.inl k : Key))) = decide (k ∈ L.map (·.1)) := by
  unfold kvO
  rw [List.any_map, Bool.eq_iff_iff, List.any_eq_true, decide_eq_true_iff, List.mem_map]
  constructor
  · rintro ⟨p, h1, h2⟩
    exact ⟨p, h1, by simpa using h2⟩
  · rintro ⟨p, h1, h2⟩
    exact ⟨p, h1, by simpa using h2⟩
theorem putL_kvO (L : List (Int × Ch)) (k : Int) (ch : Ch) (h : k ∉ L.map (·.1)) : putL (kvO L) (.inl k) (.p ch.d) = kvO (L ++ [(k, ch)]) := by
  unfold putL
  rw [kvO_any, decide_eq_false h, if_neg (by simp)]
  simp [kvO]
theorem dropL_kvO (L : List (Int × Ch)) (k : Int) : dropL (kvO L) (.inl k) = kvO (L.filter fun p => decide (p.1 ≠ k)) := by
  unfold dropL kvO
  rw [List.filter_map]
  congr 1
  exact List.filter_congr fun p _ => by simp
theorem valL_mem {α : Type} (f : Int × Ch → α) : ∀ (L : List (Int × Ch)) (p : Int × Ch), (L.map (·.1)).Nodup → p ∈ L → valL (L.map fun p => ((.inl p.1 : Key), f p)) (.inl p.1) = some (f p)
  | q :: L, p, hd, hp => by
    rw [List.map_cons, List.nodup_cons] at hd
    rw [List.map_cons, valL_consI]
    rcases List.mem_cons.mp hp with rfl | hp
    · rw [if_pos rfl]
    · rw [if_neg fun h => hd.1 (by rw [h]; exact List.mem_map_of_mem hp)]
      exact valL_mem f L p hd.2 hp
theorem nst_nodup {st : List Int} {count : Nat} {ch : Ch} (hd : st.Nodup) (hb : ∀ k ∈ st, k < (count : Int)) : (nst st count ch).Nodup ∧ ∀ k ∈ nst st count ch, k < ((count + 1 : Nat) : Int) := by
  cases ch with
  | undo u => exact ⟨hd.erase u, fun j hj => by have := hb j (List.mem_of_mem_erase hj); omega⟩
  | grant => exact ⟨hd, fun j hj => by have := hb j hj; omega⟩
  | back => exact ⟨hd, fun j hj => by have := hb j hj; omega⟩
  | _ =>
    refine ⟨List.nodup_append.mpr ⟨hd, by simp, fun a ha b hb2 => by rw [List.mem_singleton.mp hb2]; have := hb a ha; omega⟩, fun j hj => ?_⟩
    rcases List.mem_append.mp hj with hj | hj
    · have := hb j hj; omega
    · rw [List.mem_singleton.mp hj]; omega
theorem stp_st {L : List (Int × Ch)} {st : List Int} {count : Nat} {ch : Ch} (hd : st.Nodup) (h : L.map (·.1) = st) : (stp L count ch).map (·.1) = nst st count ch := by
  subst h
  cases ch with
  | undo k =>
    show (L.filter fun p => decide (p.1 ≠ k)).map (·.1) = (L.map (·.1)).erase k
    rw [hd.erase_eq_filter, List.filter_map]
    congr 1
    exact List.filter_congr fun p _ => by by_cases h : p.1 = k <;> simp [h]
  | grant => rfl
  | back => rfl
  | _ => simp [stp, nst]
/-- what is known is a part of what stood -/
structure Kn (m r : Int) (st : List Int) (count : Nat) (L : List (Int × Ch)) : Prop where
  nd : st.Nodup
  lt : ∀ k ∈ st, k < (count : Int)
  nl : (L.map (·.1)).Nodup
  ll : ∀ k ∈ L.map (·.1), k < (count : Int)
  eq : r ≤ m → L.map (·.1) = st
theorem Kn.step {m r : Int} {st : List Int} {count : Nat} {L : List (Int × Ch)} (h : Kn m r st count L) {p : Int × Ch} (hr : r ≤ p.1) : Kn m p.1 (nst st count p.2) (count + 1) (if p.1 ≤ m then stp L count p.2 else L) := by
  have h1 := nst_nodup (ch := p.2) h.nd h.lt
  by_cases hm : p.1 ≤ m
  · rw [if_pos hm]
    have e := stp_st (count := count) (ch := p.2) h.nd (h.eq (by omega))
    exact ⟨h1.1, h1.2, by rw [e]; exact h1.1, by rw [e]; exact h1.2, fun _ => e⟩
  · rw [if_neg hm]
    exact ⟨h1.1, h1.2, h.nl, fun k hk => by have := h.ll k hk; omega, fun z => absurd z hm⟩
theorem stp_len (L : List (Int × Ch)) (count : Nat) (ch : Ch) : (stp L count ch).length ≤ L.length + 1 := by
  cases ch with
  | undo k => exact Nat.le_succ_of_le (List.length_filter_le _ _)
  | grant => exact Nat.le_succ _
  | back => exact Nat.le_succ _
  | _ => simp [stp]
theorem terms_turn (w : Option Vl) (m : Int) (S : Sto) {nm : List (List Nat)} {n last r : Int} {st : List Int} {count : Nat} {L : List (Int × Ch)} (e : Int) (ch : Ch) (h : Kn m r st count L) (hr : r ≤ e) (hc : ChOk nm n last st ch) (hl : L.length ≤ 1000) :
    M_terms_at_m_b1 [w, some (.p (.int m)), some (.r S.length), some (.p (.int (count : Nat))), some (.p (enD (e, ch))), none, none] (S ++ [.dK (kvO L)]) = .nx [w, some (.p (.int m)), some (.r S.length), none, none, none, none] (S ++ [.dK (kvO (if e ≤ m then stp L count ch else L))]) := by
  by_cases hm : e ≤ m
  · rw [if_pos hm]
    have hfr : (count : Int) ∉ L.map (·.1) := fun z => by have := h.ll _ z; omega
    have hp := putL_kvO L count ch hfr
    have hkl : (kvO L).length < 16777216 := by unfold kvO; rw [List.length_map]; omega
    cases ch with
    | undo k =>
      have hk : k ∈ L.map (·.1) := by rw [h.eq (by omega)]; exact hc
      obtain ⟨q, hq, hqk⟩ := List.mem_map.mp hk
      have hv := valL_mem (fun p => Vl.p p.2.d) L q h.nl hq
      rw [hqk] at hv
      have hd := dropL_kvO L k
      have hv : valL (kvO L) (.inl k) = some (.p q.2.d) := hv
      simp [M_terms_at_m_b1, hm, c_TERMS, atI_c1, -atI_ofNat, hv, hd, stp]
    | grant a => simp [M_terms_at_m_b1, hm, c_TERMS, stp]
    | back => simp [M_terms_at_m_b1, hm, c_TERMS, stp]
    | _ =>
      simp at hp
      simp [M_terms_at_m_b1, hm, c_TERMS, hp, hkl, stp]
  · rw [if_neg hm]
    simp [M_terms_at_m_b1, hm]
theorem terms_run (w : Option Vl) (m : Int) (S : Sto) {nm : List (List Nat)} {n last : Int} : ∀ (es : List (Int × Ch)) (r : Int) (st : List Int) (count : Nat) (L : List (Int × Ch)), EOk nm n last r st count es → Kn m r st count L → L.length + es.length ≤ 1000 →
    loopG (gTp [gNm 3, gNm 4]) M_terms_at_m_b1 (enumV count (es.map enD)) [w, some (.p (.int m)), some (.r S.length), none, none, none, none] (S ++ [.dK (kvO L)]) = .nx [w, some (.p (.int m)), some (.r S.length), none, none, none, none] (S ++ [.dK (kvO (trm m L count es))])
      ∧ ((trm m L count es).map (·.1)).Nodup ∧ (trm m L count es).length ≤ 1000
  | [], r, st, count, L, h, k, hl => ⟨by simp [enumV, trm], k.nl, by simpa [trm] using hl⟩
  | p :: es, r, st, count, L, h, k, hl => by
    have e1 := terms_turn w m S (n := n) (last := last) (nm := nm) p.1 p.2 k h.2.1 h.2.2.1 (by simp only [List.length_cons] at hl; omega)
    have hl2 : (if p.1 ≤ m then stp L count p.2 else L).length ≤ L.length + 1 := by
      split
      · exact stp_len L count p.2
      · omega
    have e2 := terms_run w m S es p.1 (nst st count p.2) (count + 1) _ h.2.2.2 (k.step (p := p) h.2.1) (by simp only [List.length_cons] at hl; omega)
    refine ⟨?_, e2.2⟩
    rw [show trm m L count (p :: es) = trm m (if p.1 ≤ m then stp L count p.2 else L) (count + 1) es from rfl, ← e2.1]
    simp [enumV, e1]
/-- a numbered change -/
def nuD (p : Int × Ch) : D := .tuple [.int p.1, p.2.d]
theorem terms_at_ok {nm : List (List Nat)} {n last : Int} {es : List (Int × Ch)} (he : EOk nm n last n [] 0 es) (hl : es.length ≤ 100) (m : Int) (S : Sto) :
    F_terms_at_m [.p (.list (es.map enD)), .p (.int m)] S = .ok (.r (S.length + 1)) (S ++ [.dead, .lst ((trm m [] 0 es).map fun p => .p (nuD p))]) := by
  have h := terms_run (some (.p (.list (es.map enD)))) m S es n [] 0 [] he ⟨by simp, by simp, by simp, by simp, fun _ => rfl⟩ (by simp; omega)
  obtain ⟨e1, e2, e3⟩ := h
  generalize trm m [] 0 es = K at *
  have e4 : pures ((kvO K).map (·.2)) = some (K.map (·.2.d)) := by
    unfold kvO
    rw [List.map_map]
    exact pures_comp _ _
  have e5 : ((kvO K).map (·.1)).zip (K.map (·.2.d)) = K.map fun p => ((.inl p.1 : Key), p.2.d) := by
    unfold kvO
    rw [List.map_map]
    exact List.zip_map'
  have e6 : frzV (.r S.length) (S ++ [.dK (kvO K)]) = .ok (.dc (K.map fun p => ((.inl p.1 : Key), p.2.d))) (S ++ [.dead]) := by
    have h1 : entL (S ++ [.dK (kvO K)]) S.length = none := by simp [entL]
    have h2 : entK (S ++ [.dK (kvO K)]) S.length = some (kvO K) := entK_app S _
    rw [frzV_r, h1]
    show frzD S.length (S ++ [.dK (kvO K)]) = _
    unfold frzD
    simp only [h2, e4, e5]
    simp
  simp [show kvO [] = [] from rfl] at e1
  have e8 := lcG_map (g := gNm 3) (a := mTup [mVar 3, m2 dIx (mVar 2) (mVar 3)]) (e := [none, none, some (.dc (K.map fun p => ((.inl p.1 : Key), p.2.d))), none, none, none, none]) (S := S ++ [.dead]) (fun p : Int × Ch => .p (.int p.1)) (fun p => .p (nuD p)) K fun p hp => by
    have hv := valL_mem (fun p => Vl.p p.2.d) K p e2 hp
    refine ⟨_, rfl, ?_⟩
    simp [List.map_map, Function.comp_def, hv, nuD]
  simp [F_terms_at_m, M_terms_at_m, initE, -frzV_r, e1, e6, e8, Function.comp_def, show K.length ≤ 16777216 by omega]
/-- the numbers undone by a moment; what one entry leaves; what all leave -/
def Ch.un0 : Ch → Int
  | .undo k => k
  | _ => 0
def Ch.isU0 : Ch → Bool
  | .undo _ => true
  | _ => false
def goneL (m : Int) (es : List (Int × Ch)) : List Int := (es.filter fun p => p.2.isU0 && decide (p.1 ≤ m)).map fun p => p.2.un0
def one (m : Int) (G : List Int) (c : Nat) (p : Int × Ch) : List (Int × Ch) := if p.1 ≤ m ∧ (c : Int) ∉ G ∧ p.2.isT = true then [((c : Int), p.2)] else []
def kn (m : Int) (G : List Int) : Nat → List (Int × Ch) → List (Int × Ch)
  | _, [] => []
  | c, p :: es => one m G c p ++ kn m G (c + 1) es
theorem kn_app (m : Int) (G : List Int) : ∀ (es : List (Int × Ch)) (c : Nat) (p : Int × Ch), kn m G c (es ++ [p]) = kn m G c es ++ one m G (c + es.length) p
  | [], c, p => by simp [kn]
  | q :: es, c, p => by
    simp only [List.cons_append, kn, List.append_assoc]
    rw [kn_app m G es, show c + 1 + es.length = c + (q :: es).length by simp only [List.length_cons]; omega]
theorem kn_low (m : Int) (G : List Int) (k : Int) : ∀ (es : List (Int × Ch)) (c : Nat), k < c → kn m (k :: G) c es = kn m G c es
  | [], _, _ => rfl
  | p :: es, c, h => by
    have hne : ¬ (c : Int) = k := by omega
    simp only [kn]
    rw [kn_low m G k es (c + 1) (by omega)]
    simp only [one, List.mem_cons, hne, false_or]
theorem kn_len (m : Int) (G : List Int) : ∀ (es : List (Int × Ch)) (c : Nat), (kn m G c es).length ≤ es.length
  | [], _ => Nat.le_refl _
  | p :: es, c => by
    have h := kn_len m G es (c + 1)
    simp only [kn, one, List.length_append, List.length_cons]
    split <;> simp <;> omega
theorem trm_term {m e : Int} {ch : Ch} (hm : e ≤ m) (ht : ch.isT = true) (L : List (Int × Ch)) (c : Nat) (es K : List (Int × Ch)) :
    (stp L c ch).filter (fun p => decide (p.1 ∉ goneL m es)) ++ K = (L.filter fun p => decide (p.1 ∉ goneL m ((e, ch) :: es))) ++ (one m (goneL m ((e, ch) :: es)) c (e, ch) ++ K) := by
  have h1 : goneL m ((e, ch) :: es) = goneL m es := by cases ch <;> simp [Ch.isT] at ht <;> simp [goneL, Ch.isU0]
  have h2 : stp L c ch = L ++ [((c : Int), ch)] := by cases ch <;> simp [Ch.isT] at ht <;> rfl
  rw [h1, h2, List.filter_append, List.append_assoc]
  congr 2
  by_cases h : (c : Int) ∈ goneL m es <;> simp [one, h, ht, hm]
theorem trm_kn (m : Int) {nm : List (List Nat)} {n last : Int} : ∀ (es : List (Int × Ch)) (r : Int) (st : List Int) (c : Nat) (L : List (Int × Ch)), EOk nm n last r st c es → Kn m r st c L →
    trm m L c es = (L.filter fun p => decide (p.1 ∉ goneL m es)) ++ kn m (goneL m es) c es
  | [], r, st, c, L, h, k => by
    simp [trm, kn, goneL]
    exact (List.filter_eq_self.mpr (by simp)).symm
  | p :: es, r, st, c, L, h, k => by
    have ih := trm_kn m es p.1 (nst st c p.2) (c + 1) _ h.2.2.2 (k.step (p := p) h.2.1)
    rw [show trm m L c (p :: es) = trm m (if p.1 ≤ m then stp L c p.2 else L) (c + 1) es from rfl, ih]
    obtain ⟨e, ch⟩ := p
    by_cases hm : e ≤ m
    · simp only [if_pos hm, kn]
      cases ch with
      | undo u =>
        have hu : u < c := k.lt u h.2.2.1
        have hg : goneL m ((e, Ch.undo u) :: es) = u :: goneL m es := by simp [goneL, Ch.isU0, Ch.un0, hm]
        rw [hg, kn_low m _ u es (c + 1) (by omega)]
        simp only [one, Ch.isT, Bool.false_eq_true, and_false, if_false, List.nil_append, stp, List.filter_filter]
        congr 1
        exact List.filter_congr fun q _ => by by_cases h1 : q.1 = u <;> by_cases h2 : q.1 ∈ goneL m es <;> simp [h1, h2]
      | grant a =>
        have hg : goneL m ((e, Ch.grant a) :: es) = goneL m es := by simp [goneL, Ch.isU0]
        rw [hg]
        simp [one, Ch.isT, stp]
      | back =>
        have hg : goneL m ((e, Ch.back) :: es) = goneL m es := by simp [goneL, Ch.isU0]
        rw [hg]
        simp [one, Ch.isT, stp]
      | _ => exact trm_term hm rfl L c es _
    · simp only [if_neg hm, kn]
      have hg : goneL m ((e, ch) :: es) = goneL m es := by simp [goneL, hm]
      rw [hg]
      simp [one, hm]
theorem known_turn (m : Int) (G : List Int) (es : List (Int × Ch)) (k : Int) (h : 0 ≤ k ∧ k < es.length) (hl : es.length ≤ 100) (hg : G.length ≤ 100) (S : Sto) :
    M_known_k34_b1 [some (.p (.list (es.map enD))), some (.p (.int m)), some (.p (.list (G.map .int))), some (.r S.length), some (.p (.int k)), none, none] (S ++ [.lst ((kn m G 0 (es.take k.toNat)).map fun p => .p (nuD p))])
      = .nx [some (.p (.list (es.map enD))), some (.p (.int m)), some (.p (.list (G.map .int))), some (.r S.length), none, none, none] (S ++ [.lst ((kn m G 0 (es.take (k + 1).toNat)).map fun p => .p (nuD p))]) := by
  have hk : k.toNat < es.length := by omega
  have e3 : atI (es.map fun p => Vl.p (enD p)) k = some (.p (enD es[k.toNat])) := by rw [atI_pos _ h.1, List.getElem?_map, List.getElem?_eq_getElem hk]; rfl
  have e4 : kn m G 0 (es.take (k + 1).toNat) = kn m G 0 (es.take k.toNat) ++ one m G k.toNat es[k.toNat] := by
    rw [show (k + 1).toNat = k.toNat + 1 by omega, List.take_add_one, List.getElem?_eq_getElem hk, Option.toList_some, kn_app, List.length_take, Nat.zero_add, Nat.min_eq_left (by omega)]
  have hl2 : (kn m G 0 (es.take k.toNat)).length ≤ 100 := by
    have := kn_len m G (es.take k.toNat) 0
    rw [List.length_take] at this
    omega
  have e5 : ∀ S, inV true (.p (.int k)) (.p (.list (G.map .int))) S = .ok (.p (.bool (!decide (k ∈ G)))) S := fun S => by
    rw [inV_list true _ _ S (by simp) (by simp)]
    simp
  rw [e4]
  have hc : ((k.toNat : Nat) : Int) = k := Int.toNat_of_nonneg h.1
  generalize kn m G 0 (es.take k.toNat) = K at *
  generalize es[k.toNat] = p at *
  have l1 : K.length < 16777216 := by omega
  have l2 : es.length ≤ 16777216 := by omega
  obtain ⟨e, ch⟩ := p
  by_cases hm : e ≤ m
  · by_cases hG : k ∈ G
    · have h1 : one m G k.toNat (e, ch) = [] := by simp [one, hc, hG]
      rw [h1]
      rw [decide_eq_true hG] at e5
      simp [-atI_ofNat, M_known_k34_b1, e3, e5, hm, l1, l2, Function.comp_def]
    · rw [decide_eq_false hG] at e5
      by_cases ht : ch.isT = true
      · have h1 : one m G k.toNat (e, ch) = [(k, ch)] := by simp [one, hc, hG, ht, hm]
        rw [h1]
        cases ch with
        | undo u => cases ht
        | grant a => cases ht
        | back => cases ht
        | _ => simp [-atI_ofNat, M_known_k34_b1, e3, e5, hm, l1, l2, Function.comp_def, nuD]
      · have h1 : one m G k.toNat (e, ch) = [] := by simp [one, ht]
        rw [h1]
        cases ch with
        | undo u => simp [-atI_ofNat, M_known_k34_b1, e3, e5, hm, l1, l2, Function.comp_def]
        | grant a => simp [-atI_ofNat, M_known_k34_b1, e3, e5, hm, l1, l2, Function.comp_def]
        | back => simp [-atI_ofNat, M_known_k34_b1, e3, e5, hm, l1, l2, Function.comp_def]
        | _ => exact absurd rfl ht
  · have h1 : one m G k.toNat (e, ch) = [] := by simp [one, hm]
    rw [h1]
    simp [-atI_ofNat, M_known_k34_b1, e3, hm, l1, l2, Function.comp_def]
theorem known_k34 {nm : List (List Nat)} {n last : Int} {es : List (Int × Ch)} (he : EOk nm n last n [] 0 es) (hl : es.length ≤ 100) (m : Int) (S : Sto) : F_known_k34 [.p (.list (es.map enD)), .p (.int m)] S = .ok (.p (.list ((trm m [] 0 es).map nuD))) S := by
  have h0 := trm_kn m es n [] 0 [] he ⟨by simp, by simp, by simp, by simp, fun _ => rfl⟩
  simp only [List.filter_nil, List.nil_append] at h0
  rw [h0]
  have e1 := lcG_filter (g := gTp [gNm 5, gNm 6]) (c := mAnd (m2 eqV (m2 ixV (mVar 6) (mC (.int 0))) (mC (.str "undo"))) (m2 leV (mVar 5) (mVar 1))) (a := m2 ixV (mVar 6) (mC (.int 1))) (e := [some (.p (.list (es.map enD))), some (.p (.int m)), none, none, none, none, none]) (S := S) (fun p : Int × Ch => .p (enD p)) (fun p => .p (.int p.2.un0)) (fun p => p.2.isU0 && decide (p.1 ≤ m)) es fun p hp => by
    obtain ⟨e, ch⟩ := p
    refine ⟨[some (.p (.list (es.map enD))), some (.p (.int m)), none, none, none, some (.p (.int e)), some (.p ch.d)], rfl, ?_, ?_⟩
    · cases ch <;> simp [Ch.isU0]
    · intro h
      cases ch <;> simp [Ch.isU0] at h
      simp [Ch.un0, atI_c1, -atI_ofNat]
  have hg : (goneL m es).length ≤ 100 := by
    unfold goneL
    rw [List.length_map]
    exact Nat.le_trans (List.length_filter_le _ _) hl
  have hG : ((es.filter fun p => p.2.isU0 && decide (p.1 ≤ m)).map fun p => PyData.int p.2.un0) = (goneL m es).map .int := by unfold goneL; rw [List.map_map]; rfl
  have hG2 : (es.filter fun p => p.2.isU0 && decide (p.1 ≤ m)).length ≤ 16777216 := Nat.le_trans (List.length_filter_le _ _) (by omega)
  generalize goneL m es = G at *
  have hlp := loop_rng (g := gNm 4) (b := M_known_k34_b1) (i := 0) (j := es.length) (fun _ => [some (.p (.list (es.map enD))), some (.p (.int m)), some (.p (.list (G.map .int))), some (.r S.length), none, none, none]) (fun k : Int => (S ++ [Ent.lst ((kn m G 0 (es.take k.toNat)).map fun p => Vl.p (nuD p))] : Sto)) (by omega) fun k h1 h2 => ⟨_, rfl, known_turn m G es k ⟨h1, h2⟩ hl hg S⟩
  simp [kn] at hlp
  have bl := bdI (i := (es.length : Int)) (by omega)
  simp [F_known_k34, M_known_k34, initE, e1, hG, hG2, hlp, Function.comp_def, show es.length ≤ 16777216 by omega]
theorem zipV_self {α : Type} (f : α → D) : ∀ K : List α, zipV (K.map f) (K.map f) = K.map fun p => .p (.tuple [f p, f p])
  | [] => rfl
  | p :: K => by simp [zipV, zipV_self f K]
theorem tyN_lst {S : Sto} {j : Nat} {vs : List Vl} (h : entL S j = some vs) : tyN S (.r j) = some "list" := by
  show (match S[j]? with
    | some (.lst _) => some "list"
    | some (.dK _) => some "dict"
    | some (.dT _) => some "dict"
    | _ => none) = _
  unfold entL at h
  split at h
  · rename_i e; rw [e]
  · cases h
theorem right_k34 (K : List (Int × Ch)) (hl : K.length ≤ 1000) (j : Nat) (S : Sto) (h : entL S j = some (K.map fun p => .p (nuD p))) : F_right_k34 [.r j, .p (.list (K.map nuD))] S = .ok (.p (.bool true)) S := by
  have e1 := len_r h
  rw [List.length_map] at e1
  have e2 := loopP_const (gd := [(j, K.map fun p => Vl.p (nuD p))]) (g := gTp [gNm 2, gNm 3]) (b := M_right_k34_b1) (fun p : Int × Ch => .p (.tuple [nuD p, nuD p])) (e := [some (.r j), some (.p (.list (K.map nuD))), none, none]) (S := S) K (by rw [gOk_one]; exact h) fun p _ => by
    refine ⟨[some (.r j), some (.p (.list (K.map nuD))), some (.p (nuD p)), some (.p (nuD p))], rfl, ?_⟩
    have q : neV (.p (nuD p)) (.p (nuD p)) S = .ok (.p (.bool false)) S := by
      have hp : pln 9 (nuD p) = true := by
        obtain ⟨k, ch⟩ := p
        cases ch <;> simp [nuD]
      rw [neV_pln S hp hp]
      simp
    have w := whole_k10 p.1 S
    have hq : nuD p = .tuple [.int p.1, p.2.d] := rfl
    rw [hq] at q ⊢
    simp [M_right_k34_b1, q, w]
  have e3 := zipV_self nuD K
  have et := tyN_lst h
  have e4 : pures (K.map fun p => Vl.p (nuD p)) = some (K.map nuD) := pures_map' _ _
  simp [F_right_k34, M_right_k34, initE, e1, e2, e3, e4, et, h, Function.comp_def]
end PV

/-! The state of a day. -/
namespace PV
open PySem L2
/-- a counted term -/
structure Rw where
  f : Int
  d : Int
  k : Int
  ch : Ch
def Rw.dd (r : Rw) : D := .tuple [.int r.f, .int r.d, .int r.k, r.ch.d]
def Rw.rk (r : Rw) : List Int := [r.f, r.d, r.k]
/-- the sort of a term -/
def Ch.srt : Ch → Nat
  | .plan _ _ => 0
  | .seats _ _ => 1
  | .hold _ => 2
  | .go _ => 2
  | .stop _ => 2
  | .last _ => 2
  | _ => 3
def better (o : Option Rw) (r : Rw) : Bool := match o with
  | none => true
  | some a => HT.lexLt a.rk r.rk
def upd (t : Nat) (day : Int) (o : Option Rw) (r : Rw) : Option Rw :=
  if r.ch.srt = t ∧ r.f ≤ day ∧ better o r = true then some r else o
/-- the latest term of a sort that counts on a day -/
def bst (t : Nat) (day : Int) (rows : List Rw) : Option Rw := rows.foldl (upd t day) none
def wordsD (t : Nat) : D := match t with
  | 0 => .tuple [.str "plan"]
  | 1 => .tuple [.str "seats"]
  | _ => c_WORDS
def oRw (o : Option Rw) : D := match o with
  | none => .none
  | some r => r.dd
@[simp] theorem oRw_none : oRw none = .none := rfl
@[simp] theorem oRw_some (r : Rw) : oRw (some r) = r.dd := rfl
@[simp] theorem dd_mk (f d k : Int) (ch : Ch) : Rw.dd ⟨f, d, k, ch⟩ = .tuple [.int f, .int d, .int k, ch.d] := rfl
@[simp] theorem ltV_rk (a b c x y z : Int) (S : Sto) : ltV (.p (.tuple [.int a, .int b, .int c])) (.p (.tuple [.int x, .int y, .int z])) S = .ok (.p (.bool (HT.lexLt [a, b, c] [x, y, z]))) S := id rfl
theorem atI_c2 {α : Type} (x y z : α) (xs : List α) : atI (x :: y :: z :: xs) 2 = some z := by rw [atI_pos _ (by decide)]; rfl
theorem atI_c3 {α : Type} (x y z u : α) (xs : List α) : atI (x :: y :: z :: u :: xs) 3 = some u := by rw [atI_pos _ (by decide)]; rfl
theorem slV_3 (a b c x : D) (S : Sto) : slV (.p (.tuple [a, b, c, x])) none (some 3) S = .ok (.p (.tuple [a, b, c])) S := id rfl
theorem latest_turn (t : Nat) (ht : t < 3) (day : Int) (w : Option Vl) (o : Option Rw) (r : Rw) (S : Sto) (hr : r.ch.isT = true) :
    M_latest_b1 [w, some (.p (wordsD t)), some (.p (.int day)), some (.p (oRw o)), some (.p r.dd)] S = .nx [w, some (.p (wordsD t)), some (.p (.int day)), some (.p (oRw (upd t day o r))), none] S := by
  obtain ⟨f, d, k, ch⟩ := r
  have h3 : t = 0 ∨ t = 1 ∨ t = 2 := by omega
  cases o with
  | none =>
    by_cases hf : f ≤ day
    · rcases h3 with rfl | rfl | rfl <;> cases ch <;> simp [Ch.isT] at hr <;> simp [-atI_ofNat, atI_c1, atI_c2, atI_c3, M_latest_b1, wordsD, c_WORDS, upd, better, Ch.srt, hf]
    · rcases h3 with rfl | rfl | rfl <;> cases ch <;> simp [Ch.isT] at hr <;> simp [-atI_ofNat, atI_c1, atI_c2, atI_c3, M_latest_b1, wordsD, c_WORDS, upd, better, Ch.srt, hf]
  | some a =>
    obtain ⟨f2, d2, k2, ch2⟩ := a
    by_cases hf : f ≤ day
    · cases hx : HT.lexLt [f2, d2, k2] [f, d, k] <;> rcases h3 with rfl | rfl | rfl <;> cases ch <;> simp [Ch.isT] at hr <;> simp [-atI_ofNat, atI_c1, atI_c2, atI_c3, M_latest_b1, wordsD, c_WORDS, upd, better, Ch.srt, hf, Rw.rk, hx, slV_3]
    · rcases h3 with rfl | rfl | rfl <;> cases ch <;> simp [Ch.isT] at hr <;> simp [-atI_ofNat, atI_c1, atI_c2, atI_c3, M_latest_b1, wordsD, c_WORDS, upd, better, Ch.srt, hf]
theorem latest_ok (t : Nat) (ht : t < 3) (day : Int) (rows : List Rw) (hr : ∀ r ∈ rows, r.ch.isT = true) (S : Sto) :
    F_latest [.p (.list (rows.map Rw.dd)), .p (wordsD t), .p (.int day)] S = .ok (.p (match bst t day rows with | none => .none | some r => r.ch.d)) S := by
  have h := (loop_fold (g := gNm 4) (b := M_latest_b1) (fun r : Rw => .p r.dd) (fun o : Option Rw => [some (.p (.list (rows.map Rw.dd))), some (.p (wordsD t)), some (.p (.int day)), some (.p (oRw o)), none]) (fun _ => S) (fun _ => True) (upd t day) rows none trivial fun o r _ hm =>
    ⟨⟨_, rfl, latest_turn t ht day _ o r S (hr r hm)⟩, trivial⟩).1
  rw [show rows.foldl (upd t day) none = bst t day rows from rfl] at h
  cases hb : bst t day rows with
  | none =>
    rw [hb] at h
    simp at h
    simp [F_latest, M_latest, initE, h, Function.comp_def]
  | some r =>
    rw [hb] at h
    obtain ⟨f, d, k, ch⟩ := r
    simp at h
    simp [-atI_ofNat, atI_c3, F_latest, M_latest, initE, h, Function.comp_def]
theorem upd_or (t : Nat) (day : Int) (o : Option Rw) (r : Rw) : upd t day o r = o ∨ (upd t day o r = some r ∧ r.ch.srt = t) := by
  unfold upd
  split
  · rename_i h
    exact .inr ⟨rfl, h.1⟩
  · exact .inl rfl
theorem bst_srt {t : Nat} {day : Int} {rows : List Rw} {r : Rw} (h : bst t day rows = some r) : r ∈ rows ∧ r.ch.srt = t := by
  have key : ∀ (xs : List Rw) (o : Option Rw), (∀ r, o = some r → r ∈ rows ∧ r.ch.srt = t) → (∀ r ∈ xs, r ∈ rows) → ∀ r, xs.foldl (upd t day) o = some r → r ∈ rows ∧ r.ch.srt = t := by
    intro xs
    induction xs with
    | nil => exact fun o h _ => h
    | cons x xs ih =>
      intro o ho hm r hr
      refine ih (upd t day o x) (fun r2 h2 => ?_) (fun y hy => hm y (List.mem_cons_of_mem _ hy)) r hr
      rcases upd_or t day o x with e | ⟨e, hs⟩
      · rw [e] at h2
        exact ho r2 h2
      · rw [e] at h2
        injection h2 with h2
        subst h2
        exact ⟨hm _ List.mem_cons_self, hs⟩
  exact key rows none (fun _ h => by cases h) (fun _ h => h) r h
@[simp] theorem tupOf_list (ds : List D) (S : Sto) : tupOf (.p (.list ds)) S = if ds.length ≤ sizeLine then .ok (.p (.tuple ds)) S else .bad := by
  unfold tupOf
  rw [asL_list]
  simp
@[simp] theorem setV_r (k : Nat) (j : Int) (v : Vl) (S : Sto) : setV (.r k) (.p (.int j)) v S = (match entL S k with
    | some xs => (match setIx xs j v with
      | some ys => .ok (.p .none) (S.set k (.lst ys))
      | none => .bad)
    | none => .bad) := id rfl
theorem setIx3_0 (a b c v : Vl) : setIx [a, b, c] 0 v = some [v, b, c] := id rfl
theorem setIx3_1 (a b c v : Vl) : setIx [a, b, c] 1 v = some [a, v, c] := id rfl
theorem setIx3_2 (a b c v : Vl) : setIx [a, b, c] 2 v = some [a, b, v] := id rfl
/-- the parts of a state -/
def nmD : Option Rw → D
  | some ⟨_, _, _, .plan _ w⟩ => .str (T w)
  | _ => .none
def ctD : Option Rw → D
  | some ⟨_, _, _, .seats _ k⟩ => .int k
  | _ => .int 1
def wdD : Option Rw → D
  | some ⟨_, _, _, .hold _⟩ => .str "held"
  | some ⟨_, _, _, .go _⟩ => .str "on"
  | some ⟨_, _, _, .stop _⟩ => .str "off"
  | some ⟨_, _, _, .last _⟩ => .str "off"
  | _ => .str "on"
def stD (day : Int) (rows : List Rw) : D := .tuple [nmD (bst 0 day rows), ctD (bst 1 day rows), wdD (bst 2 day rows)]
theorem state_by_ok (day : Int) (rows : List Rw) (hr : ∀ r ∈ rows, r.ch.isT = true) (S : Sto) : F_state_by [.p (.list (rows.map Rw.dd)), .p (.int day)] S = .ok (.p (stD day rows)) S := by
  have e0 := fun S => latest_ok 0 (by decide) day rows hr S
  have e1 := fun S => latest_ok 1 (by decide) day rows hr S
  have e2 := fun S => latest_ok 2 (by decide) day rows hr S
  have s0 := fun r => bst_srt (t := 0) (day := day) (rows := rows) (r := r)
  have s1 := fun r => bst_srt (t := 1) (day := day) (rows := rows) (r := r)
  have s2 := fun r => bst_srt (t := 2) (day := day) (rows := rows) (r := r)
  unfold stD
  generalize bst 0 day rows = o0 at *
  generalize bst 1 day rows = o1 at *
  generalize bst 2 day rows = o2 at *
  have h0 : o0 = none ∨ ∃ f d k x w, o0 = some ⟨f, d, k, .plan x w⟩ := by
    cases o0 with
    | none => exact .inl rfl
    | some r =>
      have := (s0 r rfl).2
      obtain ⟨f, d, k, ch⟩ := r
      cases ch <;> simp [Ch.srt] at this
      exact .inr ⟨f, d, k, _, _, rfl⟩
  have h1 : o1 = none ∨ ∃ f d k x w, o1 = some ⟨f, d, k, .seats x w⟩ := by
    cases o1 with
    | none => exact .inl rfl
    | some r =>
      have := (s1 r rfl).2
      obtain ⟨f, d, k, ch⟩ := r
      cases ch <;> simp [Ch.srt] at this
      exact .inr ⟨f, d, k, _, _, rfl⟩
  have h2 : o2 = none ∨ ∃ f d k x, o2 = some ⟨f, d, k, .hold x⟩ ∨ o2 = some ⟨f, d, k, .go x⟩ ∨ o2 = some ⟨f, d, k, .stop x⟩ ∨ o2 = some ⟨f, d, k, .last x⟩ := by
    cases o2 with
    | none => exact .inl rfl
    | some r =>
      have := (s2 r rfl).2
      obtain ⟨f, d, k, ch⟩ := r
      cases ch <;> simp [Ch.srt] at this
      · exact .inr ⟨f, d, k, _, .inl rfl⟩
      · exact .inr ⟨f, d, k, _, .inr (.inl rfl)⟩
      · exact .inr ⟨f, d, k, _, .inr (.inr (.inl rfl))⟩
      · exact .inr ⟨f, d, k, _, .inr (.inr (.inr rfl))⟩
  have w0 : wordsD 0 = .tuple [.str "plan"] := rfl
  have w1 : wordsD 1 = .tuple [.str "seats"] := rfl
  have w2 : wordsD 2 = c_WORDS := rfl
  rw [w0] at e0
  rw [w1] at e1
  rw [w2] at e2
  rcases h0 with rfl | ⟨f0, d0, k0, x0, n0, rfl⟩ <;> rcases h1 with rfl | ⟨f1, d1, k1, x1, n1, rfl⟩ <;> rcases h2 with rfl | ⟨f2, d2, k2, x2, rfl | rfl | rfl | rfl⟩ <;>
    (simp at e0 e1 e2; simp [-atI_ofNat, atI_c1, atI_c2, setIx3_0, setIx3_1, setIx3_2, F_state_by, M_state_by, initE, e0, e1, e2, nmD, ctD, wdD])
/-- a term, counted -/
noncomputable def toR (n : Int) (c : Cy) (p : Int × Ch) : Rw := ⟨cf n c p.2, p.2.day, p.1, p.2⟩
theorem counted_ok {ps : List Pl} {n : Int} {c : Cy} (hn : FirstOk n) (hc : c.Ok) (K : List (Int × Ch)) (hK : ∀ p ∈ K, TermOk n c p.2) (hl : K.length ≤ 1000) (S : Sto) : F_counted [.p (acctD ps n c), .p (.list (K.map nuD))] S = .ok (.p (.list ((K.map (toR n c)).map Rw.dd))) S := by
  have e1 := lcG_map (g := gTp [gNm 2, gNm 3]) (a := mTup [mCall F_counts_from [mVar 0, mVar 3], m2 ixV (mVar 3) (mC (.int 1)), mVar 2, mVar 3]) (e := [some (.p (acctD ps n c)), some (.p (.list (K.map nuD))), none, none]) (S := S) (fun p : Int × Ch => .p (nuD p)) (fun p => .p (toR n c p).dd) K fun p hp => by
    have e2 := counts_from_ok (ps := ps) S hn hc (hK p hp)
    have h2 := (hK p hp).1
    obtain ⟨k, ch⟩ := p
    refine ⟨[some (.p (acctD ps n c)), some (.p (.list (K.map nuD))), some (.p (.int k)), some (.p ch.d)], rfl, ?_⟩
    cases ch <;> simp [Ch.isT] at h2 <;> simp at e2 <;> simp [-atI_ofNat, atI_c1, e2, toR, Ch.day]
  simp [F_counted, M_counted, initE, e1, Function.comp_def, show K.length ≤ 16777216 by omega]
theorem state_on_ok {ps : List Pl} {n : Int} {c : Cy} (hn : FirstOk n) (hc : c.Ok) (K : List (Int × Ch)) (hK : ∀ p ∈ K, TermOk n c p.2) (hl : K.length ≤ 1000) (day : Int) (hd : InAcct n c day) (S : Sto) :
    F_state_on [.p (acctD ps n c), .p (.list (K.map nuD)), .p (.int day)] S = .ok (.p (stD day (K.map (toR n c)))) S := by
  have e1 := fun S => span_on_D (d := day) S hn hc hd
  have e2 := counted_ok (ps := ps) hn hc K hK hl S
  have e3 := state_by_ok day (K.map (toR n c)) (fun r hr => by obtain ⟨p, hp, rfl⟩ := List.mem_map.mp hr; exact (hK p hp).1) S
  unfold acctD at *
  simp at e2 e3
  simp [-atI_ofNat, atI_c1, atI_c2, F_state_on, M_state_on, initE, e1, e2, e3]
end PV

/-! The state of a day as the laws find it; entries with two more. -/
namespace PV
open PySem L2
theorem counts_k41 {n : Int} {c : Cy} (hn : FirstOk n) (hc : c.Ok) {ch : Ch} (h : TermOk n c ch) (S : Sto) : F_counts_k41 [.p ch.d, .p (.list ((iR 0 61).map fun k => .int (beg n c k)))] S = .ok (.p (.int (cf n c ch))) S := by
  cases ch with
  | undo k => cases h.1
  | grant k => cases h.1
  | back => cases h.1
  | last d =>
    have e6 := lcG_filter (g := gNm 2) (c := m2 gtV (mVar 2) (m2 ixV (mVar 0) (mC (.int 1)))) (a := mVar 2) (e := [some (.p (.tuple [.str "last", .int d])), some (.p (.list ((iR 0 61).map fun k => .int (beg n c k)))), none]) (S := S) (fun k => .p (.int (beg n c k))) (fun k => .p (.int (beg n c k))) (fun k => decide (d < beg n c k)) (iR 0 61) fun k _ => ⟨_, rfl, by simp [-atI_ofNat, atI_c1], fun _ => by simp⟩
    have e7 := next_min (d := d) S hn hc h.2
    rw [List.filter_map, List.map_map] at e7
    have e8 : (((iR 0 61).filter fun k => decide (d < beg n c k)).map fun k => PyData.int (beg n c k)).length ≤ 16777216 := by
      rw [List.length_map]
      exact Nat.le_trans (List.length_filter_le _ _) (by rw [len_iR]; decide)
    simp only [Function.comp_def, List.length_map] at e7 e8
    simp [F_counts_k41, M_counts_k41, initE, e6, e7, e8, cf, Function.comp_def]
  | _ => simp [-atI_ofNat, atI_c1, F_counts_k41, M_counts_k41, initE, cf, Ch.day]
/-- what is found so far: the three sorts' latest -/
def pairD (o : Option Rw) (v : D) : D := .tuple [match o with
  | none => .none
  | some r => .tuple [.int r.f, .int r.d, .int r.k], v]
theorem pairD_none (v : D) : pairD none v = .tuple [.none, v] := rfl
theorem pairD_some (r : Rw) (v : D) : pairD (some r) v = .tuple [.tuple [.int r.f, .int r.d, .int r.k], v] := rfl
theorem nm_none : nmD none = .none := rfl
theorem nm_plan (f d k x : Int) (w : List Nat) : nmD (some ⟨f, d, k, .plan x w⟩) = .str (T w) := rfl
theorem ct_none : ctD none = .int 1 := rfl
theorem ct_seats (f d k x y : Int) : ctD (some ⟨f, d, k, .seats x y⟩) = .int y := rfl
theorem wd_none : wdD none = .str "on" := rfl
theorem wd_hold (f d k x : Int) : wdD (some ⟨f, d, k, .hold x⟩) = .str "held" := rfl
theorem wd_go (f d k x : Int) : wdD (some ⟨f, d, k, .go x⟩) = .str "on" := rfl
theorem wd_stop (f d k x : Int) : wdD (some ⟨f, d, k, .stop x⟩) = .str "off" := rfl
theorem wd_last (f d k x : Int) : wdD (some ⟨f, d, k, .last x⟩) = .str "off" := rfl
def kv3 (a : Option Rw × Option Rw × Option Rw) : List (Key × Vl) := [(.inr "plan", .p (pairD a.1 (nmD a.1))), (.inr "seats", .p (pairD a.2.1 (ctD a.2.1))), (.inr "word", .p (pairD a.2.2 (wdD a.2.2)))]
def up3 (day : Int) (a : Option Rw × Option Rw × Option Rw) (r : Rw) : Option Rw × Option Rw × Option Rw := (upd 0 day a.1 r, upd 1 day a.2.1 r, upd 2 day a.2.2 r)
theorem up3_fold (day : Int) : ∀ (rows : List Rw) (a : Option Rw × Option Rw × Option Rw), rows.foldl (up3 day) a = (rows.foldl (upd 0 day) a.1, rows.foldl (upd 1 day) a.2.1, rows.foldl (upd 2 day) a.2.2)
  | [], _ => rfl
  | r :: rows, a => by
    simp only [List.foldl_cons]
    rw [up3_fold day rows (up3 day a r)]
    rfl
theorem putL_0 (x y z v : Vl) : putL [((.inr "plan" : Key), x), (.inr "seats", y), (.inr "word", z)] (.inr "plan") v = [(.inr "plan", v), (.inr "seats", y), (.inr "word", z)] := by simp [putL]
theorem putL_1 (x y z v : Vl) : putL [((.inr "plan" : Key), x), (.inr "seats", y), (.inr "word", z)] (.inr "seats") v = [(.inr "plan", x), (.inr "seats", v), (.inr "word", z)] := by simp [putL]
theorem putL_2 (x y z v : Vl) : putL [((.inr "plan" : Key), x), (.inr "seats", y), (.inr "word", z)] (.inr "word") v = [(.inr "plan", x), (.inr "seats", y), (.inr "word", v)] := by simp [putL]
theorem word_hold (e : Env) (S : Sto) (h : e[7]? = some (some (.p (.str "hold")))) : mTmp (m2 dIx (mDisp [.inr "hold", .inr "go", .inr "stop", .inr "last"] [mC (.str "held"), mC (.str "on"), mC (.str "off"), mC (.str "off")]) (mVar 7)) e S = .ok (.p (.str "held")) S := by simp [h]
theorem word_go (e : Env) (S : Sto) (h : e[7]? = some (some (.p (.str "go")))) : mTmp (m2 dIx (mDisp [.inr "hold", .inr "go", .inr "stop", .inr "last"] [mC (.str "held"), mC (.str "on"), mC (.str "off"), mC (.str "off")]) (mVar 7)) e S = .ok (.p (.str "on")) S := by simp [h]
theorem word_stop (e : Env) (S : Sto) (h : e[7]? = some (some (.p (.str "stop")))) : mTmp (m2 dIx (mDisp [.inr "hold", .inr "go", .inr "stop", .inr "last"] [mC (.str "held"), mC (.str "on"), mC (.str "off"), mC (.str "off")]) (mVar 7)) e S = .ok (.p (.str "off")) S := by simp [h]
theorem word_last (e : Env) (S : Sto) (h : e[7]? = some (some (.p (.str "last")))) : mTmp (m2 dIx (mDisp [.inr "hold", .inr "go", .inr "stop", .inr "last"] [mC (.str "held"), mC (.str "on"), mC (.str "off"), mC (.str "off")]) (mVar 7)) e S = .ok (.p (.str "off")) S := by simp [h]
theorem state_turn {n : Int} {c : Cy} (hn : FirstOk n) (hc : c.Ok) (w : Option Vl) (day : Int) (S : Sto) (a : Option Rw × Option Rw × Option Rw) (p : Int × Ch) (hp : TermOk n c p.2) :
    M_state_k41_b1 [w, some (.p (.list ((iR 0 61).map fun k => .int (beg n c k)))), some (.p (.int day)), some (.r S.length), some (.p (.int p.1)), some (.p p.2.d), none, none, none] (S ++ [.dK (kv3 a)])
      = .nx [w, some (.p (.list ((iR 0 61).map fun k => .int (beg n c k)))), some (.p (.int day)), some (.r S.length), none, none, none, none, none] (S ++ [.dK (kv3 (up3 day a (toR n c p)))]) := by
  have e1 := fun S => counts_k41 hn hc hp S
  have h1 := hp.1
  obtain ⟨k, ch⟩ := p
  obtain ⟨o0, o1, o2⟩ := a
  simp only at h1 e1
  have hs : toR n c (k, ch) = ⟨cf n c ch, ch.day, k, ch⟩ := rfl
  rw [hs]
  generalize cf n c ch = f at *
  unfold kv3 at *
  by_cases hf : f ≤ day
  · cases ch with
    | undo u => cases h1
    | grant u => cases h1
    | back => cases h1
    | plan d nm =>
      simp at e1
      cases o0 with
      | none => simp [-atI_ofNat, atI_c1, -mTmp_ap, word_hold, word_go, word_stop, word_last, M_state_k41_b1, e1, pairD_none, pairD_some, up3, upd, better, Ch.srt, Ch.day, hf, nm_none, nm_plan, putL_0, Rw.rk]
      | some r =>
        cases hx : HT.lexLt [r.f, r.d, r.k] [f, d, k] <;> simp [-atI_ofNat, atI_c1, -mTmp_ap, word_hold, word_go, word_stop, word_last, M_state_k41_b1, e1, pairD_none, pairD_some, up3, upd, better, Ch.srt, Ch.day, hf, nm_none, nm_plan, putL_0, Rw.rk, hx]
    | seats d nm =>
      simp at e1
      cases o1 with
      | none => simp [-atI_ofNat, atI_c1, -mTmp_ap, word_hold, word_go, word_stop, word_last, M_state_k41_b1, e1, pairD_none, pairD_some, up3, upd, better, Ch.srt, Ch.day, hf, ct_none, ct_seats, putL_1, Rw.rk]
      | some r =>
        cases hx : HT.lexLt [r.f, r.d, r.k] [f, d, k] <;> simp [-atI_ofNat, atI_c1, -mTmp_ap, word_hold, word_go, word_stop, word_last, M_state_k41_b1, e1, pairD_none, pairD_some, up3, upd, better, Ch.srt, Ch.day, hf, ct_none, ct_seats, putL_1, Rw.rk, hx]
    | _ d =>
      simp at e1
      cases o2 with
      | none => simp [-atI_ofNat, atI_c1, -mTmp_ap, word_hold, word_go, word_stop, word_last, M_state_k41_b1, e1, pairD_none, pairD_some, up3, upd, better, Ch.srt, Ch.day, hf, wd_none, wd_hold, wd_go, wd_stop, wd_last, putL_2, Rw.rk]
      | some r =>
        cases hx : HT.lexLt [r.f, r.d, r.k] [f, d, k] <;> simp [-atI_ofNat, atI_c1, -mTmp_ap, word_hold, word_go, word_stop, word_last, M_state_k41_b1, e1, pairD_none, pairD_some, up3, upd, better, Ch.srt, Ch.day, hf, wd_none, wd_hold, wd_go, wd_stop, wd_last, putL_2, Rw.rk, hx]
  · cases ch with
    | undo u => cases h1
    | grant u => cases h1
    | back => cases h1
    | _ =>
      simp at e1
      simp [-atI_ofNat, atI_c1, -mTmp_ap, word_hold, word_go, word_stop, word_last, M_state_k41_b1, e1, up3, upd, better, Ch.srt, Ch.day, hf]
theorem frz_kv3 (S : Sto) (a : Option Rw × Option Rw × Option Rw) : frzV (.r S.length) (S ++ [.dK (kv3 a)]) = .ok (.dc [(.inr "plan", pairD a.1 (nmD a.1)), (.inr "seats", pairD a.2.1 (ctD a.2.1)), (.inr "word", pairD a.2.2 (wdD a.2.2))]) (S ++ [.dead]) := by
  have h1 : entL (S ++ [.dK (kv3 a)]) S.length = none := by simp [entL]
  have h2 : entK (S ++ [.dK (kv3 a)]) S.length = some (kv3 a) := entK_app S _
  rw [frzV_r, h1]
  show frzD S.length (S ++ [.dK (kv3 a)]) = _
  unfold frzD
  simp only [h2]
  simp [kv3]
theorem state_k41 {n : Int} {c : Cy} (hn : FirstOk n) (hc : c.Ok) (K : List (Int × Ch)) (hK : ∀ p ∈ K, TermOk n c p.2) (day : Int) (S : Sto) : F_state_k41 [.p (.list (K.map nuD)), .p (.list ((iR 0 61).map fun k => .int (beg n c k))), .p (.int day)] S = .ok (.p (stD day (K.map (toR n c)))) S := by
  have h := (loop_fold (g := gTp [gNm 4, gNm 5]) (b := M_state_k41_b1) (fun p : Int × Ch => .p (nuD p)) (fun _ : Option Rw × Option Rw × Option Rw => [some (.p (.list (K.map nuD))), some (.p (.list ((iR 0 61).map fun k => .int (beg n c k)))), some (.p (.int day)), some (.r S.length), none, none, none, none, none]) (fun a => (S ++ [Ent.dK (kv3 a)] : Sto)) (fun _ => True) (fun a p => up3 day a (toR n c p)) K (none, none, none) trivial fun a p _ hm =>
    ⟨⟨_, rfl, state_turn hn hc _ day S a p (hK p hm)⟩, trivial⟩).1
  have h2 := up3_fold day (K.map (toR n c)) (none, none, none)
  rw [List.foldl_map] at h2
  rw [h2] at h
  have h3 := frz_kv3 S ((K.map (toR n c)).foldl (upd 0 day) none, (K.map (toR n c)).foldl (upd 1 day) none, (K.map (toR n c)).foldl (upd 2 day) none)
  have h0 : [((.inr "plan" : Key), Vl.p (.tuple [.none, .none])), (.inr "seats", .p (.tuple [.none, .int 1])), (.inr "word", .p (.tuple [.none, .str "on"]))] = kv3 (none, none, none) := rfl
  unfold stD bst
  generalize (K.map (toR n c)).foldl (upd 0 day) none = o0 at *
  generalize (K.map (toR n c)).foldl (upd 1 day) none = o1 at *
  generalize (K.map (toR n c)).foldl (upd 2 day) none = o2 at *
  have p1 : ∀ (o : Option Rw) (v : D), ∃ x, pairD o v = .tuple [x, v] := fun o v => ⟨_, rfl⟩
  obtain ⟨x0, q0⟩ := p1 o0 (nmD o0)
  obtain ⟨x1, q1⟩ := p1 o1 (ctD o1)
  obtain ⟨x2, q2⟩ := p1 o2 (wdD o2)
  simp only [q0, q1, q2] at h3
  simp [-atI_ofNat, -frzV_r, atI_c1, F_state_k41, M_state_k41, initE, h0, h, h3, Function.comp_def]
theorem maxOf_ge : ∀ (l : List Int) (m : Int), m ≤ maxOf m l ∧ (∀ y ∈ l, y ≤ maxOf m l) ∧ (maxOf m l = m ∨ maxOf m l ∈ l)
  | [], m => ⟨Int.le_refl _, by simp, .inl rfl⟩
  | y :: l, m => by
    unfold maxOf
    obtain ⟨h1, h2, h3⟩ := maxOf_ge l (if m < y then y else m)
    refine ⟨?_, fun z hz => ?_, ?_⟩
    · split at h1 <;> split <;> omega
    · rcases List.mem_cons.mp hz with rfl | hz
      · split at h1 <;> split <;> omega
      · exact h2 z hz
    · rcases h3 with h3 | h3
      · rw [h3]
        split
        · exact .inr List.mem_cons_self
        · exact .inl rfl
      · exact .inr (List.mem_cons_of_mem _ h3)
theorem maxV_of (l : List Int) (hl : l ≠ []) (S : Sto) : ∃ m, maxV (.p (.list (l.map PyData.int))) S = .ok (.p (.int m)) S ∧ m ∈ l ∧ ∀ y ∈ l, y ≤ m := by
  cases l with
  | nil => exact absurd rfl hl
  | cons x l =>
    obtain ⟨h1, h2, h3⟩ := maxOf_ge l x
    refine ⟨maxOf x l, by rw [List.map_cons, maxV_list], ?_, fun y hy => ?_⟩
    · rcases h3 with h3 | h3
      · rw [h3]; exact List.mem_cons_self
      · exact List.mem_cons_of_mem _ h3
    · rcases List.mem_cons.mp hy with rfl | hy
      · exact h1
      · exact h2 y hy
theorem EOk.mem {nm : List (List Nat)} {n last : Int} : ∀ {es : List (Int × Ch)} {r : Int} {st : List Int} {count : Nat}, EOk nm n last r st count es → ∀ p ∈ es, (n ≤ p.1 ∧ p.1 ≤ last) ∧ ∃ st, ChOk nm n last st p.2
  | [], _, _, _, _ => by simp
  | q :: es, r, st, count, h => fun p hp => by
    rcases List.mem_cons.mp hp with rfl | hp
    · exact ⟨h.1, st, h.2.2.1⟩
    · exact EOk.mem h.2.2.2 p hp
theorem runAt_mem : ∀ (es : List (Int × Ch)) (r : Int), runAt r es = r ∨ ∃ p ∈ es, p.1 = runAt r es
  | [], _ => .inl rfl
  | q :: es, _ => .inr (by
    rcases runAt_mem es q.1 with h | ⟨p, hp, h⟩
    · exact ⟨q, List.mem_cons_self, h.symm⟩
    · exact ⟨p, List.mem_cons_of_mem _ hp, h⟩)
theorem rev_app (S : Sto) (a b : Vl) : oRev (.r S.length) [] (S ++ [.lst [a, b]]) = .ok (.p .none) (S ++ [.lst [b, a]]) := by
  show (match entL (S ++ [Ent.lst [a, b]]) S.length with
    | some xs => R.ok (Vl.p .none) ((S ++ [Ent.lst [a, b]]).set S.length (.lst xs.reverse))
    | none => .bad) = _
  rw [entL_app]
  simp
theorem with_two_k41 {n : Int} {c : Cy} (hn : FirstOk n) (hc : c.Ok) {nm : List (List Nat)} (es : List (Int × Ch)) (hl : es.length ≤ 40) (he : EOk nm n (beg n c 60 - 1) n [] 0 es) (z : Int) (S : Sto) :
    ∃ es2 : List (Int × Ch), F_with_two_k41 [.p (.list (es.map enD)), .p (.list ((iR 0 61).map fun k => .int (beg n c k))), .p (.int z)] S = .ok (.p (.list (es2.map enD))) S ∧ EOk nm n (beg n c 60 - 1) n [] 0 es2 ∧ es2.length ≤ 40 := by
  have h60 := beg60 hn hc
  have b0 := atI_bg n c (j := 61) (k := 0) (by decide) (by decide)
  rw [beg_0 hn] at b0
  have k0 : 0 ≤ z % 9 ∧ z % 9 < 9 := by omega
  obtain ⟨k, hk⟩ : ∃ k, z % 9 = k := ⟨_, rfl⟩
  rw [hk] at k0
  have b1 := atI_bg n c (j := 61) (k := k) (by omega) (by omega)
  have b2 := atI_bg n c (j := 61) (k := k + 1) (by omega) (by omega)
  have hb1 := beg_mono (j := k) (k := k + 1) hn hc (by omega) (by omega) (by omega)
  have hb2 := beg_mono (j := k + 1) (k := 60) hn hc (by omega) (by omega) (by omega)
  have hb3 := beg_le (j := 0) (k := k) hn hc (by omega) (by omega) (by omega)
  rw [beg_0 hn] at hb3
  obtain ⟨w, hw⟩ : ∃ w, beg n c (k + 1) - beg n c k = w := ⟨_, rfl⟩
  have w1 : 0 < w := by omega
  have w2 : w < 1606938044258990275541962092341162602522202993782792835301376 := by have := hn.1; omega
  have em := fun S => modV_pos (z / 9) S w1
  have r1 := Int.emod_nonneg (z / 9) (show w ≠ 0 by omega)
  have r2 := Int.emod_lt_of_pos (z / 9) w1
  obtain ⟨d, hd⟩ : ∃ d, beg n c k + z / 9 % w = d := ⟨_, rfl⟩
  have hd1 : n ≤ d ∧ d ≤ beg n c 60 - 1 := by omega
  have hd2 : n ≤ beg n c (k + 1) ∧ beg n c (k + 1) ≤ beg n c 60 - 1 := by omega
  generalize hB : beg n c (k + 1) = B at *
  have c38 : cutL es none (some 38) = es.take 38 := cutL_toI _ (by decide)
  have h38 := he.take 38
  have l38 : (es.take 38).length ≤ 38 := by rw [List.length_take]; omega
  generalize es.take 38 = X at *
  have e1 := fun e S (he : e.length = 9) => lcG_map (g := gNm 8) (a := m2 ixV (mVar 8) (mC (.int 0))) (e := e) (S := S) (fun p : Int × Ch => .p (enD p)) (fun p => .p (.int p.1)) X fun p _ => ⟨_, rfl, by
    show (m2 ixV (mVar 8) (mC (.int 0))) (e.set 8 (some (.p (.tuple [.int p.1, p.2.d])))) S = _
    simp [he]⟩
  obtain ⟨m, e2, hm1, hm2⟩ := maxV_of (X.map (·.1) ++ [n]) (by simp) S
  have hm3 : n ≤ m := hm2 n (by simp)
  have hm4 : m ≤ beg n c 60 - 1 := by
    rcases List.mem_append.mp hm1 with h | h
    · obtain ⟨p, hp, rfl⟩ := List.mem_map.mp h
      exact (h38.mem p hp).1.2
    · rw [List.mem_singleton.mp h]; omega
  have hm5 : runAt n X ≤ m := by
    rcases runAt_mem X n with h | ⟨p, hp, h⟩
    · omega
    · rw [← h]; exact hm2 _ (List.mem_append_left _ (List.mem_map_of_mem hp))
  have key : ∀ t0 t1 : Ch, (∀ st, ChOk nm n (beg n c 60 - 1) st t0) → (∀ st, ChOk nm n (beg n c 60 - 1) st t1) → EOk nm n (beg n c 60 - 1) n [] 0 (X ++ [(m, t0)] ++ [(m, t1)]) := fun t0 t1 h0 h1 =>
    EOk.app (EOk.app h38 ⟨hm3, hm4⟩ hm5 (h0 _)) (p := (m, t1)) ⟨hm3, hm4⟩ (by rw [runAt_app]; exact Int.le_refl _) (h1 _)
  have hp : pures ((X.map fun p => Vl.p (.int p.1)) ++ [.p (.int n)]) = some ((X.map fun p => PyData.int p.1) ++ [.int n]) := by rw [pures_app]; simp [Function.comp_def]
  have hp2 : ∀ x y : D, pures ((X.map fun p => Vl.p (enD p)) ++ [.p x, .p y]) = some (X.map enD ++ [x, y]) := fun x y => by rw [pures_app]; simp [Function.comp_def]
  have q1 : X.length ≤ 16777216 := by omega
  have q2 : X.length + 1 ≤ 16777216 := by omega
  have q3 : X.length + 2 ≤ 16777216 := by omega
  have l0 : es.length ≤ 16777216 := by omega
  have hz : z % 2 = 0 ∨ z % 2 = 1 := by omega
  have hh : ∀ st, ChOk nm n (beg n c 60 - 1) st (.hold B) := fun _ => hd2
  have hg : ∀ st, ChOk nm n (beg n c 60 - 1) st (.go B) := fun _ => hd2
  have ht : ∀ st, ChOk nm n (beg n c 60 - 1) st (.last d) := fun _ => hd1
  have lE : ∀ t0 t1 : Ch, (X ++ [(m, t0)] ++ [(m, t1)]).length ≤ 40 := fun _ _ => by simp; omega
  simp only [List.map_append, List.map_map, List.map_cons, List.map_nil, Function.comp_def] at e2
  by_cases h3 : z / 2 % 3 = 2
  · rcases hz with hz | hz
    · refine ⟨_, ?_, key _ _ ht hh, lE _ _⟩
      simp [-atI_ofNat, -cutL_ofNat, atI_c1, rev_app, F_with_two_k41, M_with_two_k41, initE, hk, hB, hw, w1, em, hd, b0, b1, b2, c38, e1, e2, hp, hp2, q1, q2, q3, l0, h3, hz]
    · refine ⟨_, ?_, key _ _ ht hg, lE _ _⟩
      simp [-atI_ofNat, -cutL_ofNat, atI_c1, rev_app, F_with_two_k41, M_with_two_k41, initE, hk, hB, hw, w1, em, hd, b0, b1, b2, c38, e1, e2, hp, hp2, q1, q2, q3, l0, h3, hz]
  · rcases hz with hz | hz
    · refine ⟨_, ?_, key _ _ hh ht, lE _ _⟩
      simp [-atI_ofNat, -cutL_ofNat, atI_c1, rev_app, F_with_two_k41, M_with_two_k41, initE, hk, hB, hw, w1, em, hd, b0, b1, b2, c38, e1, e2, hp, hp2, q1, q2, q3, l0, h3, hz]
    · refine ⟨_, ?_, key _ _ hg ht, lE _ _⟩
      simp [-atI_ofNat, -cutL_ofNat, atI_c1, rev_app, F_with_two_k41, M_with_two_k41, initE, hk, hB, hw, w1, em, hd, b0, b1, b2, c38, e1, e2, hp, hp2, q1, q2, q3, l0, h3, hz]
end PV

/-! What is known: terms whose days the account has. -/
namespace PV
open PySem L2
theorem pln_c7 (ch : Ch) : pln 7 ch.d = true := by cases ch <;> simp
theorem pln_nus (K : List (Int × Ch)) : pln 9 (.list (K.map nuD)) = true := by simp [nuD, pln_c7]
theorem pln_ens (es : List (Int × Ch)) : pln 9 (.list (es.map enD)) = true := by simp [pln_c7]
theorem kn_mem (m : Int) (G : List Int) : ∀ (es : List (Int × Ch)) (c : Nat), ∀ p ∈ kn m G c es, p.2.isT = true ∧ ∃ q ∈ es, q.2 = p.2
  | [], _, p, hp => by cases hp
  | q :: es, c, p, hp => by
    simp only [kn] at hp
    rcases List.mem_append.mp hp with hp | hp
    · unfold one at hp
      split at hp
      · rename_i h
        rw [List.mem_singleton.mp hp]
        exact ⟨h.2.2, q, List.mem_cons_self, rfl⟩
      · cases hp
    · obtain ⟨h1, x, h2, h3⟩ := kn_mem m G es (c + 1) p hp
      exact ⟨h1, x, List.mem_cons_of_mem _ h2, h3⟩
theorem trm_ok {n : Int} {c : Cy} {nm : List (List Nat)} {es : List (Int × Ch)} (he : EOk nm n (beg n c 60 - 1) n [] 0 es) (m : Int) : ∀ p ∈ trm m [] 0 es, TermOk n c p.2 := by
  intro p hp
  have h0 := trm_kn m es n [] 0 [] he ⟨by simp, by simp, by simp, by simp, fun _ => rfl⟩
  rw [h0, List.filter_nil, List.nil_append] at hp
  obtain ⟨h1, q, h2, h3⟩ := kn_mem m _ es 0 p hp
  obtain ⟨_, st, h4⟩ := he.mem q h2
  rw [h3] at h4
  refine ⟨h1, ?_⟩
  obtain ⟨k, ch⟩ := p
  cases ch <;> simp [Ch.isT] at h1 <;> simp [ChOk] at h4 <;> (simp only [Ch.day, InAcct]; omega)
theorem trm_len {nm : List (List Nat)} {n last : Int} {es : List (Int × Ch)} (he : EOk nm n last n [] 0 es) (m : Int) : (trm m [] 0 es).length ≤ es.length := by
  have h0 := trm_kn m es n [] 0 [] he ⟨by simp, by simp, by simp, by simp, fun _ => rfl⟩
  rw [h0, List.filter_nil, List.nil_append]
  exact kn_len _ _ _ _
end PV

/-! Stretches of one state. -/
namespace PV
open PySem L2
theorem ssetV_list (l : List Int) (h : l.length < 1000) (S : Sto) : ssetV (.p (.list (l.map .int))) S = .ok (.p (.list ((sset l).map .int))) S := by
  unfold ssetV
  rw [intsV_list]
  simp only [if_pos h]
  have h2 := sset_len l
  simp [show (sset l).length ≤ 16777216 by omega]
/-- the state does not change where no term begins to count -/
theorem bst_same {t : Nat} {d d2 : Int} {rows : List Rw} (h : ∀ r ∈ rows, r.f ≤ d ↔ r.f ≤ d2) : bst t d rows = bst t d2 rows := by
  unfold bst
  have key : ∀ (xs : List Rw) (o : Option Rw), (∀ r ∈ xs, r ∈ rows) → xs.foldl (upd t d) o = xs.foldl (upd t d2) o := by
    intro xs
    induction xs with
    | nil => intro _ _; rfl
    | cons x xs ih =>
      intro o hm
      have e : upd t d o x = upd t d2 o x := by
        have hx := h x (hm x List.mem_cons_self)
        unfold upd
        simp only [hx]
      rw [List.foldl_cons, List.foldl_cons, e]
      exact ih _ fun r hr => hm r (List.mem_cons_of_mem _ hr)
  exact key rows none fun _ h => h
theorem stD_same {d d2 : Int} {rows : List Rw} (h : ∀ r ∈ rows, r.f ≤ d ↔ r.f ≤ d2) : stD d rows = stD d2 rows := by
  unfold stD
  rw [bst_same h, bst_same h, bst_same h]
/-- a stretch: its first day, the day behind it, its state -/
abbrev Str3 := Int × Int × D
def s3D (p : Str3) : D := .tuple [.int p.1, .int p.2.1, p.2.2]
/-- stretches from b to e, the last one first -/
def SegR (rows : List Rw) (b : Int) : List Str3 → Int → Prop
  | [], e => e = b
  | p :: G, e => p.2.1 = e ∧ p.1 < e ∧ (∀ d, p.1 ≤ d → d < e → stD d rows = p.2.2) ∧ (∀ q, G.head? = some q → q.2.2 ≠ p.2.2) ∧ SegR rows b G p.1
/-- the next stretch is put behind -/
noncomputable def addS (G : List Str3) (day behind : Int) (s : D) : List Str3 := match G with
  | [] => if day < behind then [(day, behind, s)] else []
  | p :: G => if p.2.2 = s then (p.1, behind, s) :: G else if day < behind then (day, behind, s) :: p :: G else p :: G
theorem SegR.add {rows : List Rw} {b : Int} {G : List Str3} {day behind : Int} (h : SegR rows b G day) (hl : day < behind) (hs : ∀ d, day ≤ d → d < behind → stD d rows = stD day rows) : SegR rows b (addS G day behind (stD day rows)) behind := by
  cases G with
  | nil =>
    have e0 : addS [] day behind (stD day rows) = [(day, behind, stD day rows)] := if_pos hl
    rw [e0]
    exact ⟨rfl, hl, hs, by simp, h⟩
  | cons p G =>
    obtain ⟨h1, h2, h3, h4, h5⟩ := h
    by_cases e : p.2.2 = stD day rows
    · have e0 : addS (p :: G) day behind (stD day rows) = (p.1, behind, stD day rows) :: G := if_pos e
      rw [e0]
      refine ⟨rfl, by omega, fun d q1 q2 => ?_, fun q hq => by rw [← e]; exact h4 q hq, h5⟩
      by_cases hd : d < day
      · rw [h3 d q1 hd, e]
      · exact hs d (by omega) q2
    · have e0 : addS (p :: G) day behind (stD day rows) = (day, behind, stD day rows) :: p :: G := (if_neg e).trans (if_pos hl)
      rw [e0]
      exact ⟨rfl, hl, hs, fun q hq => by cases hq; exact e, h1, h2, h3, h4, h5⟩
theorem addS_len (G : List Str3) (day behind : Int) (s : D) : (addS G day behind s).length ≤ G.length + 1 := by
  cases G with
  | nil =>
    show (if day < behind then [(day, behind, s)] else []).length ≤ _
    split <;> simp
  | cons p G =>
    show (if p.2.2 = s then (p.1, behind, s) :: G else if day < behind then (day, behind, s) :: p :: G else p :: G).length ≤ _
    split
    · simp
    · split <;> simp
theorem setIx_last (xs : List Vl) (x v : Vl) : setIx (xs ++ [x]) (-1) v = some (xs ++ [v]) := by
  unfold setIx ixN
  simp
  refine ⟨by omega, ?_⟩
  rw [show (-1 + ((xs.length : Int) + 1)).toNat = xs.length by omega]
  simp
theorem atI_last {α : Type} (xs : List α) (x : α) : atI (xs ++ [x]) (-1) = some x := by
  rw [atI_m1]
  simp
theorem stD_parts (day : Int) (rows : List Rw) : ∃ a b c, stD day rows = .tuple [a, .int b, .str c] ∧ (a = .none ∨ ∃ z, a = .str z) := by
  have h0 : nmD (bst 0 day rows) = .none ∨ ∃ z, nmD (bst 0 day rows) = .str z := by
    unfold nmD
    split
    · exact .inr ⟨_, rfl⟩
    · exact .inl rfl
  have h1 : ∃ z, ctD (bst 1 day rows) = .int z := by
    unfold ctD
    split <;> exact ⟨_, rfl⟩
  have h2 : ∃ z, wdD (bst 2 day rows) = .str z := by
    unfold wdD
    split <;> exact ⟨_, rfl⟩
  obtain ⟨b, h1⟩ := h1
  obtain ⟨c, h2⟩ := h2
  exact ⟨_, b, c, by unfold stD; rw [h1, h2], h0⟩
theorem pln_st (day : Int) (rows : List Rw) : pln 7 (stD day rows) = true := by
  obtain ⟨a, b, c, h, h2⟩ := stD_parts day rows
  rw [h]
  rcases h2 with rfl | ⟨z, rfl⟩ <;> simp
theorem pln_s1 : ∀ (k : Nat) (d : D), pln k d = true → pln (k + 1) d = true
  | 0, d, h => by cases d <;> simp [pln] at h <;> simp
  | k + 1, .list xs, q => by
    simp only [pln_lst, List.all_eq_true] at q ⊢
    exact fun x hx => pln_s1 k x (q x hx)
  | k + 1, .tuple xs, q => by
    simp only [pln_tup, List.all_eq_true] at q ⊢
    exact fun x hx => pln_s1 k x (q x hx)
  | k + 1, .bool b, q => by simp [pln] at q
  | k + 1, .dict b, q => by simp [pln] at q
  | k + 1, .none, _ => by simp
  | k + 1, .int _, _ => by simp
  | k + 1, .str _, _ => by simp
theorem pln_79 {d : D} (h : pln 7 d = true) : pln 9 d = true := pln_s1 _ _ (pln_s1 _ _ h)
/-- the place of what is found -/
def fdL (G : List Str3) : List Vl := (G.map fun p => Vl.p (s3D p)).reverse
theorem fdL_cons (p : Str3) (G : List Str3) : fdL (p :: G) = fdL G ++ [.p (s3D p)] := by simp [fdL]
theorem fd_pures (G : List Str3) : pures (fdL G) = some (G.map s3D).reverse := by
  unfold fdL
  rw [show (G.map fun p => Vl.p (s3D p)).reverse = ((G.map s3D).reverse).map Vl.p by rw [List.map_reverse, List.map_map]; rfl]
  exact pures_map _
theorem fd_ne (S : Sto) (G : List Str3) (hp : ∀ p ∈ G, pln 7 p.2.2 = true) : neV (.r S.length) (.p (.list [])) (S ++ [.lst (fdL G)]) = .ok (.p (.bool (!decide (G = [])))) (S ++ [.lst (fdL G)]) := by
  have h : datL (S ++ [.lst (fdL G)]) (.r S.length) = some (.list (G.map s3D).reverse) := by
    show (match entL (S ++ [.lst (fdL G)]) S.length with
      | some vs => (pures vs).map PyData.list
      | none => none) = _
    rw [entL_app]
    show (pures (fdL G)).map PyData.list = _
    rw [fd_pures]
    rfl
  have hq : pln 9 (.list (G.map s3D).reverse) = true := by
    simp [s3D]
    exact fun a b c h => hp _ h
  rw [neV_dat h, neV_pln _ hq (by simp)]
  cases G <;> simp
theorem stretch_turn {rows : List Rw} (hr : ∀ r ∈ rows, r.ch.isT = true) (a0 a1 a2 : Option Vl) (e : Int) (L : List Int) (hL : L.length ≤ 1000) (k : Nat) (day behind : Int) (hb : (L ++ [e])[k + 1]? = some behind) (G : List Str3) (hG : G.length ≤ 1000) (hp : ∀ p ∈ G, pln 7 p.2.2 = true) (S : Sto) :
    M_stretches_m_b1 [a0, a1, a2, some (.p (.int e)), some (.p (.list (rows.map Rw.dd))), some (.p (.list (L.map .int))), some (.r S.length), some (.p (.int (k : Nat))), some (.p (.int day)), none, none, none] (S ++ [.lst (fdL G)])
      = .nx [a0, a1, a2, some (.p (.int e)), some (.p (.list (rows.map Rw.dd))), some (.p (.list (L.map .int))), some (.r S.length), none, none, none, none, none] (S ++ [.lst (fdL (addS G day behind (stD day rows)))]) := by
  have e1 : pures ((L.map fun k => Vl.p (.int k)) ++ [.p (.int e)]) = some ((L ++ [e]).map .int) := by rw [pures_app]; simp
  have e2 : atI ((L ++ [e]).map fun k => Vl.p (.int k)) ((k : Int) + 1) = some (.p (.int behind)) := by
    rw [atI_pos _ (by omega), List.getElem?_map, show ((k : Int) + 1).toNat = k + 1 by omega, hb]
    rfl
  have e3 := fun S => state_by_ok day rows hr S
  have e4 := fd_ne S G hp
  have hst := pln_st day rows
  have l1 : L.length + 1 ≤ 16777216 := by omega
  generalize stD day rows = s at *
  rw [List.map_append, List.map_cons, List.map_nil] at e1 e2
  cases G with
  | nil =>
    have f0 : fdL [] = [] := rfl
    rw [f0] at e4 ⊢
    by_cases hl : day < behind
    · have e5 : addS [] day behind s = [(day, behind, s)] := if_pos hl
      have f1 : fdL [(day, behind, s)] = [.p (.tuple [.int day, .int behind, s])] := rfl
      rw [e5, f1]
      simp [-atI_ofNat, -atI_m1, M_stretches_m_b1, e1, e2, e3, e4, l1, hl, Function.comp_def]
    · have e5 : addS [] day behind s = [] := if_neg hl
      rw [e5, f0]
      simp [-atI_ofNat, -atI_m1, M_stretches_m_b1, e1, e2, e3, e4, l1, hl, Function.comp_def]
  | cons p G =>
    have hp0 := pln_79 (hp p List.mem_cons_self)
    obtain ⟨x, y, s0⟩ := p
    have f0 : fdL ((x, y, s0) :: G) = fdL G ++ [.p (.tuple [.int x, .int y, s0])] := fdL_cons _ _
    rw [f0] at e4 ⊢
    have l2 : (fdL G).length + 1 < 16777216 := by
      unfold fdL
      simp only [List.length_cons] at hG
      simp
      omega
    have e6 := eqV_pln (d := s0) (e := s) (S ++ [.lst (fdL G ++ [.p (.tuple [.int x, .int y, s0])])]) hp0 (pln_79 hst)
    by_cases hs : s0 = s
    · have e5 : addS ((x, y, s0) :: G) day behind s = (x, behind, s) :: G := if_pos hs
      have f1 : fdL ((x, behind, s) :: G) = fdL G ++ [.p (.tuple [.int x, .int behind, s])] := fdL_cons _ _
      rw [e5, f1]
      rw [decide_eq_true hs] at e6
      simp [-atI_ofNat, -atI_m1, M_stretches_m_b1, e1, e2, e3, e4, e6, l1, l2, atI_last, atI_c1, atI_c2, setIx_last, Function.comp_def]
    · rw [decide_eq_false hs] at e6
      by_cases hl : day < behind
      · have e5 : addS ((x, y, s0) :: G) day behind s = (day, behind, s) :: (x, y, s0) :: G := (if_neg hs).trans (if_pos hl)
        have f1 : fdL ((day, behind, s) :: (x, y, s0) :: G) = fdL G ++ [.p (.tuple [.int x, .int y, s0])] ++ [.p (.tuple [.int day, .int behind, s])] := by rw [fdL_cons, f0]; rfl
        rw [e5, f1]
        simp [-atI_ofNat, -atI_m1, M_stretches_m_b1, e1, e2, e3, e4, e6, l1, l2, hl, atI_last, atI_c1, atI_c2, Function.comp_def]
      · have e5 : addS ((x, y, s0) :: G) day behind s = (x, y, s0) :: G := (if_neg hs).trans (if_neg hl)
        rw [e5, f0]
        simp [-atI_ofNat, -atI_m1, M_stretches_m_b1, e1, e2, e3, e4, e6, l1, l2, hl, atI_last, atI_c1, atI_c2, Function.comp_def]
theorem addS_pln {G : List Str3} {day behind : Int} {s : D} (hs : pln 7 s = true) (h : ∀ p ∈ G, pln 7 p.2.2 = true) : ∀ p ∈ addS G day behind s, pln 7 p.2.2 = true := by
  cases G with
  | nil =>
    show ∀ p ∈ (if day < behind then [(day, behind, s)] else []), pln 7 p.2.2 = true
    split
    · intro p hp
      rw [List.mem_singleton.mp hp]
      exact hs
    · simp
  | cons q G =>
    show ∀ p ∈ (if q.2.2 = s then (q.1, behind, s) :: G else if day < behind then (day, behind, s) :: q :: G else q :: G), pln 7 p.2.2 = true
    split
    · intro p hp
      rcases List.mem_cons.mp hp with rfl | hp
      · exact hs
      · exact h p (List.mem_cons_of_mem _ hp)
    · split
      · intro p hp
        rcases List.mem_cons.mp hp with rfl | hp
        · exact hs
        · exact h p hp
      · exact h
/-- the turns, one behind another -/
noncomputable def runG (rows : List Rw) (e : Int) : List Int → List Str3 → List Str3
  | [], G => G
  | x :: suf, G => runG rows e suf (addS G x (suf.headD e) (stD x rows))
theorem stretch_run {rows : List Rw} (hr : ∀ r ∈ rows, r.ch.isT = true) (a0 a1 a2 : Option Vl) (b e : Int) (L : List Int) (hl : L.length ≤ 1000) (hL : L.Pairwise (· < ·)) (hlt : ∀ x ∈ L, x < e) (hge : ∀ x ∈ L, b ≤ x) (hcut : ∀ r ∈ rows, b < r.f → r.f < e → r.f ∈ L) (S : Sto) :
    ∀ (suf pre : List Int) (G : List Str3), L = pre ++ suf → G.length ≤ pre.length → (∀ p ∈ G, pln 7 p.2.2 = true) → SegR rows b G (suf.headD e) →
    loopG (gTp [gNm 7, gNm 8]) M_stretches_m_b1 (enumV pre.length (suf.map .int)) [a0, a1, a2, some (.p (.int e)), some (.p (.list (rows.map Rw.dd))), some (.p (.list (L.map .int))), some (.r S.length), none, none, none, none, none] (S ++ [.lst (fdL G)])
      = .nx [a0, a1, a2, some (.p (.int e)), some (.p (.list (rows.map Rw.dd))), some (.p (.list (L.map .int))), some (.r S.length), none, none, none, none, none] (S ++ [.lst (fdL (runG rows e suf G))]) ∧ SegR rows b (runG rows e suf G) e ∧ (∀ p ∈ runG rows e suf G, pln 7 p.2.2 = true) ∧ (runG rows e suf G).length ≤ L.length
  | [], pre, G, h, hg, hp, hs => ⟨by simp [enumV, runG], hs, hp, by rw [h]; simpa [runG] using hg⟩
  | x :: suf, pre, G, h, hg, hp, hs => by
    have hx : x ∈ L := by rw [h]; simp
    have hbe : (L ++ [e])[pre.length + 1]? = some (suf.headD e) := by
      rw [h, List.append_assoc, List.getElem?_append_right (by omega), show pre.length + 1 - pre.length = 1 by omega]
      cases suf <;> simp
    have hP := hL
    rw [h, List.pairwise_append, List.pairwise_cons] at hP
    obtain ⟨p1, ⟨p2, p3⟩, p4⟩ := hP
    have hlt2 : x < suf.headD e := by
      cases suf with
      | nil => exact hlt x hx
      | cons y suf => exact p2 y List.mem_cons_self
    have hle : suf.headD e ≤ e := by
      cases suf with
      | nil => exact Int.le_refl _
      | cons y suf => exact Int.le_of_lt (hlt y (by rw [h]; simp))
    have hst : ∀ d, x ≤ d → d < suf.headD e → stD d rows = stD x rows := fun d d1 d2 => stD_same fun r hr => by
      constructor
      · intro hd
        rcases Int.lt_or_le x r.f with hf | hf
        · exfalso
          have hb := hge x hx
          have hm := hcut r hr (by omega) (by omega)
          rw [h] at hm
          rcases List.mem_append.mp hm with hm | hm
          · have := p4 _ hm x List.mem_cons_self
            omega
          · rcases List.mem_cons.mp hm with hm | hm
            · omega
            · cases suf with
              | nil => cases hm
              | cons y suf =>
                simp only [List.headD_cons] at d2
                rcases List.mem_cons.mp hm with hm | hm
                · omega
                · have := (List.pairwise_cons.mp p3).1 _ hm
                  omega
        · exact hf
      · intro hf
        omega
    have hs : SegR rows b G x := hs
    have e1 := stretch_turn hr a0 a1 a2 e L hl pre.length x (suf.headD e) hbe G (by have := congrArg List.length h; simp at this; omega) hp S
    obtain ⟨e2, q1, q2, q3⟩ := stretch_run hr a0 a1 a2 b e L hl hL hlt hge hcut S suf (pre ++ [x]) (addS G x (suf.headD e) (stD x rows)) (by rw [h]; simp) (Nat.le_trans (addS_len _ _ _ _) (by rw [List.length_append]; simp only [List.length_cons, List.length_nil]; omega)) (addS_pln (pln_st x rows) hp) (hs.add hlt2 hst)
    refine ⟨?_, q1, q2, q3⟩
    rw [show runG rows e (x :: suf) G = runG rows e suf (addS G x (suf.headD e) (stD x rows)) from rfl, ← e2]
    have hlen : (pre ++ [x]).length = pre.length + 1 := by simp
    rw [hlen]
    simp [enumV, e1]
theorem stretches_ok {ps : List Pl} {n : Int} {c : Cy} (hn : FirstOk n) (hc : c.Ok) (K : List (Int × Ch)) (hK : ∀ p ∈ K, TermOk n c p.2) (hl : K.length ≤ 100) (b e : Int) (hbe : b ≤ e) :
    ∃ G, (∀ S, F_stretches_m [.p (acctD ps n c), .p (.list (K.map nuD)), .p (.int b), .p (.int e)] S = .ok (.r S.length) (S ++ [.lst (fdL G)])) ∧ SegR (K.map (toR n c)) b G e ∧ (∀ p ∈ G, pln 7 p.2.2 = true) ∧ G.length ≤ 200 := by
  have e1 := fun S => counted_ok (ps := ps) hn hc K hK (by omega) S
  have hr : ∀ r ∈ K.map (toR n c), r.ch.isT = true := fun r hr => by obtain ⟨p, hp, rfl⟩ := List.mem_map.mp hr; exact (hK p hp).1
  have hlr : (K.map (toR n c)).length ≤ 100 := by rw [List.length_map]; exact hl
  generalize K.map (toR n c) = rows at *
  have e2 := fun S => lcG_filter (g := gNm 11) (c := mChain ltV ltV (mVar 2) (m2 ixV (mVar 11) (mC (.int 0))) (mVar 3)) (a := m2 ixV (mVar 11) (mC (.int 0))) (e := [some (.p (acctD ps n c)), some (.p (.list (K.map nuD))), some (.p (.int b)), some (.p (.int e)), some (.p (.list (rows.map Rw.dd))), none, none, none, none, none, none, none]) (S := S) (fun r : Rw => .p r.dd) (fun r => .p (.int r.f)) (fun r => (decide (b < r.f) && decide (r.f < e))) rows fun r _ => ⟨_, rfl, by
    obtain ⟨f, d, k, ch⟩ := r
    by_cases h1 : b < f <;> by_cases h2 : f < e <;> simp [h1, h2], fun _ => by obtain ⟨f, d, k, ch⟩ := r; simp⟩
  have hF : (rows.filter fun r => (decide (b < r.f) && decide (r.f < e))).length ≤ 100 := Nat.le_trans (List.length_filter_le _ _) hlr
  have hmem : ∀ r ∈ rows, b < r.f → r.f < e → r.f ∈ (rows.filter fun r => (decide (b < r.f) && decide (r.f < e))).map (·.f) := fun r hr h1 h2 => List.mem_map_of_mem (List.mem_filter.mpr ⟨hr, by simp [h1, h2]⟩)
  have hin : ∀ x ∈ (rows.filter fun r => (decide (b < r.f) && decide (r.f < e))).map (·.f), b < x ∧ x < e := fun x hx => by
    obtain ⟨r, hr, rfl⟩ := List.mem_map.mp hx
    have := (List.mem_filter.mp hr).2
    simpa using this
  have hmp : ((rows.filter fun r => (decide (b < r.f) && decide (r.f < e))).map fun r => PyData.int r.f) = ((rows.filter fun r => (decide (b < r.f) && decide (r.f < e))).map (·.f)).map .int := by rw [List.map_map]; rfl
  have hFl : ((rows.filter fun r => (decide (b < r.f) && decide (r.f < e))).map (·.f)).length ≤ 100 := by rw [List.length_map]; exact hF
  generalize hfs : (rows.filter fun r => (decide (b < r.f) && decide (r.f < e))).map (·.f) = fs at *
  have e3 := fun S => ssetV_list (b :: fs) (by simp; omega) S
  have hsl := sset_len (b :: fs)
  have hss := sset_sorted (b :: fs)
  have hms := mem_sset (b :: fs)
  simp only [List.length_cons] at hsl
  generalize sset (b :: fs) = L at *
  have hge : ∀ x ∈ L, b ≤ x := fun x hx => by
    rcases List.mem_cons.mp ((hms x).mp hx) with h | h
    · omega
    · have := hin x h; omega
  have hp : pures (.p (.int b) :: (fs.map fun k => Vl.p (.int k))) = some (.int b :: fs.map .int) := by
    rw [show (Vl.p (.int b) :: (fs.map fun k => Vl.p (.int k))) = (((b :: fs).map PyData.int).map Vl.p) by simp [Function.comp_def]]
    exact pures_map _
  have lK : K.length ≤ 16777216 := by omega
  have l1 : fs.length + 1 ≤ 16777216 := by omega
  have l3 : (rows.filter fun r => (decide (b < r.f) && decide (r.f < e))).length ≤ 16777215 := by omega
  have l2 : (rows.filter fun r => (decide (b < r.f) && decide (r.f < e))).length ≤ 16777216 := by omega
  have fdn : fdL [] = [] := rfl
  have fin_ : ∃ G2, (∀ S, loopG (gTp [gNm 7, gNm 8]) M_stretches_m_b1 (enumV 0 (L.map .int)) [some (.p (acctD ps n c)), some (.p (.list (K.map nuD))), some (.p (.int b)), some (.p (.int e)), some (.p (.list (rows.map Rw.dd))), some (.p (.list (L.map .int))), some (.r S.length), none, none, none, none, none] (S ++ [.lst []])
      = .nx [some (.p (acctD ps n c)), some (.p (.list (K.map nuD))), some (.p (.int b)), some (.p (.int e)), some (.p (.list (rows.map Rw.dd))), some (.p (.list (L.map .int))), some (.r S.length), none, none, none, none, none] (S ++ [.lst (fdL G2)])) ∧ SegR rows b G2 e ∧ (∀ p ∈ G2, pln 7 p.2.2 = true) ∧ G2.length ≤ 200 := by
    rcases Int.lt_or_le b e with hlt | hge2
    · have hall : ∀ x ∈ L, x < e := fun x hx => by
        rcases List.mem_cons.mp ((hms x).mp hx) with h | h
        · omega
        · exact (hin x h).2
      have hb : b ∈ L := (hms b).mpr List.mem_cons_self
      have hd : L.headD e = b := by
        cases L with
        | nil => cases hb
        | cons y L =>
          rcases List.mem_cons.mp hb with h | h
          · exact h.symm
          · have h1 := (List.pairwise_cons.mp hss).1 b h
            have h2 := hge y List.mem_cons_self
            omega
      have run := fun S => stretch_run hr (some (.p (acctD ps n c))) (some (.p (.list (K.map nuD)))) (some (.p (.int b))) b e L (by omega) hss hall hge (fun r hr h1 h2 => (hms _).mpr (List.mem_cons_of_mem _ (hmem r hr h1 h2))) S L [] [] rfl (Nat.le_refl _) (by simp) (by show L.headD e = b; exact hd)
      have r0 := run []
      exact ⟨_, fun S => (run S).1, r0.2.1, r0.2.2.1, by have := r0.2.2.2; omega⟩
    · have he : e = b := by omega
      subst he
      have hf : fs = [] := by
        cases fs with
        | nil => rfl
        | cons x fs => have := hin x List.mem_cons_self; omega
      subst hf
      have hL : L = [e] := by
        have h1 : ∀ x, x ∈ L ↔ x = e := fun x => by rw [hms x]; simp
        cases L with
        | nil => exact absurd ((h1 e).mpr rfl) (by simp)
        | cons y L =>
          have hy := (h1 y).mp List.mem_cons_self
          cases L with
          | nil => rw [hy]
          | cons z L =>
            have hz := (h1 z).mp (by simp)
            have := (List.pairwise_cons.mp hss).1 z List.mem_cons_self
            omega
      subst hL
      have e5 := fun S => stretch_turn hr (some (.p (acctD ps n c))) (some (.p (.list (K.map nuD)))) (some (.p (.int e))) e [e] (by simp) 0 e e (by simp) [] (by simp) (by simp) S
      have e6 : addS [] e e (stD e rows) = [] := if_neg (Int.lt_irrefl _)
      rw [e6, fdn] at e5
      refine ⟨[], fun S => ?_, rfl, by simp, by simp⟩
      rw [fdn]
      simp at e5
      simp [enumV, e5]
  obtain ⟨G2, e4, q1, q2, q3⟩ := fin_
  refine ⟨G2, fun S => ?_, q1, q2, q3⟩
  unfold acctD at *
  simp at e1 e3 e4
  simp [F_stretches_m, M_stretches_m, initE, e1, e2, e3, e4, hmp, hp, lK, l1, l2, l3, Function.comp_def]
end PV

namespace PV
open PySem L2
/-- stretches from b to e, the first one first -/
def Seg (rows : List Rw) : Int → List Str3 → Int → Prop
  | b, [], e => b = e
  | b, p :: F, e => p.1 = b ∧ b < p.2.1 ∧ (∀ d, b ≤ d → d < p.2.1 → stD d rows = p.2.2) ∧ Seg rows p.2.1 F e
theorem Seg.app {rows : List Rw} : ∀ {F : List Str3} {b m : Int} {p : Str3}, Seg rows b F m → p.1 = m → m < p.2.1 → (∀ d, m ≤ d → d < p.2.1 → stD d rows = p.2.2) → Seg rows b (F ++ [p]) p.2.1
  | [], b, m, p, h, h1, h2, h3 => by
    have h : b = m := h
    subst h
    exact ⟨h1, h2, h3, rfl⟩
  | q :: F, b, m, p, h, h1, h2, h3 => ⟨h.1, h.2.1, h.2.2.1, Seg.app h.2.2.2 h1 h2 h3⟩
theorem SegR.fwd {rows : List Rw} {b : Int} : ∀ {G : List Str3} {e : Int}, SegR rows b G e → Seg rows b G.reverse e
  | [], e, h => (show e = b from h).symm
  | p :: G, e, h => by
    rw [List.reverse_cons]
    have := Seg.app (SegR.fwd h.2.2.2.2) rfl (by have := h.2.1; have := h.1; omega) (fun d d1 d2 => h.2.2.1 d d1 (by have := h.1; omega))
    rw [h.1] at this
    exact this
/-- neighbours -/
def prs : List Str3 → List (Str3 × Str3)
  | p :: q :: F => (p, q) :: prs (q :: F)
  | _ => []
theorem prs_snoc : ∀ (F : List Str3) (p : Str3), ∀ x ∈ prs (F ++ [p]), x ∈ prs F ∨ (F.getLast? = some x.1 ∧ x.2 = p)
  | [], p, x, hx => by simp [prs] at hx
  | [q], p, x, hx => by
    simp [prs] at hx
    subst hx
    exact .inr ⟨rfl, rfl⟩
  | q :: r :: F, p, x, hx => by
    have hx : x ∈ (q, r) :: prs (r :: F ++ [p]) := hx
    rcases List.mem_cons.mp hx with rfl | hx
    · exact .inl List.mem_cons_self
    · rcases prs_snoc (r :: F) p x hx with h | ⟨h1, h2⟩
      · exact .inl (List.mem_cons_of_mem _ h)
      · exact .inr ⟨by rw [List.getLast?_cons_cons]; exact h1, h2⟩
theorem SegR.adj {rows : List Rw} {b : Int} : ∀ {G : List Str3} {e : Int}, SegR rows b G e → ∀ x ∈ prs G.reverse, x.1.2.2 ≠ x.2.2.2
  | [], e, h, x, hx => by simp [prs] at hx
  | p :: G, e, h, x, hx => by
    rw [List.reverse_cons] at hx
    rcases prs_snoc _ _ x hx with hx | ⟨h1, h2⟩
    · exact SegR.adj h.2.2.2.2 x hx
    · rw [List.getLast?_reverse] at h1
      rw [h2]
      exact h.2.2.2.1 _ h1
theorem zip_prs : ∀ F : List Str3, zipV (F.map s3D).dropLast ((F.map s3D).drop 1) = (prs F).map fun x => .p (.tuple [s3D x.1, s3D x.2])
  | [] => rfl
  | [p] => rfl
  | p :: q :: F => by
    have ih := zip_prs (q :: F)
    simp only [List.map_cons, List.dropLast_cons₂, List.drop_succ_cons, List.drop_zero, zipV, prs] at ih ⊢
    rw [← ih]
/-- the stretch of a day -/
theorem Seg.at {rows : List Rw} {d : Int} : ∀ {F : List Str3} {b e : Int}, Seg rows b F e → b ≤ d → d < e → ∃ p Q, F.filter (fun p => decide (p.1 ≤ d) && decide (d < p.2.1)) = p :: Q ∧ p.2.2 = stD d rows
  | [], b, e, h, h1, h2 => by
    have h : b = e := h
    omega
  | p :: F, b, e, h, h1, h2 => by
    by_cases hd : d < p.2.1
    · refine ⟨p, _, List.filter_cons_of_pos (by have := h.1; simp; omega), (h.2.2.1 d h1 hd).symm⟩
    · rw [List.filter_cons_of_neg (by simp; omega)]
      exact Seg.at h.2.2.2 (by omega) h2
theorem Seg.st {rows : List Rw} : ∀ {F : List Str3} {b e : Int}, Seg rows b F e → ∀ p ∈ F, ∃ d, p.2.2 = stD d rows
  | [], _, _, _, _, hp => by cases hp
  | q :: F, b, e, h, p, hp => by
    rcases List.mem_cons.mp hp with rfl | hp
    · exact ⟨b, (h.2.2.1 b (Int.le_refl _) h.2.1).symm⟩
    · exact Seg.st h.2.2.2 p hp
theorem lie_loop {rows : List Rw} {gd : Gu} {S : Sto} (hG : gOk gd S) (a0 a1 a2 : Option Vl) : ∀ (F : List Str3) (b e : Int), Seg rows b F e →
    loopP gd (gNm 4) M_lie_behind_k42_b1 (F.map fun p => .p (s3D p)) [a0, a1, a2, some (.p (.int b)), none, none, none] S = .nx [a0, a1, a2, some (.p (.int e)), none, none, none] S
  | [], b, e, h => by
    have h : b = e := h
    subst h
    exact loopP_nil _ _ hG
  | p :: F, b, e, h => by
    obtain ⟨x, y, s⟩ := p
    obtain ⟨h1, h2, h3, h4⟩ := h
    simp only at h1 h2 h3 h4
    subst h1
    have ih := lie_loop hG a0 a1 a2 F y e h4
    have hs := h3 x (Int.le_refl _) h2
    obtain ⟨u, v, w, hst, _⟩ := stD_parts x rows
    rw [hst] at hs
    subst hs
    have w1 := whole_k10 x S
    have w2 := whole_k10 y S
    have hn : ¬ y ≤ x := by omega
    rw [List.map_cons, loopP_cons _ _ _ _ hG, ← ih]
    simp [-atI_ofNat, atI_c1, atI_c2, M_lie_behind_k42_b1, s3D, w1, w2, hn]
theorem slV_r (k : Nat) (lo hi : Option Int) (S : Sto) (vs : List Vl) (h : entL S k = some vs) : slV (.r k) lo hi S = lstF (cutL vs lo hi) S := by
  show (match asL S (.r k) with
    | some vs => lstF (cutL vs lo hi) S
    | none => .bad) = _
  rw [asL_r, h]
theorem lstF_pl (ds : List D) (S : Sto) (h : ds.length ≤ 16777216) : lstF (ds.map Vl.p) S = .ok (.p (.list ds)) S := by
  simp [h]
theorem lie_ok {rows : List Rw} {F : List Str3} {b e : Int} (h : Seg rows b F e) (ha : ∀ x ∈ prs F, x.1.2.2 ≠ x.2.2.2) (hl : F.length ≤ 1000) (j : Nat) (S : Sto) (hj : entL S j = some (F.map fun p => .p (s3D p))) :
    F_lie_behind_k42 [.r j, .p (.int b), .p (.int e)] S = .ok (.p (.bool true)) S := by
  have hG : gOk [(j, F.map fun p => Vl.p (s3D p))] S := by rw [gOk_one]; exact hj
  have e1 := lie_loop hG (some (.r j)) (some (.p (.int b))) (some (.p (.int e))) F b e h
  have e2 := slV_r j none (some (-1)) S _ hj
  have e3 := slV_r j (some 1) none S _ hj
  have f1 : lstF (cutL (F.map fun p => Vl.p (s3D p)) none (some (-1))) S = .ok (.p (.list (F.map s3D).dropLast)) S := by
    rw [cutL_init, show (F.map fun p => Vl.p (s3D p)).dropLast = ((F.map s3D).dropLast).map Vl.p by rw [List.map_dropLast, List.map_map]; rfl]
    exact lstF_pl _ _ (by simp; omega)
  have f2 : lstF (cutL (F.map fun p => Vl.p (s3D p)) (some 1) none) S = .ok (.p (.list ((F.map s3D).drop 1))) S := by
    rw [cutL_fromI _ (by decide), show (F.map fun p => Vl.p (s3D p)).drop (1 : Int).toNat = ((F.map s3D).drop 1).map Vl.p by rw [List.map_drop, List.map_map]; rfl]
    exact lstF_pl _ _ (by simp; omega)
  rw [f1] at e2
  rw [f2] at e3
  have e4 := zip_prs F
  have e5 := fun (a0 : Option Vl) => loop_const (g := gTp [gNm 5, gNm 6]) (b := M_lie_behind_k42_b2) (fun x : Str3 × Str3 => .p (.tuple [s3D x.1, s3D x.2])) (e := [a0, some (.p (.int b)), some (.p (.int e)), some (.p (.int e)), none, none, none]) (S := S) (prs F) fun x hx => by
    have hne := ha x hx
    have hmem : ∀ (F : List Str3), ∀ x ∈ prs F, x.1 ∈ F ∧ x.2 ∈ F := by
      intro F
      induction F with
      | nil => intro x hx; simp [prs] at hx
      | cons p F ih =>
        cases F with
        | nil => intro x hx; simp [prs] at hx
        | cons q F =>
          intro x hx
          rcases List.mem_cons.mp hx with rfl | hx
          · exact ⟨List.mem_cons_self, by simp⟩
          · have := ih x hx
            exact ⟨List.mem_cons_of_mem _ this.1, List.mem_cons_of_mem _ this.2⟩
    obtain ⟨d1, h1⟩ := h.st x.1 (hmem F x hx).1
    obtain ⟨d2, h2⟩ := h.st x.2 (hmem F x hx).2
    obtain ⟨⟨x1, y1, s1⟩, ⟨x2, y2, s2⟩⟩ := x
    simp only at hne h1 h2
    have q := eqV_pln (d := s1) (e := s2) S (by rw [h1]; exact pln_79 (pln_st _ _)) (by rw [h2]; exact pln_79 (pln_st _ _))
    rw [decide_eq_false hne] at q
    refine ⟨[a0, some (.p (.int b)), some (.p (.int e)), some (.p (.int e)), none, some (.p (s3D (x1, y1, s1))), some (.p (s3D (x2, y2, s2)))], rfl, ?_⟩
    simp [-atI_ofNat, atI_c1, atI_c2, M_lie_behind_k42_b2, s3D, q]
  simp [-cutL_ofNat2, -cutL_init, F_lie_behind_k42, M_lie_behind_k42, initE, e1, e2, e3, e4, e5, hj, -List.drop_one]
theorem two_k42 {n : Int} {c : Cy} (hn : FirstOk n) (hc : c.Ok) (K : List (Int × Ch)) (hK : ∀ p ∈ K, TermOk n c p.2) (hl : K.length ≤ 100) (x y : Int) (S : Sto) :
    ∃ b e : Int, F_two_k42 [.p (.list (K.map nuD)), .p (.list ((iR 0 61).map fun k => .int (beg n c k))), .p (.int x), .p (.int y)] S = .ok (.p (.tuple [.int b, .int e])) S ∧ n ≤ b ∧ b ≤ e ∧ e ≤ beg n c 60 := by
  have h60 := beg60 hn hc
  have b0 := atI_bg n c (j := 61) (k := 0) (by decide) (by decide)
  rw [beg_0 hn] at b0
  have b1 := atI_bg n c (j := 61) (k := 1) (by decide) (by decide)
  have b2 := atI_bg n c (j := 61) (k := x / 8 % 10) (by omega) (by omega)
  have b3 := atI_bg n c (j := 61) (k := x / 8 % 60) (by omega) (by omega)
  have b4 := atI_bgL n c
  have e1 := fun e (he : e.length = 8) (hb : e[1]? = some (some (.p (.list ((iR 0 61).map fun k => .int (beg n c k)))))) => lcG_map (g := gTp [gNm 6, gNm 7]) (a := mCall F_counts_k41 [mVar 7, mVar 1]) (e := e) (S := S) (fun p : Int × Ch => .p (nuD p)) (fun p => .p (.int (cf n c p.2))) K fun p hp => by
    have e2 := counts_k41 hn hc (hK p hp) S
    obtain ⟨k, ch⟩ := p
    refine ⟨(e.set 6 (some (.p (.int k)))).set 7 (some (.p ch.d)), by simp [nuD], ?_⟩
    have h1 : ((e.set 6 (some (.p (.int k)))).set 7 (some (.p ch.d)))[7]? = some (some (.p ch.d)) := by simp [he]
    have h2 : ((e.set 6 (some (.p (.int k)))).set 7 (some (.p ch.d)))[1]? = some (some (.p (.list ((iR 0 61).map fun k => .int (beg n c k))))) := by simp [hb]
    simp only at e2
    simp [h1, h2, e2]
  obtain ⟨L, hL⟩ : ∃ L : List Int, [beg n c (x / 8 % 10), n, beg n c (x / 8 % 60)] ++ K.map (fun p => cf n c p.2) = L := ⟨_, rfl⟩
  have hL1 : L.length = K.length + 3 := by rw [← hL]; simp
  have hp : pures (.p (.int (beg n c (x / 8 % 10))) :: .p (.int n) :: .p (.int (beg n c (x / 8 % 60))) :: (K.map fun p => Vl.p (.int (cf n c p.2)))) = some (L.map .int) := by
    rw [← hL]
    simp [Function.comp_def]
  have l0 : 0 < (L.length : Int) := by omega
  have em := fun S => modV_pos x S l0
  have i1 := Int.emod_nonneg x (show (L.length : Int) ≠ 0 by omega)
  have i2 := Int.emod_lt_of_pos x l0
  obtain ⟨q, e3, _⟩ := pickG (fun w : Int => Vl.p (.int w)) L (x % L.length) (fun _ => True) i1 i2 (fun _ _ => trivial)
  obtain ⟨w, hw⟩ : ∃ w, beg n c 60 - n = w := ⟨_, rfl⟩
  have w1 : 0 < w := by omega
  have w2 : w < 1606938044258990275541962092341162602522202993782792835301376 := by have := hn.1; omega
  have em2 := fun S => modV_pos x S w1
  have j1 := Int.emod_nonneg x (show w ≠ 0 by omega)
  have j2 := Int.emod_lt_of_pos x w1
  have hlL : L.length ≤ 16777216 := by omega
  have hlK : K.length ≤ 16777213 := by omega
  have hlK2 : K.length ≤ 16777216 := by omega
  have hlK3 : K.length + 3 ≤ 16777216 := by omega
  have hlK4 : K.length + 1 + 1 + 1 ≤ 16777216 := by omega
  have hb1 := beg_mono (j := 0) (k := 1) hn hc (by decide) (by decide) (by decide)
  rw [beg_0 hn] at hb1
  obtain ⟨v, e4, v1, _⟩ := pick [y / 8 % 100, y / 8 % 10, 0, beg n c 1 - n] (y % 4) 0 4000000 (by omega) (by simp; omega) (by
    have := (beg_bd (k := 1) hn hc (by decide)).2
    have := hn.1
    simp only [List.mem_cons, List.not_mem_nil, or_false]; rintro z (rfl | rfl | rfl | rfl) <;> omega)
  simp only [List.map_cons, List.map_nil] at e4
  obtain ⟨m, hm⟩ : ∃ m, (if beg n c 60 - 1 < (if n < q - x / 80 % 9 then q - x / 80 % 9 else n) then beg n c 60 - 1 else (if n < q - x / 80 % 9 then q - x / 80 % 9 else n)) = m := ⟨_, rfl⟩
  have hm1 : n ≤ m ∧ m ≤ beg n c 60 - 1 := by rw [← hm]; split <;> (try split) <;> omega
  by_cases h1 : y % 8 = 1
  · refine ⟨n, beg n c 60, ?_, by omega, by omega, by omega⟩
    simp [-atI_ofNat, -atI_m1, F_two_k42, M_two_k42, initE, b0, b1, b2, b3, b4, e1, hp, em, e3, hm, h1, l0, hlL, hlK, hlK2, hlK3, hlK4, Function.comp_def]
  · by_cases h2 : y % 8 = 6
    · obtain ⟨d, hd⟩ : ∃ d, n + x % w = d := ⟨_, rfl⟩
      obtain ⟨u, hu⟩ : ∃ u, beg n c 60 - d + 1 = u := ⟨_, rfl⟩
      have u1 : 0 < u := by omega
      have u2 : u < 1606938044258990275541962092341162602522202993782792835301376 := by have := hn.1; omega
      have em3 := fun S => modV_pos (y / 8) S u1
      have k1 := Int.emod_nonneg (y / 8) (show u ≠ 0 by omega)
      have k2 := Int.emod_lt_of_pos (y / 8) u1
      refine ⟨d, d + y / 8 % u, ?_, by omega, by omega, by omega⟩
      simp [-atI_ofNat, -atI_m1, F_two_k42, M_two_k42, initE, b0, b1, b2, b3, b4, e1, hp, em, em2, em3, hw, w1, hd, hu, u1, e3, hm, h1, h2, l0, hlL, hlK, hlK2, hlK3, hlK4, Function.comp_def]
    · refine ⟨m, if beg n c 60 < m + v % 120 then beg n c 60 else m + v % 120, ?_, hm1.1, ?_, ?_⟩
      · simp [-atI_ofNat, -atI_m1, F_two_k42, M_two_k42, initE, b0, b1, b2, b3, b4, e1, hp, em, e3, e4, hm, h1, h2, l0, hlL, hlK, hlK2, hlK3, hlK4, Function.comp_def]
      · split <;> omega
      · split <;> omega
@[simp] theorem rgL_ap (i j : Int) (S : Sto) : rgL (.p (.int i)) (.p (.int j)) S = if -1000000000 ≤ i ∧ i ≤ 1000000000 ∧ -1000000000 ≤ j ∧ j ≤ 1000000000 ∧ j - i ≤ 16777216 then lstF (rngV i j) S else .bad := id rfl
theorem days_loop2 {n : Int} {c : Cy} (hn : FirstOk n) (hc : c.Ok) (a0 a2 a3 : Option Vl) (S : Sto) : ∀ (K : List (Int × Ch)) (ds : List Int), (∀ p ∈ K, TermOk n c p.2) → ds.length + 2 * K.length ≤ 1000 →
    ∃ ds2 : List Int, loopG (gTp [gNm 5, gNm 6]) M_days_k42_b1 (K.map fun p => .p (nuD p)) [a0, some (.p (.list ((iR 0 61).map fun k => .int (beg n c k)))), a2, a3, some (.p (.list (ds.map .int))), none, none, none] S
      = .nx [a0, some (.p (.list ((iR 0 61).map fun k => .int (beg n c k)))), a2, a3, some (.p (.list (ds2.map .int))), none, none, none] S ∧ ds2.length ≤ 1000
  | [], ds, _, h => ⟨ds, by simp, by simpa using h⟩
  | p :: K, ds, hK, h => by
    have e1 := counts_k41 hn hc (hK p List.mem_cons_self) S
    simp only [List.length_cons] at h
    obtain ⟨ds2, h1, h2⟩ := days_loop2 hn hc a0 a2 a3 S K (ds ++ [cf n c p.2 - 1, cf n c p.2]) (fun q hq => hK q (List.mem_cons_of_mem _ hq)) (by simp; omega)
    refine ⟨ds2, ?_, h2⟩
    rw [← h1]
    obtain ⟨k, ch⟩ := p
    simp only at e1 ⊢
    generalize cf n c ch = f at *
    have hp : pures ((ds.map fun k => Vl.p (.int k)) ++ [.p (.int (f - 1)), .p (.int f)]) = some (ds.map .int ++ [.int (f - 1), .int f]) := by rw [pures_app]; simp
    simp [-atI_ofNat, M_days_k42_b1, nuD, e1, hp, show ds.length + 2 ≤ 16777216 by omega, Function.comp_def]
theorem days42_ok {n : Int} {c : Cy} (hn : FirstOk n) (hc : c.Ok) (K : List (Int × Ch)) (hK : ∀ p ∈ K, TermOk n c p.2) (hl : K.length ≤ 100) {b e : Int} (hb : n ≤ b ∧ b ≤ e ∧ e ≤ beg n c 60) (S : Sto) :
    ∃ ds : List Int, F_days_k42 [.p (.list (K.map nuD)), .p (.list ((iR 0 61).map fun k => .int (beg n c k))), .p (.int b), .p (.int e)] S = .ok (.p (.list (ds.map .int))) S ∧ ∀ d ∈ ds, b ≤ d ∧ d < e := by
  have h60 := beg60 hn hc
  have hn0 := hn.1
  by_cases h : e - b ≤ 130
  · refine ⟨iR b e, ?_, fun d hd => mem_iR.mp hd⟩
    have hle : (iR b e).length ≤ 16777216 := by rw [len_iR]; omega
    have hle2 : (e - b).toNat ≤ 16777216 := by omega
    simp [F_days_k42, M_days_k42, initE, h, hle, hle2, show -1000000000 ≤ b by omega, show b ≤ 1000000000 by omega, show -1000000000 ≤ e by omega, show e ≤ 1000000000 by omega, show e - b ≤ 16777216 by omega, Function.comp_def]
  · obtain ⟨ds, e1, l1⟩ := days_loop2 hn hc (some (.p (.list (K.map nuD)))) (some (.p (.int b))) (some (.p (.int e))) S K [b, e - 1] hK (by simp; omega)
    have e2 := fun (a0 a1 : Option Vl) => lcG_filter (g := gNm 7) (c := mChain leV ltV (mVar 2) (mVar 7) (mVar 3)) (a := mVar 7) (e := [a0, a1, some (.p (.int b)), some (.p (.int e)), some (.p (.list (ds.map .int))), none, none, none]) (S := S) (fun d : Int => .p (.int d)) (fun d => .p (.int d)) (fun d => decide (b ≤ d) && decide (d < e)) ds fun d _ => ⟨_, rfl, by
      by_cases q1 : b ≤ d <;> by_cases q2 : d < e <;> simp [q1, q2], fun _ => by simp⟩
    have l2 : (ds.filter fun d => decide (b ≤ d) && decide (d < e)).length ≤ 16777216 := Nat.le_trans (List.length_filter_le _ _) (by omega)
    refine ⟨ds.filter fun d => decide (b ≤ d) && decide (d < e), ?_, fun d hd => by have := (List.mem_filter.mp hd).2; simpa using this⟩
    simp [Function.comp_def] at e1
    simp [F_days_k42, M_days_k42, initE, h, e1, e2, l2, Function.comp_def]
theorem right_k42 {n : Int} {c : Cy} (hn : FirstOk n) (hc : c.Ok) (K : List (Int × Ch)) (hK : ∀ p ∈ K, TermOk n c p.2) (hl : K.length ≤ 100) {b e : Int} (hb : n ≤ b ∧ b ≤ e ∧ e ≤ beg n c 60) {F : List Str3} (h : Seg (K.map (toR n c)) b F e) (ha : ∀ x ∈ prs F, x.1.2.2 ≠ x.2.2.2) (hlF : F.length ≤ 1000) (j : Nat) (S : Sto) (hj : entL S j = some (F.map fun p => .p (s3D p))) :
    F_right_k42 [.r j, .p (.list (K.map nuD)), .p (.list ((iR 0 61).map fun k => .int (beg n c k))), .p (.int b), .p (.int e)] S = .ok (.p (.bool true)) S := by
  have hG : gOk [(j, F.map fun p => Vl.p (s3D p))] S := by rw [gOk_one]; exact hj
  have e1 := lie_ok h ha hlF j S hj
  obtain ⟨ds, e2, h2⟩ := days42_ok hn hc K hK hl hb S
  have et := tyN_lst hj
  have e3 := loop_const (g := gNm 5) (b := M_right_k42_b1) (fun d : Int => .p (.int d)) (e := [some (.r j), some (.p (.list (K.map nuD))), some (.p (.list ((iR 0 61).map fun k => .int (beg n c k)))), some (.p (.int b)), some (.p (.int e)), none, none, none]) (S := S) ds fun d hd => by
    have hd2 := h2 d hd
    obtain ⟨p, Q, q1, q2⟩ := h.at hd2.1 hd2.2
    have e4 := lcGp_filter (gd := [(j, F.map fun p => Vl.p (s3D p))]) (g := gNm 7) (c := mChain leV ltV (m2 ixV (mVar 7) (mC (.int 0))) (mVar 5) (m2 ixV (mVar 7) (mC (.int 1)))) (a := m2 ixV (mVar 7) (mC (.int 2))) (e := [some (.r j), some (.p (.list (K.map nuD))), some (.p (.list ((iR 0 61).map fun k => .int (beg n c k)))), some (.p (.int b)), some (.p (.int e)), some (.p (.int d)), none, none]) (S := S) (fun p : Str3 => .p (s3D p)) (fun p => .p p.2.2) (fun p => decide (p.1 ≤ d) && decide (d < p.2.1)) hG F fun p _ => ⟨_, rfl, by
      obtain ⟨x, y, s⟩ := p
      by_cases h1 : x ≤ d <;> by_cases h2 : d < y <;> simp [-atI_ofNat, atI_c1, s3D, h1, h2], fun _ => by obtain ⟨x, y, s⟩ := p; simp [-atI_ofNat, atI_c2, s3D]⟩
    rw [q1] at e4
    have t2 := state_k41 hn hc K hK d S
    have hQ : Q.length ≤ 1000 := by
      have := congrArg List.length q1
      have h3 := List.length_filter_le (fun p : Str3 => decide (p.1 ≤ d) && decide (d < p.2.1)) F
      simp only [List.length_cons] at this
      omega
    obtain ⟨u, v, w, hst, hu⟩ := stD_parts d (K.map (toR n c))
    have qn : neV (.p (stD d (K.map (toR n c)))) (.p (stD d (K.map (toR n c)))) S = .ok (.p (.bool false)) S := by
      rw [neV_pln S (pln_79 (pln_st _ _)) (pln_79 (pln_st _ _))]
      simp
    have ww := whole_k10 v S
    refine ⟨_, rfl, ?_⟩
    rw [List.map_cons, q2] at e4
    rw [hst] at e4 t2 qn
    simp [-atI_ofNat, atI_c1, M_right_k42_b1, hj, e4, t2, qn, ww, show Q.length + 1 ≤ 16777216 by omega, Function.comp_def]
  simp [F_right_k42, M_right_k42, initE, e1, e2, e3, et, Function.comp_def]
end PV

namespace PV
open PySem L2
theorem lstOf_r (k : Nat) (S : Sto) (vs : List Vl) (h : entL S k = some vs) : lstOfF (.r k) S = lstF vs S := by
  show (match asQ S (.r k) with
    | some vs => lstF vs S
    | none => .bad) = _
  unfold asQ
  rw [asL_r, h]
theorem fdL_map (G : List Str3) : fdL G = (G.reverse).map fun p => Vl.p (s3D p) := by unfold fdL; rw [List.map_reverse]
theorem seg_bb {rows : List Rw} {b : Int} : ∀ {G : List Str3} {e : Int}, SegR rows b G e → b ≤ e ∧ (G ≠ [] → b < e)
  | [], e, h => ⟨Int.le_of_eq (show e = b from h).symm, fun z => absurd rfl z⟩
  | p :: G, e, h => by
    have := (seg_bb h.2.2.2.2).1
    have := h.2.1
    exact ⟨by omega, fun _ => by omega⟩
theorem turn_k42 {ps : List Pl} {n : Int} {c : Cy} (hn : FirstOk n) (hc : c.Ok) (K : List (Int × Ch)) (hK : ∀ p ∈ K, TermOk n c p.2) (hl : K.length ≤ 100) {ns : List Int} (hns : ns.length ≤ 63) (a3 : Option Vl) (t : Int) (ht : 0 ≤ t ∧ t < 2) (S : Sto) :
    ∃ S2, M_law_k42_b1 [some (.p (.list (ns.map .int))), some (.p (acctD ps n c)), some (.p (.list ((iR 0 61).map fun k => .int (beg n c k)))), a3, some (.p (.list (K.map nuD))), some (.p (.int t)), none, none, none, none, none, none] S
      = .nx [some (.p (.list (ns.map .int))), some (.p (acctD ps n c)), some (.p (.list ((iR 0 61).map fun k => .int (beg n c k)))), a3, some (.p (.list (K.map nuD))), none, none, none, none, none, none, none] S2 := by
  have c4 := cell_at_k02 (ns := ns) (i := 4 + t) S (by omega) hns
  have c5 := cell_at_k02 (ns := ns) (i := 5 - t) S (by omega) hns
  obtain ⟨b, e, e1, hb⟩ := two_k42 hn hc K hK hl (cellAt ns (4 + t)) (cellAt ns (5 - t)) S
  obtain ⟨G, e2, g1, g2, g3⟩ := stretches_ok (ps := ps) hn hc K hK hl b e hb.2.1
  obtain ⟨G0, e3, h1, h2, h3⟩ := stretches_ok (ps := ps) hn hc K hK hl b b (Int.le_refl _)
  have hG0 : G0 = [] := by
    by_cases z : G0 = []
    · exact z
    · have := (seg_bb h1).2 z
      omega
  subst hG0
  have hf := fdL_map G
  have hp := fd_pures G
  have e4 := right_k42 hn hc K hK hl hb g1.fwd g1.adj (by rw [List.length_reverse]; omega) S.length (S ++ [.lst (fdL G)]) (by rw [entL_app, hf])
  have hlen : (fdL G).length ≤ 16777216 := by rw [hf, List.length_map, List.length_reverse]; omega
  have e5 : lstOfF (.r S.length) (S ++ [.lst (fdL G)]) = .ok (.p (.list (G.map s3D).reverse)) (S ++ [.lst (fdL G)]) := by
    rw [lstOf_r _ _ _ (entL_app S _)]
    rw [show fdL G = ((G.map s3D).reverse).map Vl.p by rw [hf, ← List.map_reverse, List.map_map]; rfl]
    exact lstF_pl _ _ (by simp; omega)
  have e6 : oClear (.r S.length) [] (S ++ [.lst (fdL G)]) = .ok (.p .none) (S ++ [.lst []]) := by
    show (match entL (S ++ [Ent.lst (fdL G)]) S.length with
      | some _ => R.ok (Vl.p .none) ((S ++ [Ent.lst (fdL G)]).set S.length (.lst []))
      | none => .bad) = _
    rw [entL_app]
    simp
  have hq : pln 9 (.list (G.map s3D).reverse) = true := by
    simp [s3D]
    exact fun a b c h => g2 _ h
  have e7 : ∀ S2 : Sto, neV (.r S2.length) (.p (.list (G.map s3D).reverse)) (S2 ++ [.lst (fdL G)]) = .ok (.p (.bool false)) (S2 ++ [.lst (fdL G)]) := fun S2 => by
    have h : datL (S2 ++ [.lst (fdL G)]) (.r S2.length) = some (.list (G.map s3D).reverse) := by
      show (match entL (S2 ++ [.lst (fdL G)]) S2.length with
        | some vs => (pures vs).map PyData.list
        | none => none) = _
      rw [entL_app]
      show (pures (fdL G)).map PyData.list = _
      rw [hp]
      rfl
    rw [neV_dat h, neV_pln _ hq hq]
    simp
  have e8 := fun S2 : Sto => fd_ne S2 [] (by simp)
  have q := neV_pln (d := .list (K.map nuD)) (e := .list (K.map nuD)) (S ++ [.lst (fdL G)]) (pln_nus K) (pln_nus K)
  have lK : K.length ≤ 16777216 := by omega
  have fdn : fdL [] = [] := rfl
  rw [fdn] at e3 e8
  generalize fdL G = V at *
  generalize (G.map s3D).reverse = W at *
  have e7a := e7 (S ++ [.lst []])
  have e8a := e8 (S ++ [.lst []] ++ [.lst V])
  have e2a := e2 (S ++ [.lst []])
  have e3a := e3 (S ++ [.lst []] ++ [.lst V])
  simp only [List.append_assoc, List.cons_append, List.nil_append, List.length_append, List.length_cons, List.length_nil] at e7a e8a e2a e3a
  unfold acctD at *
  refine ⟨S ++ [Ent.lst [], Ent.lst V, Ent.lst []], ?_⟩
  simp [M_law_k42_b1, c4, c5, e1, e2, e2a, e3a, e4, e5, e6, e7a, e8a, q, lK, Function.comp_def]
theorem law_true_k42 (ns : List Int) (hl : ns.length ≤ 63) (hb : ∀ z ∈ ns, Builtin.Int.intBits z ≤ 1048576) : F_law_k42 [.p (.list (ns.map PyData.int))] [] = .ok (.p (.bool true)) [] := by
  obtain ⟨ps, n, c, e1, h1⟩ := account_k30 hl hb []
  have hn := h1.first
  have hc := h1.cy
  have e2 := begins_k20 (N := 60) [] hn hc (by decide)
  have c3 := cell_at_k02 (ns := ns) (i := 3) [] (by decide) hl
  obtain ⟨es, e3, h3, l3⟩ := listed_k32 hn hc (ps.map (·.name)) (by rw [List.length_map]; exact ⟨h1.l1, h1.l8⟩) (ns.drop 6) (by rw [List.length_drop]; omega) (cellAt ns 3) []
  have e4 := fun e (he : e.length = 12) => lcG_map (g := gNm 11) (a := m2 ixV (mVar 11) (mC (.int 0))) (e := e) (S := []) (fun p : Pl => .p p.d) (fun p => .p (.str (T p.name))) ps fun p _ => ⟨_, rfl, by simp [Pl.d, he]⟩
  have l1 : ps.length ≤ 16777216 := by have := h1.l8; omega
  have l2 : es.length ≤ 16777216 := by omega
  have l4 : ns.length ≤ 16777216 := by omega
  have l7 : ns.length ≤ 16777222 := by omega
  have b1 := atI_bgL n c
  have e6 := known_k34 h3 (by omega) (beg n c 60) []
  have hK := trm_ok h3 (beg n c 60)
  have lK := trm_len h3 (beg n c 60)
  generalize trm (beg n c 60) [] 0 es = K at *
  obtain ⟨e7, S7, e8, h8⟩ := loop_nx (g := gNm 5) (b := M_law_k42_b1) (vs := (iR 0 2).map fun k => Vl.p (.int k)) (e := [some (.p (.list (ns.map PyData.int))), some (.p (acctD ps n c)), some (.p (.list ((iR 0 61).map fun k => .int (beg n c k)))), some (.p (.list (es.map enD))), some (.p (.list (K.map nuD))), none, none, none, none, none, none, none]) (S := [])
    (fun e _ => e = [some (.p (.list (ns.map PyData.int))), some (.p (acctD ps n c)), some (.p (.list ((iR 0 61).map fun k => .int (beg n c k)))), some (.p (.list (es.map enD))), some (.p (.list (K.map nuD))), none, none, none, none, none, none, none]) rfl fun v hv e S he => by
      subst he
      obtain ⟨t, ht, rfl⟩ := List.mem_map.mp hv
      obtain ⟨S2, h⟩ := turn_k42 (ps := ps) hn hc K hK (by omega) hl (some (.p (.list (es.map enD)))) t (mem_iR.mp ht) S
      exact ⟨_, S, _, S2, rfl, h, rfl⟩
  subst h8
  unfold acctD at *
  simp [Function.comp_def] at e3
  simp [-atI_ofNat, -atI_m1, atI_c1, atI_c2, F_law_k42, M_law_k42, initE, e1, e2, e3, e4, e6, e8, c3, b1, l1, l2, l4, l7, Function.comp_def]
end PV

open PySem PySem.W PySem.Calls PyProof.Rows
theorem PySem.Challenge.cw_paidspan_k42_stretches_day_by_day_holds : PySem.Challenge.rw_paidspan_k42_stretches_day_by_day.Holds := by
  w_on; o_law
  refine HandSHeadRun.head_any (r := OpenLaw.row PySem.Challenge.rw_paidspan_k42_stretches_day_by_day) (q := view (OpenLaw.row PySem.Challenge.rw_paidspan_k42_stretches_day_by_day).prog [60]) (H := PV.K42.hk) (ob := PV.K42.ob) (M := 30000) (loose := PV.K42.names) (d := HandSHeadRun.topDef (OpenLaw.row PySem.Challenge.rw_paidspan_k42_stretches_day_by_day).prog 60) (kwd := []) PV.K42.ob_eq
    (by kernel_rfl) (fun s => by kernel_rfl) PV.K42.run (by kernel_rfl) (by kernel_rfl) (by kernel_rfl) (by rfl) (by first | assumption | decide +kernel) (by decide +kernel) ⟨rfl, rfl, rfl, rfl, rfl, by decide +kernel⟩ ?hw ?hc
  case hw => w_witness2
  case hc =>
    refine PV.walk_end (x := "_law_script") (n := 63) (k := 11) rfl (by decide) (by kernel_rfl) ⟨rfl, by decide, by decide⟩ ?F PV.law_true_k42
    intro w mg fa h Y G hmg0
    obtain ⟨K, KX, c⟩ := Y
    have hmg : mg ("law" : PySem.Str) = some (.ref fa) := by
      have e : (HandSHeadRun.topDef (OpenLaw.row PySem.Challenge.rw_paidspan_k42_stretches_day_by_day).prog 60).name = ("law" : PySem.Str) := by kernel_rfl
      rw [← e]
      exact hmg0
    obtain ⟨K', fd, z⟩ := PV.Tx.end_ (x := "_law_script") PV.K42.d_law c KX G hmg 47 rfl (j := 73) rfl rfl rfl rfl (fun _ _ _ _ _ _ us hl => match us, hl with | [_], _ => rfl) fun base T a fd F => PV.K42.O_law T F
    exact ⟨K', fd, z⟩
