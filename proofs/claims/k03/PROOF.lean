import PyProof.Rows.All
import Wide.All
import OpenK.AllK
import Wide.FinOn
import HandS.ForMost
import HandS.ForExc
import HandS.Wide
import HandS.TupAny
import HandS.TupMul
import HandS.IsInst
import HandS.Deep
import HandS.Style
import HandS.CallSlots
import KE.SortData
import KE.KeyNested
import KE.KDictKeyed
import HandS.TupLen
import HandS.Comp
import HandS.Exc
import KE.GoesRaise
import HandS.Defaults
import HandS.SetFor
import HandS.Strs
import HandS.SetTxt0
import HandS.Conv
import HandS.More
import HandS.NoneIn
import HandS.Small
import HandS.TryOnly
import HandS.WordsExc
import HandS.Ends
import HandS.ExcOwn
import PySem.Challenge.RW_reelhouse_k03_whole_codes_there_and_back
set_option Elab.async false
set_option linter.all false
set_option maxRecDepth 100000
set_option maxHeartbeats 4000000
set_option maxRecDepth 100000
/-! The mini language and its meaning over data (no heap): RH. -/
namespace RH
open PySem L2

abbrev D := PyData
/-- how a slot holds its thing: for good (never changed any more), as its own (it may be changed), lent (may be read alone) -/
inductive Md where | frz | own | lck
  deriving DecidableEq
structure SV where
  md : Md
  d : D
abbrev EnvD := List (Option SV)
abbrev fz (d : D) : SV := ⟨.frz, d⟩
abbrev ow (d : D) : SV := ⟨.own, d⟩

inductive R (α : Type) where
  | ok (a : α)
  | exc (c : Str) (σ : EnvD)
  | bad
def R.bind {α β : Type} : R α → (α → R β) → R β
  | .ok a, f => f a
  | .exc c σ, _ => .exc c σ
  | .bad, _ => .bad
@[simp] theorem R.bind_ok {α β : Type} (a : α) (f : α → R β) : (R.ok a).bind f = f a := rfl
@[simp] theorem R.bind_exc {α β : Type} (c : Str) (σ : EnvD) (f : α → R β) : (R.exc c σ : R α).bind f = .exc c σ := rfl
@[simp] theorem R.bind_bad {α β : Type} (f : α → R β) : (R.bad : R α).bind f = .bad := rfl

/-- what a call gives: its value, and what its parameters hold then -/
inductive RF where
  | ok (sv : SV) (outs : EnvD)
  | exc (c : Str) (outs : EnvD)
  | bad

inductive Ty where | int | bool | str | tuple | list
  deriving DecidableEq
/-- operations by values -/
inductive Op where
  | add | sub | mul | fdiv | mod | pow | neg
  | lt | le | gt | ge | eq | ne | isin | notin
  | isN | notN | isB | notB
  | ix | slRev | slTwo
  | len | abs | min2 | max2 | maxL | minL | sum | all | any
  | sorted | sortedSet | lenSet | list | tuple | int | str | divmod
  | lrng1 | lrng2
  | isinst (t : Ty)
  deriving DecidableEq

/-- a target -/
inductive MP where
  | name (i : Nat)
  | tup (ps : List MP)
mutual
inductive ME where
  | var (i : Nat)
  | cst (d : D)
  | glo (x : Str)
  | op (o : Op) (es : MEs)
  | and (a b : ME)
  | or (a b : ME)
  | not (a : ME)
  | chain (o1 o2 : Op) (a b c : ME)
  | ife (c a b : ME)
  | tup (es : MEs)
  | lst (es : MEs)
  | dct (es : MEs)
  | call (f : Str) (es : MEs)
  | comp (own : List Nat) (p : MP) (it : MI) (cs : MEs) (e : ME)
  | meth (m : Str) (i : Nat) (es : MEs)
  | getd (o k x : ME)
  | join (o e : ME)
  | slice (a l h : ME)
inductive MEs where
  | nil
  | cons (e : ME) (es : MEs)
/-- what a loop goes through -/
inductive MI where
  | seq (e : ME)
  | rng1 (b : ME)
  | rng2 (a b : ME)
  | rng3 (a b c : ME)
  | enum (e : ME)
  | zip (a b : ME)
  | items (e : ME)
end
mutual
inductive MS where
  | expr (e : ME)
  | set (i : Nat) (e : ME)
  | setp (p : MP) (e : ME)
  | par (is : List Nat) (es : MEs)
  | aug (i : Nat) (o : Op) (e : ME)
  | put (i : Nat) (k e : ME)
  | putS (i : Nat) (lo hi e : ME)
  | ret (e : ME)
  | ret0
  | ifs (c : ME) (a b : MSs)
  | while (c : ME) (b : MSs)
  | for (p : MP) (it : MI) (b : MSs)
  | raise (c : Str)
  | try1 (b : MSs) (c : Str) (tab : List (Str × Bool)) (h : MSs)
  | pass
  | brk
  | cont
inductive MSs where
  | nil
  | cons (s : MS) (ss : MSs)
end

/-! ### operations over data -/
def dTy : D → Ty → Bool
  | .int _, .int => true
  | .bool _, .int => true
  | .bool _, .bool => true
  | .str _, .str => true
  | .tuple _, .tuple => true
  | .list _, .list => true
  | _, _ => false
def dlen : D → Option Nat
  | .str x => some x.length
  | .list xs => some xs.length
  | .tuple xs => some xs.length
  | .dict kvs => some kvs.length
  | _ => none
/-- data that == and < may be asked of -/
def okD (d : D) : Bool := SeqAt.shaped d
def ints? : List D → Option (List Int)
  | [] => some []
  | .int i :: r => (ints? r).map (i :: ·)
  | _ => none
def bools? : List D → Option (List Bool)
  | [] => some []
  | .bool b :: r => (bools? r).map (b :: ·)
  | _ => none
def strs? : List D → Option (List Str)
  | [] => some []
  | .str x :: r => (strs? r).map (x :: ·)
  | _ => none
/-- a dict's key: a number or a text -/
def key? : D → Option Key
  | .int i => some (.inl i)
  | .str x => some (.inr x)
  | _ => none
def keyD : Key → D
  | .inl i => .int i
  | .inr x => .str x
mutual
/-- a tuple's part as a key (no truths) -/
def nk? : D → Option NestedKey
  | .none => some .none
  | .int i => some (.num i)
  | .str x => some (.text x)
  | .tuple ds => (nks? ds).map .tup
  | .bool _ => none
  | .list _ => none
  | .dict _ => none
def nks? : List D → Option (List NestedKey)
  | [] => some []
  | d :: ds => (nk? d).bind fun k => (nks? ds).map (k :: ·)
end
/-- a dict's key that is a tuple -/
def tk? : D → Option NestedKey
  | .tuple ds => (nk? (.tuple ds)).bind fun k => if k.depth ≤ 8 then some k else none
  | _ => none
theorem tk_of {d : D} {k : NestedKey} (h : tk? d = some k) : (∃ ds, d = .tuple ds) ∧ nk? d = some k ∧ k.depth ≤ 8 := by
  unfold tk? at h
  split at h
  · obtain ⟨k', e1, e2⟩ := Option.bind_eq_some_iff.mp h
    by_cases e3 : k'.depth ≤ 8
    · rw [if_pos e3] at e2
      cases e2
      exact ⟨⟨_, rfl⟩, e1, e3⟩
    · rw [if_neg e3] at e2
      cases e2
  · cases h

def dLook (kvs : List (D × D)) (k : Key) : Option D := (kvs.find? fun p => decide (key? p.1 = some k)).map (·.2)
def dPut (kvs : List (D × D)) (k : Key) (v : D) : List (D × D) :=
  if (dLook kvs k).isSome then kvs.map (fun p => if key? p.1 = some k then (p.1, v) else p) else kvs ++ [(keyD k, v)]
/-- all keys are numbers and texts; all are tuples -/
def allK (kvs : List (D × D)) : Bool := kvs.all fun p => (key? p.1).isSome
def allT (kvs : List (D × D)) : Bool := kvs.all fun p => (tk? p.1).isSome
def tLook (kvs : List (D × D)) (k : NestedKey) : Option D := (kvs.find? fun p => decide (tk? p.1 = some k)).map (·.2)
def tPut (kvs : List (D × D)) (kd : D) (k : NestedKey) (v : D) : List (D × D) :=
  if (tLook kvs k).isSome then kvs.map (fun p => if tk? p.1 = some k then (p.1, v) else p) else kvs ++ [(kd, v)]
/-- a dict's value at a key; none: there is none such, or it may not be asked -/
def dAt (kvs : List (D × D)) (k : D) : Option (Option D) := match key? k with
  | some k => if allK kvs then some (dLook kvs k) else none
  | none => (tk? k).bind fun k => if allT kvs then some (tLook kvs k) else none
def cutD (xs : List D) (lo hi : Option Int) : List D := (xs.drop (HT.sIx xs.length 0 lo)).take (HT.sIx xs.length xs.length hi - HT.sIx xs.length 0 lo)
def optI : Option D → Option (Option Int)
  | none => some none
  | some (.int i) => some (some i)
  | _ => none
def slD (x : D) (lo hi : Option Int) : Option SV := match x with
  | .list xs => some (ow (.list (cutD xs lo hi)))
  | .tuple xs => some (fz (.tuple (cutD xs lo hi)))
  | .str z => if z.length ≤ sizeLine then some (fz (.str (cutS z lo hi))) else none
  | _ => none
def i62 (i : Int) : Bool := decide (-(2 ^ 62) ≤ i) && decide (i < 2 ^ 62)
def dAdd : List D → Option SV
  | [.int a, .int b] => some (fz (.int (a + b)))
  | [.str a, .str b] => if a.length + b.length ≤ sizeLine then some (fz (.str (a ++ b))) else none
  | [.tuple a, .tuple b] => if a.length + b.length ≤ sizeLine then some (fz (.tuple (a ++ b))) else none
  | [.list a, .list b] => if a.length + b.length ≤ sizeLine then some (ow (.list (a ++ b))) else none
  | _ => none
def dII (f : Int → Int → Option D) : List D → Option SV
  | [.int a, .int b] => (f a b).map fz
  | _ => none
/-- sizes of numbers, as powers of two -/
@[irreducible] def bigBits : Nat := 100000
@[irreducible] def divBits : Nat := 9000
def isNoneD : D → Bool
  | .none => true
  | _ => false
def dMul : List D → Option SV
  | [.int a, .int b] => if a.natAbs < 2 ^ bigBits ∧ b.natAbs < 2 ^ bigBits then some (fz (.int (a * b))) else none
  | [.list a, .int b] => if 0 ≤ b ∧ b < 2 ^ 62 ∧ a.length * b.toNat ≤ sizeLine then some (ow (.list (List.replicate b.toNat a).flatten)) else none
  | _ => none
def dFdiv (a b : Int) : Option D := if 0 < b ∧ b.natAbs < 2 ^ divBits then some (.int (a / b)) else none
def dMod (a b : Int) : Option D := if b ≠ 0 then some (.int (a.fmod b)) else none
def dPow (a b : Int) : Option D := if 0 ≤ b ∧ b ≤ 1000000 ∧ a.natAbs < 2 ^ 64 then some (.int (a ^ b.toNat)) else none
def dNeg : List D → Option SV
  | [.int a] => some (fz (.int (-a)))
  | _ => none
def dEq (neg : Bool) : List D → Option SV
  | [a, b] => if okD a && okD b then some (fz (.bool (PyData.eqv a b != neg))) else none
  | _ => none
def dIsN (neg : Bool) : List D → Option SV
  | [a] => some (fz (.bool (isNoneD a != neg)))
  | _ => none
def dIsB (neg : Bool) : List D → Option SV
  | [.bool a, .bool b] => some (fz (.bool (decide (a = b) != neg)))
  | _ => none
def dIn (neg : Bool) : List D → Option SV
  | [a, .list b] => if okD a && okD (.list b) then some (fz (.bool ((b.any fun z => PyData.eqv z a) != neg))) else none
  | [a, .tuple b] => if okD a && okD (.tuple b) then some (fz (.bool ((b.any fun z => PyData.eqv z a) != neg))) else none
  | [a, .dict kvs] => (dAt kvs a).map fun o => fz (.bool (o.isSome != neg))
  | [.str a, .str b] => match a.cps.toList with
    | [c] => some (fz (.bool (decide (c ∈ b.cps.toList) != neg)))
    | _ => none
  | _ => none
def dIx : List D → Option SV
  | [.list xs, .int i] => (atI xs i).map fz
  | [.tuple xs, .int i] => (atI xs i).map fz
  | [.str z, .int i] => if z.length ≤ sizeLine then (atI z.cps.toList i).map fun c => fz (.str ⟨#[c]⟩) else none
  | [.dict kvs, k] => (dAt kvs k).bind fun o => o.map fz
  | _ => none
def dRev : List D → Option SV
  | [.list xs] => some (ow (.list xs.reverse))
  | _ => none
def dLen : List D → Option SV
  | [a] => match dlen a with
    | some n => if n ≤ sizeLine then some (fz (.int n)) else none
    | none => none
  | _ => none
def dAbs : List D → Option SV
  | [.int a] => some (fz (.int (if a < 0 then -a else a)))
  | _ => none
def dInts (f : List Int → Option D) : List D → Option SV
  | [.list xs] => (ints? xs).bind fun l => (f l).map fz
  | _ => none
def dBools (f : List Bool → Bool) : List D → Option SV
  | [.list xs] => (bools? xs).map fun l => fz (.bool (f l))
  | _ => none
def dList : List D → Option SV
  | [.list xs] => some (ow (.list xs))
  | [.tuple xs] => some (ow (.list xs))
  | _ => none
def dTuple : List D → Option SV
  | [.list xs] => some (fz (.tuple xs))
  | [.tuple xs] => some (fz (.tuple xs))
  | _ => none
def dInt : List D → Option SV
  | [.int i] => some (fz (.int i))
  | [.bool b] => some (fz (.int (if b = true then 1 else 0)))
  | [.str a] => if a.length ≤ 640 then (intText? a).map fun n => fz (.int n) else none
  | _ => none
def dStr : List D → Option SV
  | [.int i] => if i.natAbs.log2 < 1920 then some (fz (.str (toString i : String))) else none
  | _ => none
def dDivmod (a b : Int) : Option D := if 0 < b ∧ b < 1073741824 then some (.tuple [.int (a / b), .int (a % b)]) else none
def dIsi (t : Ty) : List D → Option SV
  | [a] => some (fz (.bool (dTy a t)))
  | _ => none
def dGet : List D → Option SV
  | [.dict kvs, k, x] => (dAt kvs k).map fun o => fz (o.getD x)
  | _ => none
def dJoin : List D → Option SV
  | [.str a, .list xs] => (strs? xs).bind fun ys => if (ys.map (·.length)).sum + ys.length * a.length ≤ 16777216 then some (fz (.str (Txt.join a ys))) else none
  | _ => none
/-- lists that may be sorted: items that are alike -/
def neTup : D → Bool
  | .tuple (_ :: _) => true
  | _ => false
def notNT : D → Bool
  | .none => false
  | .tuple _ => false
  | _ => true
def sortOk (xs : List D) : Bool := (xs.all fun a => xs.all fun b => PySem.W.alike a b) && (xs.all neTup || xs.all notNT) && xs.all okD && decide (xs.length ≤ sizeLine)
def sortD (xs : List D) : List D := xs.mergeSort (PySem.W.dataLe false id)
def dSorted : List D → Option SV
  | [.list xs] => if sortOk xs = true then some (ow (.list (sortD xs))) else none
  | _ => none
/-- the greatest and the least of some numbers -/
def maxI : List Int → Option Int
  | [] => none
  | x :: l => some (l.foldl (fun a b => if a < b then b else a) x)
def minI : List Int → Option Int
  | [] => none
  | x :: l => some (l.foldl (fun a b => if b < a then b else a) x)
/-- sorted(set(numbers)) -/
def insI (k : Int) : List Int → List Int
  | [] => [k]
  | x :: l => if k < x then k :: x :: l else if k = x then x :: l else x :: insI k l
def isort (l : List Int) : List Int := l.foldr insI []
/-- texts by their signs -/
def leS (a b : Str) : Bool := decide (a.cps.toList ≤ b.cps.toList)
def dSortSet : List D → Option SV
  | [.list xs] => match ints? xs with
    | some l => if l.length < 64 then some (ow (.list ((isort l).map PyData.int))) else none
    | none => (strs? xs).bind fun l => if l.length < 4000 ∧ l.Nodup then some (ow (.list ((l.mergeSort leS).map PyData.str))) else none
  | _ => none
/-- list(range(a, b)) -/
def rgD (a b : Int) : List D := (List.range (b - a).toNat).map fun (i : Nat) => PyData.int (a + (i : Int))
def dLrng (a b : Int) : Option SV := if i62 a && i62 b && decide ((b - a).toNat ≤ 16777216) then some (ow (.list (rgD a b))) else none
def dLrng1 : List D → Option SV
  | [.int b] => dLrng 0 b
  | _ => none
def dLrng2 : List D → Option SV
  | [.int a, .int b] => dLrng a b
  | _ => none
def opD (o : Op) (ds : List D) : Option SV := match o with
  | .add => dAdd ds
  | .sub => dII (fun a b => some (.int (a - b))) ds
  | .mul => dMul ds
  | .fdiv => dII dFdiv ds
  | .mod => dII dMod ds
  | .pow => dII dPow ds
  | .neg => dNeg ds
  | .lt => dII (fun a b => some (.bool (decide (a < b)))) ds
  | .le => dII (fun a b => some (.bool (decide (a ≤ b)))) ds
  | .gt => dII (fun a b => some (.bool (decide (b < a)))) ds
  | .ge => dII (fun a b => some (.bool (decide (b ≤ a)))) ds
  | .eq => dEq false ds
  | .ne => dEq true ds
  | .isin => dIn false ds
  | .notin => dIn true ds
  | .isN => dIsN false ds
  | .notN => dIsN true ds
  | .isB => dIsB false ds
  | .notB => dIsB true ds
  | .ix => dIx ds
  | .slRev => dRev ds
  | .slTwo => none
  | .len => dLen ds
  | .abs => dAbs ds
  | .min2 => dII (fun a b => some (.int (if b < a then b else a))) ds
  | .max2 => dII (fun a b => some (.int (if b > a then b else a))) ds
  | .maxL => dInts (fun l => (maxI l).map PyData.int) ds
  | .minL => dInts (fun l => (minI l).map PyData.int) ds
  | .sum => dInts (fun l => some (.int l.sum)) ds
  | .all => dBools (·.all id) ds
  | .any => dBools (·.any id) ds
  | .sorted => dSorted ds
  | .sortedSet => dSortSet ds
  | .lenSet => none
  | .list => dList ds
  | .tuple => dTuple ds
  | .int => dInt ds
  | .str => dStr ds
  | .divmod => dII dDivmod ds
  | .lrng1 => dLrng1 ds
  | .lrng2 => dLrng2 ds
  | .isinst t => dIsi t ds
end RH
set_option maxRecDepth 100000
/-! The meaning of the mini language. -/
namespace RH
open PySem L2

/-- no exception is known of here -/
def R.noX {α : Type} : R α → R α
  | .exc _ _ => .bad
  | r => r
def R.onX {α : Type} (f : EnvD → EnvD) : R α → R α
  | .exc c σ => .exc c (f σ)
  | r => r
@[simp] theorem R.noX_ok {α : Type} (a : α) : (R.ok a).noX = .ok a := rfl
@[simp] theorem R.noX_exc {α : Type} (c : Str) (σ : EnvD) : (R.exc c σ : R α).noX = .bad := rfl
@[simp] theorem R.noX_bad {α : Type} : (R.bad : R α).noX = .bad := rfl
@[simp] theorem R.onX_ok {α : Type} (f : EnvD → EnvD) (a : α) : (R.ok a).onX f = .ok a := rfl
@[simp] theorem R.onX_exc {α : Type} (f : EnvD → EnvD) (c : Str) (σ : EnvD) : (R.exc c σ : R α).onX f = .exc c (f σ) := rfl
@[simp] theorem R.onX_bad {α : Type} (f : EnvD → EnvD) : (R.bad : R α).onX f = .bad := rfl
/-- an operand: a value, or a slot (read when the operation is done) -/
inductive Opd where
  | val (sv : SV)
  | slot (i : Nat)
def slotAt (σ : EnvD) (i : Nat) : Option SV := (σ[i]?).join
def getO (σ : EnvD) : Opd → Option SV
  | .val sv => some sv
  | .slot i => slotAt σ i
def getOs (σ : EnvD) : List Opd → Option (List SV)
  | [] => some []
  | o :: os => (getO σ o).bind fun x => (getOs σ os).map (x :: ·)
/-- the slots that are handed over, no slot twice -/
def ownSlots (σ : EnvD) : List Opd → List Nat
  | [] => []
  | .slot i :: os => (match slotAt σ i with | some ⟨.frz, _⟩ => [] | _ => [i]) ++ ownSlots σ os
  | .val _ :: os => ownSlots σ os
def setOwn (σ : EnvD) (i : Nat) (o : Option SV) : EnvD := match slotAt σ i with
  | some ⟨.own, _⟩ => σ.set i o
  | _ => σ
def putOuts (σ : EnvD) : List Opd → EnvD → EnvD
  | .slot i :: os, o :: outs => putOuts (setOwn σ i o) os outs
  | .val _ :: os, _ :: outs => putOuts σ os outs
  | _, _ => σ
/-- a name read as an operand -/
def rdO (i : Nat) (σ : EnvD) : R (Opd × EnvD) := match slotAt σ i with
  | some ⟨.frz, d⟩ => .ok (.val (fz d), σ)
  | some _ => .ok (.slot i, σ)
  | none => .bad
/-- a name read for its value, which may be kept: it is never changed any more -/
def rdV (i : Nat) (σ : EnvD) : R (SV × EnvD) := match slotAt σ i with
  | some ⟨.frz, d⟩ => .ok (fz d, σ)
  | some ⟨.own, d⟩ => .ok (fz d, σ.set i (some (fz d)))
  | _ => .bad
def isVar : ME → Option Nat
  | .var i => some i
  | _ => none
def wipeD (σ : EnvD) : List Nat → EnvD
  | [] => σ
  | i :: r => wipeD (σ.set i none) r
/-- slots as they were -/
def backD (σ0 σ : EnvD) : List Nat → EnvD
  | [] => σ
  | i :: r => backD σ0 (σ.set i (slotAt σ0 i)) r
mutual
def bindP : MP → D → EnvD → Option EnvD
  | .name i, d, σ => some (σ.set i (some (fz d)))
  | .tup ps, .tuple ds, σ => bindPs ps ds σ
  | .tup _, _, _ => none
def bindPs : List MP → List D → EnvD → Option EnvD
  | [], [], σ => some σ
  | p :: ps, d :: ds, σ => (bindP p d σ).bind (bindPs ps ds)
  | _, _, _ => none
end
def ofOpt {α : Type} : Option α → R α
  | some a => .ok a
  | none => .bad
@[simp] theorem ofOpt_some {α : Type} (a : α) : ofOpt (some a) = .ok a := rfl
@[simp] theorem ofOpt_none {α : Type} : (ofOpt none : R α) = .bad := rfl
def asB (sv : SV) : Option Bool := match sv.d with
  | .bool b => some b
  | _ => none
def asI (sv : SV) : Option Int := match sv.d with
  | .int i => some i
  | _ => none
/-- a bound that is left out -/
def isNoneM : ME → Bool
  | .cst .none => true
  | _ => false
/-- the things a loop goes through, and the slot that is lent meanwhile -/
structure Src where
  items : List D
  lent : List Nat
  held : List Nat
/-- a slot that is walked over is lent -/
def lend (σ : EnvD) : Opd → List Nat
  | .slot i => match slotAt σ i with
    | some ⟨.own, _⟩ => [i]
    | _ => []
  | .val _ => []
def heldO : Opd → List Nat
  | .slot i => [i]
  | .val _ => []
def setMd (m : Md) (σ : EnvD) (i : Nat) : EnvD := match slotAt σ i with
  | some ⟨_, d⟩ => σ.set i (some ⟨m, d⟩)
  | none => σ
def lendAll (σ : EnvD) (l : List Nat) : EnvD := l.foldl (setMd .lck) σ
def unlend (σ : EnvD) (l : List Nat) : EnvD := l.foldl (setMd .own) σ
def seqItems : D → Option (List D)
  | .list xs => some xs
  | .tuple xs => some xs
  | .str z => some (z.cps.toList.map fun c => .str ⟨#[c]⟩)
  | _ => none
def rangeD (lo : Int) (n : Nat) (step : Int) : List D := (List.range n).map fun (i : Nat) => PyData.int (lo + (i : Int) * step)
def enumD : Nat → List D → List D
  | _, [] => []
  | n, x :: xs => .tuple [.int (n : Int), x] :: enumD (n + 1) xs
def zipD : List D → List D → List D
  | x :: xs, y :: ys => .tuple [x, y] :: zipD xs ys
  | _, _ => []

/-- a comprehension's turns -/
def compR (wipe : EnvD → EnvD) (bnd : D → EnvD → Option EnvD) (tst : EnvD → R (Bool × EnvD)) (elt : EnvD → R (SV × EnvD)) : List D → List D → EnvD → R (List D × EnvD)
  | [], acc, σ => .ok (acc, σ)
  | x :: xs, acc, σ => (ofOpt (bnd x (wipe σ))).bind fun σ1 => (tst σ1).bind fun p =>
      if p.1 = true then (elt p.2).bind fun q => if acc.length < sizeLine then compR wipe bnd tst elt xs (acc ++ [q.1.d]) q.2 else .bad
      else compR wipe bnd tst elt xs acc p.2

/-- how a statement ends -/
inductive Fl where
  | nx (σ : EnvD)
  | rt (sv : SV) (σ : EnvD)
  | bk (σ : EnvD)
  | ct (σ : EnvD)
/-- the turns of a for -/
def forR (bnd : D → EnvD → Option EnvD) (body : EnvD → R Fl) : List D → EnvD → R Fl
  | [], σ => .ok (.nx σ)
  | x :: xs, σ => (ofOpt (bnd x σ)).bind fun σ1 => (body σ1).bind fun f => match f with
    | .nx σ2 => forR bnd body xs σ2
    | .ct σ2 => forR bnd body xs σ2
    | .bk σ2 => .ok (.nx σ2)
    | .rt sv σ2 => .ok (.rt sv σ2)
/-- the turns of a while, at most n -/
def whileN (tst : EnvD → R (Bool × EnvD)) (body : EnvD → R Fl) : Nat → EnvD → R Fl
  | 0, _ => .bad
  | n + 1, σ => (tst σ).bind fun p =>
      if p.1 = true then (body p.2).bind fun f => match f with
        | .nx σ2 => whileN tst body n σ2
        | .ct σ2 => whileN tst body n σ2
        | .bk σ2 => .ok (.nx σ2)
        | .rt sv σ2 => .ok (.rt sv σ2)
      else .ok (.nx p.2)
theorem whileN_more {tst : EnvD → R (Bool × EnvD)} {body : EnvD → R Fl} : ∀ (n : Nat) (σ : EnvD), whileN tst body n σ ≠ .bad → whileN tst body (n + 1) σ = whileN tst body n σ
  | 0, _, h => absurd rfl h
  | n + 1, σ, h => by
    rw [whileN]
    conv => rhs; rw [whileN]
    rw [whileN] at h
    cases ht : tst σ with
    | bad => rfl
    | exc c s => rfl
    | ok p =>
      rw [ht] at h
      simp only [R.bind_ok] at h ⊢
      split
      · rename_i hp
        rw [if_pos hp] at h
        cases hb : body p.2 with
        | bad => rfl
        | exc c s => rfl
        | ok f =>
          rw [hb] at h
          simp only [R.bind_ok] at h ⊢
          cases f with
          | nx s => exact whileN_more n s h
          | ct s => exact whileN_more n s h
          | bk s => rfl
          | rt v s => rfl
      · rfl
theorem whileN_le {tst : EnvD → R (Bool × EnvD)} {body : EnvD → R Fl} {n : Nat} {σ : EnvD} (h : whileN tst body n σ ≠ .bad) : ∀ m, n ≤ m → whileN tst body m σ = whileN tst body n σ
  | m, hm => by
    obtain ⟨k, rfl⟩ := Nat.exists_eq_add_of_le hm
    induction k with
    | zero => rfl
    | succ k ih =>
      have e := ih (Nat.le_add_right _ _)
      rw [← Nat.add_assoc, whileN_more (n + k) σ (by rw [e]; exact h), e]
open Classical in
/-- a while: what its turns give, as soon as there are enough of them -/
noncomputable def whileR (tst : EnvD → R (Bool × EnvD)) (body : EnvD → R Fl) (σ : EnvD) : R Fl :=
  if h : ∃ n, whileN tst body n σ ≠ .bad then whileN tst body h.choose σ else .bad
theorem whileR_of {tst : EnvD → R (Bool × EnvD)} {body : EnvD → R Fl} {n : Nat} {σ : EnvD} (h : whileN tst body n σ ≠ .bad) : whileR tst body σ = whileN tst body n σ := by
  have hx : ∃ n, whileN tst body n σ ≠ .bad := ⟨n, h⟩
  unfold whileR
  rw [dif_pos hx]
  rcases Nat.le_total n hx.choose with q | q
  · exact whileN_le h _ q
  · exact (whileN_le hx.choose_spec _ q).symm
theorem whileR_ex {tst : EnvD → R (Bool × EnvD)} {body : EnvD → R Fl} {σ : EnvD} (h : whileR tst body σ ≠ .bad) : ∃ n, whileN tst body n σ = whileR tst body σ ∧ whileN tst body n σ ≠ .bad := by
  unfold whileR at h
  by_cases hx : ∃ n, whileN tst body n σ ≠ .bad
  · exact ⟨_, (whileR_of hx.choose_spec).symm, hx.choose_spec⟩
  · rw [dif_neg hx] at h; exact absurd rfl h
/-- one turn -/
theorem whileR_turn (tst : EnvD → R (Bool × EnvD)) (body : EnvD → R Fl) (σ : EnvD) : whileR tst body σ = (tst σ).bind fun p =>
    if p.1 = true then (body p.2).bind fun f => match f with
      | .nx σ2 => whileR tst body σ2
      | .ct σ2 => whileR tst body σ2
      | .bk σ2 => .ok (.nx σ2)
      | .rt sv σ2 => .ok (.rt sv σ2)
    else .ok (.nx p.2) := by
  have key : ∀ r : R Fl, r ≠ .bad → (∃ n, whileN tst body n σ = r) → whileR tst body σ = r := fun r hr ⟨n, hn⟩ => by
    rw [whileR_of (n := n) (by rw [hn]; exact hr), hn]
  cases ht : tst σ with
  | bad =>
    simp only [R.bind_bad]
    refine Classical.byContradiction fun h => ?_
    obtain ⟨n, e, hb⟩ := whileR_ex h
    cases n with
    | zero => exact hb rfl
    | succ n => rw [whileN, ht] at hb; exact hb rfl
  | exc c s =>
    simp only [R.bind_exc]
    exact key _ (fun z => by cases z) ⟨1, by rw [whileN, ht]; rfl⟩
  | ok p =>
    simp only [R.bind_ok]
    by_cases hp : p.1 = true
    · rw [if_pos hp]
      cases hb : body p.2 with
      | bad =>
        simp only [R.bind_bad]
        refine Classical.byContradiction fun h => ?_
        obtain ⟨n, e, hb'⟩ := whileR_ex h
        cases n with
        | zero => exact hb' rfl
        | succ n => rw [whileN, ht, R.bind_ok, if_pos hp, hb] at hb'; exact hb' rfl
      | exc c s =>
        simp only [R.bind_exc]
        exact key _ (fun z => by cases z) ⟨1, by rw [whileN, ht, R.bind_ok, if_pos hp, hb]; rfl⟩
      | ok f =>
        simp only [R.bind_ok]
        have go : ∀ s2, (∀ n, whileN tst body (n + 1) σ = whileN tst body n s2) → whileR tst body σ = whileR tst body s2 := fun s2 hn => by
          by_cases hx : whileR tst body s2 = .bad
          · rw [hx]
            refine Classical.byContradiction fun h => ?_
            obtain ⟨n, e, hb'⟩ := whileR_ex h
            cases n with
            | zero => exact hb' rfl
            | succ n =>
              rw [hn n] at hb'
              rw [whileR_of hb'] at hx
              exact hb' hx
          · obtain ⟨n, e, hb'⟩ := whileR_ex hx
            exact key _ hx ⟨n + 1, by rw [hn n, e]⟩
        cases f with
        | nx s2 => exact go s2 fun n => by rw [whileN, ht, R.bind_ok, if_pos hp, hb]; rfl
        | ct s2 => exact go s2 fun n => by rw [whileN, ht, R.bind_ok, if_pos hp, hb]; rfl
        | bk s2 => exact key _ (fun z => by cases z) ⟨1, by rw [whileN, ht, R.bind_ok, if_pos hp, hb]; rfl⟩
        | rt v s2 => exact key _ (fun z => by cases z) ⟨1, by rw [whileN, ht, R.bind_ok, if_pos hp, hb]; rfl⟩
    · rw [if_neg hp]
      exact key _ (fun z => by cases z) ⟨1, by rw [whileN, ht, R.bind_ok, if_neg hp]⟩

/-- what a method makes of the slot's thing: what it gives, what the slot holds then -/
def methD : Str → D → List D → Option (D × D)
  | m, .list xs, [x] =>
    if m = "append" then (if xs.length < sizeLine then some (.none, .list (xs ++ [x])) else none)
    else if m = "extend" then (match x with
      | .list ys => if xs.length + ys.length ≤ sizeLine then some (.none, .list (xs ++ ys)) else none
      | _ => none)
    else if m = "pop" then (match x with
      | .int i => (ixN xs.length i).bind fun k => (xs[k]?).map fun y => (y, .list (xs.eraseIdx k))
      | _ => none)
    else none
  | m, .list xs, [] =>
    if m = "pop" then (xs[xs.length - 1]?).map fun y => (y, .list xs.dropLast)
    else if m = "clear" then some (.none, .list [])
    else none
  | m, .list xs, [.int i, x] =>
    if m = "insert" then (if 0 ≤ i ∧ i ≤ (xs.length : Int) ∧ xs.length < sizeLine then some (.none, .list (xs.take i.toNat ++ [x] ++ xs.drop i.toNat)) else none) else none
  | _, _, _ => none
/-- x[k] = v -/
def putD : D → D → D → Option D
  | .list xs, .int i, v => (ixN xs.length i).map fun k => .list (xs.set k v)
  | .dict kvs, k, v => if kvs.length < sizeLine then (match key? k with
    | some kk => if allK kvs then some (.dict (dPut kvs kk v)) else none
    | none => (tk? k).bind fun kk => if allT kvs then some (.dict (tPut kvs k kk v)) else none) else none
  | _, _, _ => none
/-- x[a:b] = v -/
def putSD : D → Int → Int → D → Option D
  | .list xs, a, b, .list ys => if 0 ≤ a ∧ a ≤ b ∧ xs.length + ys.length ≤ sizeLine then some (.list (xs.take a.toNat ++ ys ++ xs.drop b.toNat)) else none
  | _, _, _, _ => none
def pairsD : List D → Option (List (D × D))
  | [] => some []
  | k :: v :: r => (key? k).bind fun _ => (pairsD r).map ((k, v) :: ·)
  | _ => none
def dctD (l : List D) : Option D := (pairsD l).map fun ps => .dict (ps.foldl (fun acc p => match key? p.1 with | some k => dPut acc k p.2 | none => acc) [])

def isOwnL : Option SV → Bool
  | some ⟨.own, .list _⟩ => true
  | _ => false
def isOwn : Option SV → Bool
  | some ⟨.own, _⟩ => true
  | _ => false
def augI (o : Op) (a b : Int) : Int := match o with
  | .sub => a - b
  | _ => a + b
def lookX (tab : List (Str × Bool)) (x : Str) : Option Bool := (tab.find? fun p => decide (p.1 = x)).map (·.2)
def isDictD : D → Bool
  | .dict _ => true
  | _ => false
def isStrD : D → Bool
  | .str _ => true
  | _ => false
section
variable (C : Str → Option D) (cf : Str → List SV → RF)
mutual
/-- an expression's value, and the slots behind it -/
def evV : ME → EnvD → R (SV × EnvD)
  | .var i, σ => rdV i σ
  | .cst d, σ => .ok (fz d, σ)
  | .glo x, σ => (ofOpt (C x)).bind fun d => .ok (fz d, σ)
  | .op o es, σ => (evAs es σ).bind fun p => (ofOpt (getOs p.2 p.1)).bind fun svs => (ofOpt (opD o (svs.map (·.d)))).bind fun r => .ok (r, p.2)
  | .and a b, σ => (evV a σ).bind fun p => (ofOpt (asB p.1)).bind fun c => if c = true then evV b p.2 else .ok (fz (.bool false), p.2)
  | .or a b, σ => (evV a σ).bind fun p => (ofOpt (asB p.1)).bind fun c => if c = true then .ok (fz (.bool true), p.2) else evV b p.2
  | .not a, σ => (evV a σ).bind fun p => (ofOpt (asB p.1)).bind fun c => .ok (fz (.bool (!c)), p.2)
  | .chain o1 o2 a b c, σ => (evV a σ).bind fun p => (evV b p.2).bind fun q => (ofOpt (opD o1 [p.1.d, q.1.d])).bind fun r => (ofOpt (asB r)).bind fun t =>
      if t = true then (evV c q.2).bind fun z => (ofOpt (opD o2 [q.1.d, z.1.d])).bind fun r2 => .ok (r2, z.2) else .ok (fz (.bool false), q.2)
  | .ife c a b, σ => (evV c σ).bind fun p => (ofOpt (asB p.1)).bind fun t => if t = true then evV a p.2 else evV b p.2
  | .tup es, σ => (evVs es σ).bind fun p => if p.1.length ≤ sizeLine then .ok (fz (.tuple p.1), p.2) else .bad
  | .lst es, σ => (evVs es σ).bind fun p => if p.1.length ≤ sizeLine then .ok (ow (.list p.1), p.2) else .bad
  | .dct es, σ => (evVs es σ).bind fun p => (ofOpt (dctD p.1)).bind fun d => .ok (ow d, p.2)
  | .call f es, σ => (evAs es σ).bind fun p => (ofOpt (getOs p.2 p.1)).bind fun svs =>
      if (ownSlots p.2 p.1).Nodup then (match cf f svs with
        | .ok r outs => .ok (r, putOuts p.2 p.1 outs)
        | .exc c outs => .exc c (putOuts p.2 p.1 outs)
        | .bad => .bad) else .bad
  | .comp own p it cs e, σ => (evI it σ).bind fun s => if (s.1.held.any (own.contains ·)) = true then .bad else
      ((compR (fun σ => wipeD σ own) (bindP p) (evT cs) (evV e) s.1.items [] (wipeD (lendAll s.2 s.1.lent) own)).onX (fun z => unlend (backD (lendAll s.2 s.1.lent) z own) s.1.lent)).bind fun r =>
        .ok (ow (.list r.1), unlend (backD (lendAll s.2 s.1.lent) r.2 own) s.1.lent)
  | .meth m i es, σ => if isOwnL (slotAt σ i) then (evVs es σ).bind fun p => (match slotAt p.2 i with
    | some ⟨.own, d⟩ => (ofOpt (methD m d p.1)).bind fun r => .ok (fz r.1, p.2.set i (some (ow r.2)))
    | _ => .bad) else .bad
  | .slice a l h, σ => (match isVar a with
      | some i => rdO i σ
      | none => (evV a σ).bind fun p => .ok (.val p.1, p.2)).bind fun p =>
        (if isNoneM l then (R.ok (none, p.2) : R (Option Int × EnvD)) else (evV l p.2).bind fun q => (ofOpt (asI q.1)).bind fun i => .ok (some i, q.2)).bind fun q =>
        (if isNoneM h then (R.ok (none, q.2) : R (Option Int × EnvD)) else (evV h q.2).bind fun r => (ofOpt (asI r.1)).bind fun i => .ok (some i, r.2)).bind fun r =>
        (ofOpt (getO r.2 p.1)).bind fun s => (ofOpt (slD s.d q.1 r.1)).bind fun z => .ok (z, r.2)
  | .getd o k x, σ => (match isVar o with
      | some i => rdO i σ
      | none => (evV o σ).bind fun p => .ok (.val p.1, p.2)).bind fun p => (ofOpt (getO p.2 p.1)).bind fun s0 => if isDictD s0.d then
        (evV k p.2).bind fun q => (evV x q.2).bind fun r => (ofOpt (getO r.2 p.1)).bind fun s1 => (ofOpt (dGet [s1.d, q.1.d, r.1.d])).bind fun z => .ok (z, r.2) else .bad
  | .join o e, σ => (evV o σ).bind fun p => if isStrD p.1.d then (match isVar e with
      | some i => rdO i p.2
      | none => (evV e p.2).bind fun q => .ok (.val q.1, q.2)).bind fun q => (ofOpt (getO q.2 q.1)).bind fun s => (ofOpt (dJoin [p.1.d, s.d])).bind fun z => .ok (z, q.2) else .bad
/-- values that are kept -/
def evVs : MEs → EnvD → R (List D × EnvD)
  | .nil, σ => .ok ([], σ)
  | .cons e es, σ => (evV e σ).bind fun p => (evVs es p.2).bind fun q => .ok (p.1.d :: q.1, q.2)
/-- operands -/
def evAs : MEs → EnvD → R (List Opd × EnvD)
  | .nil, σ => .ok ([], σ)
  | .cons e es, σ => (match isVar e with
      | some i => rdO i σ
      | none => (evV e σ).bind fun p => .ok (.val p.1, p.2)).bind fun p => (evAs es p.2).bind fun q => .ok (p.1 :: q.1, q.2)
/-- tests, all of them -/
def evT : MEs → EnvD → R (Bool × EnvD)
  | .nil, σ => .ok (true, σ)
  | .cons c cs, σ => (evV c σ).bind fun p => (ofOpt (asB p.1)).bind fun t => if t = true then evT cs p.2 else .ok (false, p.2)
/-- what a loop goes through -/
def evI : MI → EnvD → R (Src × EnvD)
  | .seq e, σ => (match isVar e with
      | some i => rdO i σ
      | none => (evV e σ).bind fun p => .ok (.val p.1, p.2)).bind fun p => (ofOpt (getO p.2 p.1)).bind fun sv => (ofOpt (seqItems sv.d)).bind fun xs => .ok (⟨xs, lend p.2 p.1, heldO p.1⟩, p.2)
  | .rng1 b, σ => (evV b σ).bind fun q => match q.1.d with
    | .int j => if i62 j then .ok (⟨rangeD 0 j.toNat 1, [], []⟩, q.2) else .bad
    | _ => .bad
  | .rng2 a b, σ => (evV a σ).bind fun p => (evV b p.2).bind fun q => match p.1.d, q.1.d with
    | .int i, .int j => if i62 i && i62 j then .ok (⟨rangeD i (j - i).toNat 1, [], []⟩, q.2) else .bad
    | _, _ => .bad
  | .rng3 a b c, σ => (evV a σ).bind fun p => (evV b p.2).bind fun q => (evV c q.2).bind fun z => match p.1.d, q.1.d, z.1.d with
    | .int i, .int j, .int k => if i62 i && i62 j && decide (k = -1) then .ok (⟨rangeD i (i - j).toNat (-1), [], []⟩, z.2) else .bad
    | _, _, _ => .bad
  | .enum e, σ => (match isVar e with
      | some i => rdO i σ
      | none => (evV e σ).bind fun p => .ok (.val p.1, p.2)).bind fun p => (ofOpt (getO p.2 p.1)).bind fun sv => (match sv.d with
        | .list xs => .ok (⟨enumD 0 xs, lend p.2 p.1, heldO p.1⟩, p.2)
        | _ => .bad)
  | .zip a b, σ => (evV a σ).bind fun p => (evV b p.2).bind fun q => match p.1.d, q.1.d with
    | .list xs, .list ys => .ok (⟨zipD xs ys, [], []⟩, q.2)
    | _, _ => .bad
  | .items e, σ => .bad
end

/-- a slot is stored; what the callers hold is not stored over -/
def stR (pn : List Nat) (i : Nat) (sv : SV) (σ : EnvD) : R EnvD := if i ∈ pn then .bad else match slotAt σ i with
  | some ⟨.lck, _⟩ => .bad
  | _ => .ok (σ.set i (some sv))
def stRs (pn : List Nat) : List Nat → List SV → EnvD → R EnvD
  | [], [], σ => .ok σ
  | i :: is, v :: vs, σ => (stR pn i v σ).bind (stRs pn is vs)
  | _, _, _ => .bad
/-- the slots of a target may be stored -/
def pat : MP → List Nat
  | .name i => [i]
  | .tup ps => patAll ps
where patAll : List MP → List Nat
  | [] => []
  | p :: ps => pat p ++ patAll ps
def free (pn : List Nat) (σ : EnvD) (i : Nat) : Bool := !(pn.contains i) && (match slotAt σ i with | some ⟨.lck, _⟩ => false | _ => true)
def bindC (pn : List Nat) (p : MP) (d : D) (σ : EnvD) : Option EnvD := if (pat p).all (free pn σ) then bindP p d σ else none
/-- values of which the fresh ones stay one's own -/
def evSs : MEs → EnvD → R (List SV × EnvD)
  | .nil, σ => .ok ([], σ)
  | .cons e es, σ => (evV C cf e σ).bind fun p => (evSs es p.2).bind fun q => .ok (p.1 :: q.1, q.2)

variable (np : Nat) (pn : List Nat)
mutual
noncomputable def evS : MS → EnvD → R Fl
  | .expr e, σ => (evV C cf e σ).bind fun p => .ok (.nx p.2)
  | .set i e, σ => (evV C cf e σ).bind fun p => (stR pn i p.1 p.2).bind fun σ' => .ok (.nx σ')
  | .setp p e, σ => (evV C cf e σ).bind fun q => (ofOpt (match p, q.1.d with
      | .tup ps, .list ds => bindC pn p (.tuple ds) q.2
      | _, d => bindC pn p d q.2)).bind fun σ' => .ok (.nx σ')
  | .par is es, σ => (evSs C cf es σ).bind fun q => (stRs pn is q.1 q.2).bind fun σ' => .ok (.nx σ')
  | .aug i o e, σ => (match slotAt σ i with
    | some ⟨.frz, .int a⟩ => (evV C cf e σ).bind fun p => (ofOpt (asI p.1)).bind fun b => (stR pn i (fz (.int (augI o a b))) p.2).bind fun σ' => .ok (.nx σ')
    | _ => .bad)
  | .put i k e, σ => if isOwn (slotAt σ i) = true then (evV C cf e σ).bind fun p => (evV C cf k p.2).bind fun q => (match slotAt q.2 i with
    | some ⟨.own, d⟩ => (ofOpt (putD d q.1.d p.1.d)).bind fun d' => .ok (.nx (q.2.set i (some (ow d'))))
    | _ => .bad) else .bad
  | .putS i lo hi e, σ => if isOwn (slotAt σ i) = true then (evV C cf e σ).bind fun p => (evV C cf lo p.2).bind fun q => (ofOpt (asI q.1)).bind fun a => (evV C cf hi q.2).bind fun r => (ofOpt (asI r.1)).bind fun b => (match slotAt r.2 i with
    | some ⟨.own, d⟩ => (ofOpt (putSD d a b p.1.d)).bind fun d' => .ok (.nx (r.2.set i (some (ow d'))))
    | _ => .bad) else .bad
  | .ret e, σ => (match isVar e with
    | some i => (match slotAt σ i with
      | some ⟨.own, d⟩ => if np ≤ i then .ok (.rt (ow d) σ) else (rdV i σ).bind fun p => .ok (.rt p.1 p.2)
      | _ => (rdV i σ).bind fun p => .ok (.rt p.1 p.2))
    | none => (evV C cf e σ).bind fun p => .ok (.rt p.1 p.2))
  | .ret0, σ => .ok (.rt (fz .none) σ)
  | .ifs c a b, σ => (evV C cf c σ).bind fun p => (ofOpt (asB p.1)).bind fun t => if t = true then evSS a p.2 else evSS b p.2
  | .while c b, σ => whileR (fun σ => (evV C cf c σ).bind fun p => (ofOpt (asB p.1)).bind fun t => .ok (t, p.2)) (evSS b) σ
  | .for p it b, σ => (evI C cf it σ).bind fun s => ((forR (bindC pn p) (evSS b) s.1.items (lendAll s.2 s.1.lent)).onX fun σ' => unlend σ' s.1.lent).bind fun f => match f with
    | .nx σ' => .ok (.nx (unlend σ' s.1.lent))
    | .rt sv σ' => .ok (.rt sv (unlend σ' s.1.lent))
    | f => .ok f
  | .raise c, σ => .exc c σ
  | .try1 b c tab h, σ => (match evSS b σ with
    | .exc x s => (match lookX tab x with
      | some true => evSS h s
      | some false => .exc x s
      | none => .bad)
    | .ok f => .ok f
    | .bad => .bad)
  | .pass, σ => .ok (.nx σ)
  | .brk, σ => .ok (.bk σ)
  | .cont, σ => .ok (.ct σ)
noncomputable def evSS : MSs → EnvD → R Fl
  | .nil, σ => .ok (.nx σ)
  | .cons s ss, σ => (evS s σ).bind fun f => match f with
    | .nx σ' => evSS ss σ'
    | f => .ok f
end
end

/-- a def: how many parameters, how many slots, its body -/
structure FD where
  np : Nat
  ns : Nat
  body : MSs
def pins (args : List SV) : List Nat := (List.range args.length).filter fun i => match args[i]? with | some ⟨.frz, _⟩ => false | _ => true
noncomputable def runD (C : Str → Option D) (cf : Str → List SV → RF) (fd : FD) (args : List SV) : RF :=
  if args.length = fd.np then
    match evSS C cf fd.np (pins args) fd.body (args.map some ++ List.replicate (fd.ns - fd.np) none) with
    | .ok (.rt sv σ) => .ok sv (σ.take fd.np)
    | .ok (.nx σ) => .ok (fz .none) (σ.take fd.np)
    | .exc c σ => .exc c (σ.take fd.np)
    | _ => .bad
  else .bad
/-- the defs called to a depth -/
noncomputable def callF (C : Str → Option D) (Γ : Str → Option FD) : Nat → Str → List SV → RF
  | 0, _, _ => .bad
  | n + 1, f, args => match Γ f with
    | some fd => runD C (callF C Γ n) fd args
    | none => .bad
end RH
set_option maxRecDepth 100000
set_option maxHeartbeats 4000000
/-! Dicts whose keys are tuples, nested ones too: what they are. -/
namespace RH
open PySem PySem.Spec L2

mutual
theorem nk_is {h : Heap} : ∀ (d : D) (k : NestedKey) (u : Value) (as : List Addr), nk? d = some k → Reads h u d as → NestedIs h k u
  | .none, _, _, _, e, r => by
    unfold nk? at e; cases e
    cases r; exact .none
  | .int i, _, _, _, e, r => by
    unfold nk? at e; cases e
    cases r; exact .int _ _
  | .str x, _, _, _, e, r => by
    unfold nk? at e; cases e
    cases r; exact .text _ _
  | .tuple ds, _, _, _, e, r => by
    unfold nk? at e
    obtain ⟨ks, e1, rfl⟩ := Option.map_eq_some_iff.mp e
    cases r with
    | tuple h1 h2 h3 h4 => exact .tup h1 h2 h3 (nks_is ds ks _ _ e1 h4)
  | .bool _, _, _, _, e, _ => by unfold nk? at e; cases e
  | .list _, _, _, _, e, _ => by unfold nk? at e; cases e
  | .dict _, _, _, _, e, _ => by unfold nk? at e; cases e
theorem nks_is {h : Heap} : ∀ (ds : List D) (ks : List NestedKey) (us : List Value) (as : List Addr), nks? ds = some ks → ReadsAll h us ds as → NestedAll h ks us
  | [], _, _, _, e, r => by
    unfold nks? at e; cases e
    cases r; exact .nil
  | d :: ds, _, _, _, e, r => by
    unfold nks? at e
    obtain ⟨k, e1, e2⟩ := Option.bind_eq_some_iff.mp e
    obtain ⟨ks, e3, rfl⟩ := Option.map_eq_some_iff.mp e2
    cases r with
    | cons r1 r2 => exact .cons (nk_is d k _ _ e1 r1) (nks_is ds ks _ _ e3 r2)
end
/-! ### the object -/
def entN (w : World) (x : NestedKey × Addr × Value) : DictEntry := ⟨NestedKey.hash w x.1, .ref x.2.1, x.2.2⟩
def RawN (w : World) (h : Heap) (a : Addr) (xs : List (NestedKey × Addr × Value)) : Prop := ∃ o es ep, h.get? a = some o ∧ o.ExactDict ∧ o.data = .dict es ep ∧ es.toList = xs.map (entN w) ∧ (xs.map (·.1)).Nodup
abbrev RelN : NestedKey × Addr × V → NestedKey × Addr × Value → Prop := fun p q => p.1 = q.1 ∧ p.2.1 = q.2.1 ∧ RelV p.2.2 q.2.2
/-- a dict with tuple keys: each key, where its tuple stands, its value -/
def DN (w : World) (a : Addr) (L : List (NestedKey × Addr × V)) : HO := .ext fun h => (a == sysModules) = false ∧ L.length ≤ sizeLine ∧ ∃ xs, Paired RelN L xs ∧ RawN w h a xs
theorem dn_new {P : Program} {w : World} {H : Hp} {h : Heap} {a : Addr} {L : List (NestedKey × Addr × V)} {xs : List (NestedKey × Addr × Value)} (e : (a == sysModules) = false) (z : L.length ≤ sizeLine) (r : Paired RelN L xs) (raw : RawN w h a xs) : ObjOk P w H h a (DN w a L) := by
  obtain ⟨o, es, ep, e1, e2⟩ := raw
  exact ⟨⟨e, z, xs, r, o, es, ep, e1, e2⟩, ⟨o, e1⟩, fun h1 h2 ⟨q0, q1, ys, q2, o', es', ep', q3, q4⟩ k => ⟨q0, q1, ys, q2, o', es', ep', k _ q3, q4⟩⟩
section
variable {X : Cx} {pins : List (Addr × Obj)} {σ : L2.St} {H : Hp} {s : Shared} {a : Addr} {L : List (NestedKey × Addr × V)}
theorem dn_get (I : Inv X pins σ H s) (e : H a = some (DN X.w a L)) : (a == sysModules) = false ∧ L.length ≤ sizeLine ∧ ∃ xs, Paired RelN L xs ∧ RawN X.w s.heap a xs := (I.hok a _ e).1
/-- the same of a dict that may be known -/
theorem dn_rd (I : Inv X pins σ H s) (e : Rd H a (DN X.w a L)) : (a == sysModules) = false ∧ L.length ≤ sizeLine ∧ ∃ xs, Paired RelN L xs ∧ RawN X.w s.heap a xs := by
  rcases e with e | ⟨o, e⟩
  · exact dn_get I e
  · exact (I.hok a _ e).2.1
end
/-! ### look and store -/
def nLook (L : List (NestedKey × Addr × V)) (k : NestedKey) : Option V := (L.find? fun p => decide (p.1 = k)).map (·.2.2)
def nPut (L : List (NestedKey × Addr × V)) (k : NestedKey) (b : Addr) (v : V) : List (NestedKey × Addr × V) := if (nLook L k).isSome then L.map (fun p => if p.1 = k then (p.1, p.2.1, v) else p) else L ++ [(k, b, v)]
theorem nLook_at {k : NestedKey} : ∀ {L : List (NestedKey × Addr × V)} {xs : List (NestedKey × Addr × Value)}, Paired RelN L xs → (∀ v, nLook L k = some v → ∃ p, atKey xs k = some p ∧ RelV v p.2) ∧ (nLook L k = none → atKey xs k = none)
  | _, _, .nil => ⟨fun _ e => (by cases e), fun _ => rfl⟩
  | _, _, .cons (a := p) (b := q) r t => by
    obtain ⟨r1, r2, r3⟩ := r
    obtain ⟨h1, h2⟩ := nLook_at (k := k) t
    unfold nLook atKey at *
    rw [List.find?_cons, List.find?_cons, ← r1]
    by_cases e : p.1 = k
    · simp only [e, decide_true, Option.map_some, Option.some.injEq]
      exact ⟨fun v hv => ⟨q.2, rfl, hv ▸ r3⟩, fun z => nomatch z⟩
    · simp only [e, decide_false]
      exact ⟨h1, h2⟩
theorem nLook_some {k : NestedKey} {L : List (NestedKey × Addr × V)} {xs : List (NestedKey × Addr × Value)} (r : Paired RelN L xs) : (nLook L k).isSome = (atKey xs k).isSome := by
  obtain ⟨h1, h2⟩ := nLook_at (k := k) r
  cases e : nLook L k with
  | none => rw [h2 e]; rfl
  | some v => obtain ⟨p, e1, _⟩ := h1 v e; rw [e1]; rfl
theorem Paired.app {α β : Type} {F : α → β → Prop} : ∀ {l l' : List α} {m m' : List β}, Paired F l m → Paired F l' m' → Paired F (l ++ l') (m ++ m')
  | _, _, _, _, .nil, h => h
  | _, _, _, _, .cons r t, h => .cons r (Paired.app t h)
theorem nPut_rel {k : NestedKey} {b : Addr} {v : V} {u : Value} {L : List (NestedKey × Addr × V)} {xs : List (NestedKey × Addr × Value)} (r : Paired RelN L xs) (rv : RelV v u) : Paired RelN (nPut L k b v) (storedH xs k b u) := by
  unfold nPut storedH
  rw [nLook_some r]
  have go : ∀ {L : List (NestedKey × Addr × V)} {xs : List (NestedKey × Addr × Value)}, Paired RelN L xs → Paired RelN (L.map fun p => if p.1 = k then (p.1, p.2.1, v) else p) (xs.map (putAt k u)) := fun {L xs} r => by
    induction r with
    | nil => exact .nil
    | cons r t ih =>
      rename_i p q _ _
      refine .cons ?_ ih
      obtain ⟨r1, r2, r3⟩ := r
      unfold putAt
      rw [← r1]
      by_cases e : p.1 = k
      · rw [if_pos e]; dsimp only; rw [if_pos e]; exact ⟨rfl, r2, rv⟩
      · rw [if_neg e]; dsimp only; rw [if_neg e]; exact ⟨r1, r2, r3⟩
  split
  · exact go r
  · exact Paired.app r (.cons ⟨rfl, rfl, rv⟩ .nil)
theorem nPut_len {k : NestedKey} {b : Addr} {v : V} {L : List (NestedKey × Addr × V)} : (nPut L k b v).length ≤ L.length + 1 := by
  unfold nPut
  split
  · rw [List.length_map]; omega
  · rw [List.length_append]; exact Nat.le_refl _
/-- a dict with tuple keys, or one that is empty still -/
def IsN (w : World) (H : Hp) (a : Addr) (L : List (NestedKey × Addr × V)) : Prop := Rd H a (DN w a L) ∨ (L = [] ∧ Rd H a (.dK []))
end RH
set_option maxRecDepth 100000
/-! What the slots' data mean in the abstract heap. -/
namespace RH
open PySem L2
/-- the written part, and the world -/
structure KW where
  fr : PySem.W.Frag
  w : World
instance : Coe KW PySem.W.Frag := ⟨KW.fr⟩
abbrev _root_.L2.Cx.kw (X : L2.Cx) : KW := ⟨X.K, X.w⟩

section
variable (K : KW)
mutual
/-- v is the datum d for good: the lists and dicts within stand in F, they are not changed any more -/
inductive Rp (F : Addr → Prop) (H : Hp) : V → D → Prop
  | non : Rp F H .non .none
  | bl (b : Bool) : Rp F H (.bl b) (.bool b)
  | int (i : Int) : Rp F H (.int i) (.int i)
  | str (x : Str) : Rp F H (.str x) (.str x)
  | lst {a : Addr} {vs : List V} {ds : List D} : F a → Rd H a (.lst vs) → Rps F H vs ds → Rp F H (.ref a) (.list ds)
  | tup {a : Addr} {vs : List V} {ds : List D} : SqT K H a vs → Rps F H vs ds → Rp F H (.ref a) (.tuple ds)
  | dct {a : Addr} {kvs : List (Key × V)} {ds : List (D × D)} : F a → Rd H a (.dK kvs) → RpK F H kvs ds → Rp F H (.ref a) (.dict ds)
  | dcn {a : Addr} {L : List (NestedKey × Addr × V)} {ds : List (D × D)} : F a → Rd H a (DN K.w a L) → L ≠ [] → RpN F H L ds → Rp F H (.ref a) (.dict ds)
inductive Rps (F : Addr → Prop) (H : Hp) : List V → List D → Prop
  | nil : Rps F H [] []
  | cons {v : V} {d : D} {vs : List V} {ds : List D} : Rp F H v d → Rps F H vs ds → Rps F H (v :: vs) (d :: ds)
inductive RpK (F : Addr → Prop) (H : Hp) : List (Key × V) → List (D × D) → Prop
  | nil : RpK F H [] []
  | cons {k : Key} {v : V} {kd d : D} {r : List (Key × V)} {s : List (D × D)} : key? kd = some k → Rp F H v d → RpK F H r s → RpK F H ((k, v) :: r) ((kd, d) :: s)
inductive RpN (F : Addr → Prop) (H : Hp) : List (NestedKey × Addr × V) → List (D × D) → Prop
  | nil : RpN F H [] []
  | cons {k : NestedKey} {b : Addr} {v : V} {kd d : D} {r : List (NestedKey × Addr × V)} {s : List (D × D)} : tk? kd = some k → Rp F H (.ref b) kd → Rp F H v d → RpN F H r s → RpN F H ((k, b, v) :: r) ((kd, d) :: s)
end
end
variable {K : KW}

/-- the frozen part and the tuples stay -/
structure Pr (F : Addr → Prop) (H : Hp) (F' : Addr → Prop) (H' : Hp) : Prop where
  fr : ∀ a, F a → F' a
  kp : ∀ a u, F a → Rd H a u → Rd H' a u
  tp : ∀ a vs, Rd H a (.tup vs) → Rd H' a (.tup vs)
theorem Pr.sqt {F F' : Addr → Prop} {H H' : Hp} (p : Pr F H F' H') {a : Addr} {vs : List V} (h : SqT K H a vs) : SqT K H' a vs := by
  rcases h with h | h
  · exact .inl (p.tp _ _ h)
  · exact .inr h
mutual
theorem Rp.mono {F F' : Addr → Prop} {H H' : Hp} (p : Pr F H F' H') : ∀ (d : D) (v : V), Rp K F H v d → Rp K F' H' v d
  | .none, _, h => by cases h; exact .non
  | .bool _, _, h => by cases h; exact .bl _
  | .int _, _, h => by cases h; exact .int _
  | .str _, _, h => by cases h; exact .str _
  | .list ds, _, h => by cases h with | lst a b c => exact .lst (p.fr _ a) (p.kp _ _ a b) (Rps.mono p ds _ c)
  | .tuple ds, _, h => by cases h with | tup b c => exact .tup (p.sqt b) (Rps.mono p ds _ c)
  | .dict ds, _, h => by
    cases h with
    | dct a b c => exact .dct (p.fr _ a) (p.kp _ _ a b) (RpK.mono p ds _ c)
    | dcn a b n c => exact .dcn (p.fr _ a) (p.kp _ _ a b) n (RpN.mono p ds _ c)
theorem Rps.mono {F F' : Addr → Prop} {H H' : Hp} (p : Pr F H F' H') : ∀ (ds : List D) (vs : List V), Rps K F H vs ds → Rps K F' H' vs ds
  | [], _, h => by cases h; exact .nil
  | d :: ds, _, h => by cases h with | cons a b => exact .cons (Rp.mono p d _ a) (Rps.mono p ds _ b)
theorem RpK.mono {F F' : Addr → Prop} {H H' : Hp} (p : Pr F H F' H') : ∀ (ds : List (D × D)) (kvs : List (Key × V)), RpK K F H kvs ds → RpK K F' H' kvs ds
  | [], _, h => by cases h; exact .nil
  | (kd, d) :: ds, _, h => by cases h with | cons a b c => exact .cons a (Rp.mono p d _ b) (RpK.mono p ds _ c)
theorem RpN.mono {F F' : Addr → Prop} {H H' : Hp} (p : Pr F H F' H') : ∀ (ds : List (D × D)) (L : List (NestedKey × Addr × V)), RpN K F H L ds → RpN K F' H' L ds
  | [], _, h => by cases h; exact .nil
  | (kd, d) :: ds, _, h => by cases h with | cons a b c e => exact .cons a (Rp.mono p kd _ b) (Rp.mono p d _ c) (RpN.mono p ds _ e)
end

theorem Rps.length {F : Addr → Prop} {H : Hp} : ∀ {vs : List V} {ds : List D}, Rps K F H vs ds → vs.length = ds.length
  | _, [], h => by cases h; rfl
  | _, d :: ds, h => by cases h with | cons a b => exact congrArg (· + 1) b.length
theorem Rps.get {F : Addr → Prop} {H : Hp} : ∀ {vs : List V} {ds : List D} {i : Nat} {v : V}, Rps K F H vs ds → vs[i]? = some v → ∃ d, ds[i]? = some d ∧ Rp K F H v d
  | _, [], i, v, h, e => by cases h; simp at e
  | _, d :: ds, 0, v, h, e => by cases h with | cons a b => simp at e; subst e; exact ⟨d, rfl, a⟩
  | _, d :: ds, i + 1, v, h, e => by cases h with | cons a b => simpa using b.get (i := i) (by simpa using e)
theorem Rps.getD {F : Addr → Prop} {H : Hp} : ∀ {vs : List V} {ds : List D} {i : Nat} {d : D}, Rps K F H vs ds → ds[i]? = some d → ∃ v, vs[i]? = some v ∧ Rp K F H v d
  | _, [], i, v, h, e => by simp at e
  | _, d :: ds, 0, v, h, e => by cases h with | cons a b => simp at e; subst e; exact ⟨_, rfl, a⟩
  | _, d :: ds, i + 1, v, h, e => by cases h with | cons a b => simpa using b.getD (i := i) (by simpa using e)
theorem Rps.append {F : Addr → Prop} {H : Hp} : ∀ {vs ws : List V} {ds es : List D}, Rps K F H vs ds → Rps K F H ws es → Rps K F H (vs ++ ws) (ds ++ es)
  | _, _, [], _, h, g => by cases h; exact g
  | _, _, d :: ds, _, h, g => by cases h with | cons a b => exact .cons a (b.append g)
theorem Rps.take {F : Addr → Prop} {H : Hp} : ∀ (n : Nat) {vs : List V} {ds : List D}, Rps K F H vs ds → Rps K F H (vs.take n) (ds.take n)
  | 0, _, _, h => by simpa using Rps.nil
  | n + 1, _, [], h => by cases h; exact .nil
  | n + 1, _, d :: ds, h => by cases h with | cons a b => exact .cons a (b.take n)
theorem Rps.drop {F : Addr → Prop} {H : Hp} : ∀ (n : Nat) {vs : List V} {ds : List D}, Rps K F H vs ds → Rps K F H (vs.drop n) (ds.drop n)
  | 0, _, _, h => h
  | n + 1, _, [], h => by cases h; exact .nil
  | n + 1, _, d :: ds, h => by cases h with | cons a b => exact b.drop n
theorem Rps.set {F : Addr → Prop} {H : Hp} {v : V} {d : D} (q : Rp K F H v d) : ∀ (n : Nat) {vs : List V} {ds : List D}, Rps K F H vs ds → Rps K F H (vs.set n v) (ds.set n d)
  | _, _, [], h => by cases h; exact .nil
  | 0, _, e :: ds, h => by cases h with | cons a b => exact .cons q b
  | n + 1, _, e :: ds, h => by cases h with | cons a b => exact .cons a (Rps.set q n b)
theorem Rps.reverse {F : Addr → Prop} {H : Hp} : ∀ {vs : List V} {ds : List D}, Rps K F H vs ds → Rps K F H vs.reverse ds.reverse
  | _, [], h => by cases h; exact .nil
  | _, d :: ds, h => by
    cases h with
    | cons a b =>
      rw [List.reverse_cons, List.reverse_cons]
      exact b.reverse.append (.cons a .nil)
theorem Rps.one {F : Addr → Prop} {H : Hp} {v : V} {d : D} (h : Rp K F H v d) : Rps K F H [v] [d] := .cons h .nil

/-- a thing that stands by itself at a: it may be changed -/
inductive Ct (K : KW) (F : Addr → Prop) (H : Hp) (a : Addr) : D → Prop
  | lst {vs : List V} {ds : List D} : H a = some (.lst vs) → Rps K F H vs ds → Ct K F H a (.list ds)
  | dct {kvs : List (Key × V)} {ds : List (D × D)} : H a = some (.dK kvs) → RpK K F H kvs ds → Ct K F H a (.dict ds)
  | dcn {L : List (NestedKey × Addr × V)} {ds : List (D × D)} : H a = some (DN K.w a L) → L ≠ [] → RpN K F H L ds → Ct K F H a (.dict ds)
theorem Ct.ex {F : Addr → Prop} {H : Hp} {a : Addr} {d : D} (h : Ct K F H a d) : ∃ o, H a = some o ∧ Mut (some o) ∧ ∀ vs, o ≠ .tup vs := by
  cases h with
  | lst e _ => exact ⟨_, e, trivial, fun _ z => nomatch z⟩
  | dct e _ => exact ⟨_, e, trivial, fun _ z => nomatch z⟩
  | dcn e _ _ => exact ⟨_, e, trivial, fun _ z => nomatch z⟩
theorem Ct.mono {F F' : Addr → Prop} {H H' : Hp} (p : Pr F H F' H') {a : Addr} (e : ∀ o, H a = some o → H' a = some o) {d : D} (h : Ct K F H a d) : Ct K F' H' a d := by
  cases h with
  | lst g r => exact .lst (e _ g) (Rps.mono p _ _ r)
  | dct g r => exact .dct (e _ g) (RpK.mono p _ _ r)
  | dcn g n r => exact .dcn (e _ g) n (RpN.mono p _ _ r)
/-- frozen, it is data -/
theorem Ct.rp {F F' : Addr → Prop} {H : Hp} {a : Addr} {d : D} (h : Ct K F H a d) (p : ∀ b, F b → F' b) (ha : F' a) : Rp K F' H (.ref a) d := by
  have q : Pr F H F' H := ⟨p, fun _ _ _ z => z, fun _ _ z => z⟩
  cases h with
  | lst g r => exact .lst ha (.inl g) (Rps.mono q _ _ r)
  | dct g r => exact .dct ha (.inl g) (RpK.mono q _ _ r)
  | dcn g n r => exact .dcn ha (.inl g) n (RpN.mono q _ _ r)

/-- what a slot's value is -/
def SR (K : KW) (F : Addr → Prop) (H : Hp) (v : V) (sv : SV) : Prop := match sv.md with
  | .frz => Rp K F H v sv.d
  | _ => ∃ a, v = .ref a ∧ ¬ F a ∧ Ct K F H a sv.d

/-- the objects that the slots own -/
def OwnA (σd : EnvD) (σ : St) (a : Addr) : Prop := ∃ (i : Nat) (d : D), slotAt σd i = some (ow d) ∧ σ[i]? = some (some (.ref a))
/-- the objects that the slots own or are lent -/
def RefA (σd : EnvD) (σ : St) (a : Addr) : Prop := ∃ (i : Nat) (sv : SV), slotAt σd i = some sv ∧ sv.md ≠ .frz ∧ σ[i]? = some (some (.ref a))
structure ER (K : KW) (F : Addr → Prop) (H : Hp) (σd : EnvD) (σ : St) : Prop where
  len : σd.length = σ.length
  at_ : ∀ i sv, slotAt σd i = some sv → ∃ v, σ[i]? = some (some v) ∧ SR K F H v sv
  ap : ∀ i j sv sw a, slotAt σd i = some sv → slotAt σd j = some sw → sv.md ≠ .frz → sw.md ≠ .frz → σ[i]? = some (some (.ref a)) → σ[j]? = some (some (.ref a)) → i = j
  fd : ∀ a, F a → H a ≠ none

/-- what may have changed: the objects in B alone, and new ones -/
structure Le (B F : Addr → Prop) (H : Hp) (F' : Addr → Prop) (H' : Hp) : Prop where
  fr : ∀ a, F a → F' a
  kp : ∀ a o, H a = some o → ¬ B a → ¬ F a → H' a = some o
  kr : ∀ a u, F a → ¬ B a → Rd H a u → Rd H' a u
  nf : ∀ a, H a ≠ none → ¬ B a → F' a → F a
  al : ∀ a, H a ≠ none → H' a ≠ none
  fd : (∀ a, F a → H a ≠ none) → ∀ a, F' a → H' a ≠ none
/-- B is of things that may be changed -/
structure Bk (B F : Addr → Prop) (H : Hp) : Prop where
  nf : ∀ a, B a → ¬ F a
  mu : ∀ a, B a → ∃ o, H a = some o ∧ Mut (some o)
theorem rd_notMut {H : Hp} {a : Addr} {vs : List V} (h : Rd H a (.tup vs)) : ¬ ∃ o, H a = some o ∧ Mut (some o) := by
  rintro ⟨o, e, m⟩
  rcases h with h | ⟨ob, h⟩ <;> (rw [e] at h; cases h; exact m)
theorem Rd.there {H : Hp} {a : Addr} {u : HO} (r : Rd H a u) : H a ≠ none := by
  rcases r with r | ⟨o, r⟩ <;> (rw [r]; exact fun z => nomatch z)
theorem Le.rd {B F F' : Addr → Prop} {H H' : Hp} (l : Le B F H F' H') {a : Addr} {u : HO} (nb : ¬ B a) (r : Rd H a u) : Rd H' a u := by
  by_cases f : F a
  · exact l.kr a u f nb r
  · rcases r with r | ⟨o, r⟩
    · exact .inl (l.kp _ _ r nb f)
    · exact .inr ⟨o, l.kp _ _ r nb f⟩
theorem Le.pr {B F F' : Addr → Prop} {H H' : Hp} (l : Le B F H F' H') (b : Bk B F H) : Pr F H F' H' where
  fr := l.fr
  kp := fun a u fa r => l.kr a u fa (fun z => b.nf a z fa) r
  tp := fun a vs r => l.rd (fun z => rd_notMut r (b.mu a z)) r
theorem Le.refl {B F : Addr → Prop} {H : Hp} : Le B F H F H := ⟨fun _ z => z, fun _ _ z _ _ => z, fun _ _ _ _ z => z, fun _ _ _ z => z, fun _ z => z, fun z => z⟩
theorem Le.trans {B B1 F F1 F2 : Addr → Prop} {H H1 H2 : Hp} (l : Le B F H F1 H1) (m : Le B1 F1 H1 F2 H2) (h : ∀ a, B1 a → B a ∨ H a = none) : Le B F H F2 H2 where
  fr := fun a z => m.fr a (l.fr a z)
  kp := fun a o e nb nf => m.kp a o (l.kp a o e nb nf) (fun z => (h a z).elim nb fun q => by rw [e] at q; cases q) fun z => nf (l.nf a (by rw [e]; exact fun q => nomatch q) nb z)
  kr := fun a u f nb r => m.kr a u (l.fr a f) (fun z => (h a z).elim nb fun q => Rd.there r q) (l.kr a u f nb r)
  nf := fun a e nb f2 => l.nf a e nb (m.nf a (l.al a e) (fun z => (h a z).elim nb e) f2)
  al := fun a e => m.al a (l.al a e)
  fd := fun z => m.fd (l.fd z)
theorem Le.more {B B' F F' : Addr → Prop} {H H' : Hp} (l : Le B F H F' H') (h : ∀ a, B a → B' a) : Le B' F H F' H' :=
  ⟨l.fr, fun a o e nb nf => l.kp a o e (fun z => nb (h a z)) nf, fun a u f nb r => l.kr a u f (fun z => nb (h a z)) r, fun a e nb => l.nf a e fun z => nb (h a z), l.al, l.fd⟩
abbrev No : Addr → Prop := fun _ => False
theorem bk_no {F : Addr → Prop} {H : Hp} : Bk No F H := ⟨fun _ z => z.elim, fun _ z => z.elim⟩
/-- a new object -/
theorem Le.new {B F : Addr → Prop} {H : Hp} {p : Addr} {o : HO} (h : H p = none) : Le B F H F (upd H p o) where
  fr := fun _ z => z
  kp := fun a u e _ _ => by rw [upd_ne (ne_of_none e h)]; exact e
  kr := fun a u _ _ r => by
    rcases r with r | ⟨o, r⟩
    · exact .inl (by rw [upd_ne (ne_of_none r h)]; exact r)
    · exact .inr ⟨o, by rw [upd_ne (ne_of_none r h)]; exact r⟩
  nf := fun _ _ _ z => z
  al := fun a e => by
    obtain ⟨u, q⟩ := Option.ne_none_iff_exists'.mp e
    rw [upd_ne (ne_of_none q h), q]; exact fun z => nomatch z
  fd := fun z a f => by
    obtain ⟨u, q⟩ := Option.ne_none_iff_exists'.mp (z a f)
    rw [upd_ne (ne_of_none q h), q]; exact fun z => nomatch z
/-- things become frozen: such as are in B, or new -/
theorem Le.freeze {B F : Addr → Prop} {H : Hp} {p : Addr} (h : B p) (e : H p ≠ none) : Le B F H (fun a => F a ∨ a = p) H where
  fr := fun _ z => .inl z
  kp := fun _ _ z _ _ => z
  kr := fun _ _ _ _ r => r
  nf := fun a _ nb z => z.elim id fun q => absurd (q ▸ h) nb
  al := fun _ z => z
  fd := fun z a f => f.elim (z a) fun q => q ▸ e
/-- an object in B is changed -/
theorem Le.write {B F : Addr → Prop} {H : Hp} {p : Addr} {o : HO} (h : B p) : Le B F H F (upd H p o) where
  fr := fun _ z => z
  kp := fun a u e nb _ => by
    have q : a ≠ p := fun z => nb (by rw [z]; exact h)
    rw [upd_ne q]; exact e
  kr := fun a u _ nb r => by
    have q : a ≠ p := fun z => nb (by rw [z]; exact h)
    rcases r with r | ⟨o, r⟩
    · exact .inl (by rw [upd_ne q]; exact r)
    · exact .inr ⟨o, by rw [upd_ne q]; exact r⟩
  nf := fun _ _ _ z => z
  al := fun a e => by
    by_cases q : a = p
    · subst q; rw [upd_same]; exact fun z => nomatch z
    · rw [upd_ne q]; exact e
  fd := fun z a f => by
    by_cases q : a = p
    · subst q; rw [upd_same]; exact fun z => nomatch z
    · rw [upd_ne q]; exact z a f

theorem slotAt_some {σ : EnvD} {i : Nat} {sv : SV} : slotAt σ i = some sv ↔ σ[i]? = some (some sv) := by
  unfold slotAt
  cases h : σ[i]? with
  | none => simp
  | some x => cases x <;> simp
theorem slotAt_set {σ : EnvD} {i j : Nat} {x : Option SV} : slotAt (σ.set i x) j = if i = j then (if i < σ.length then x else none) else slotAt σ j := by
  unfold slotAt
  rw [List.getElem?_set]
  split
  · split <;> rfl
  · rfl
section
variable {F F' : Addr → Prop} {H H' : Hp} {σd : EnvD} {σ : St}
theorem SR.frz {v : V} {d : D} : SR K F H v (fz d) ↔ Rp K F H v d := Iff.rfl
theorem SR.own {v : V} {sv : SV} (h : sv.md ≠ .frz) : SR K F H v sv ↔ ∃ a, v = .ref a ∧ ¬ F a ∧ Ct K F H a sv.d := by
  obtain ⟨m, d⟩ := sv
  cases m with
  | frz => exact absurd rfl h
  | own => exact Iff.rfl
  | lck => exact Iff.rfl
theorem ER.bk (e : ER K F H σd σ) : Bk (OwnA σd σ) F H := by
  refine ⟨fun a ⟨i, d, h1, h2⟩ => ?_, fun a ⟨i, d, h1, h2⟩ => ?_⟩
  · obtain ⟨v, q, b, rfl, nf, c⟩ := e.at_ i _ h1
    rw [h2] at q; cases q; exact nf
  · obtain ⟨v, q, b, rfl, nf, c⟩ := e.at_ i _ h1
    rw [h2] at q; cases q
    obtain ⟨o, z1, z2, _⟩ := c.ex
    exact ⟨o, z1, z2⟩
/-- a slot that is no owner's, or owns another thing, stays -/
theorem SR.le {B : Addr → Prop} {v : V} {sv : SV} (s : SR K F H v sv) (l : Le B F H F' H') (b : Bk B F H) (h : sv.md ≠ .frz → ∀ a, v = .ref a → ¬ B a) : SR K F' H' v sv := by
  by_cases hm : sv.md = .frz
  · obtain ⟨m, d⟩ := sv
    cases hm
    exact Rp.mono (l.pr b) _ _ s
  · rw [SR.own hm] at s ⊢
    obtain ⟨a, rfl, nf, c⟩ := s
    obtain ⟨o, z1, z2, _⟩ := c.ex
    exact ⟨a, rfl, fun z => nf (l.nf a (by rw [z1]; exact fun q => nomatch q) (h hm a rfl) z), c.mono (l.pr b) fun o q => l.kp a o q (h hm a rfl) nf⟩
/-- the slots are left as they are -/
theorem ER.le {B : Addr → Prop} (e : ER K F H σd σ) (l : Le B F H F' H') (b : Bk B F H) (h : ∀ i sv a, slotAt σd i = some sv → sv.md ≠ .frz → σ[i]? = some (some (.ref a)) → ¬ B a) : ER K F' H' σd σ where
  len := e.len
  at_ := fun i sv hi => by
    obtain ⟨v, q, s⟩ := e.at_ i sv hi
    refine ⟨v, q, s.le l b fun hm a ha => ?_⟩
    subst ha
    exact h i sv a hi hm q
  ap := e.ap
  fd := l.fd e.fd
theorem ER.le0 (e : ER K F H σd σ) (l : Le No F H F' H') : ER K F' H' σd σ := e.le l bk_no fun _ _ _ _ _ _ z => z
end
end RH
set_option maxRecDepth 100000
/-! What is wanted behind an expression. -/
namespace RH
open PySem L2

section
variable {K : KW}
/-- behind an expression: the slots' values are what they were; some own things may have changed, some be frozen -/
structure Nx (K : KW) (F : Addr → Prop) (H : Hp) (σd : EnvD) (σ : St) (F' : Addr → Prop) (H' : Hp) (σd' : EnvD) : Prop where
  le : Le (OwnA σd σ) F H F' H'
  er : ER K F' H' σd' σ
  sub : ∀ (j : Nat) (d : D), slotAt σd' j = some (ow d) → ∃ d0, slotAt σd j = some (ow d0)
  suR : ∀ a, RefA σd' σ a → RefA σd σ a
  lk : ∀ (i : Nat) (sv : SV), slotAt σd i = some sv → sv.md = .lck → slotAt σd' i = some sv
  st : ∀ (i : Nat) (sv : SV), slotAt σd i = some sv → sv.md ≠ .lck → ∃ sv', slotAt σd' i = some sv' ∧ sv'.md ≠ .lck
/-- a result: data, or a new thing of one's own -/
def Res (K : KW) (H0 : Hp) (F' : Addr → Prop) (H' : Hp) (v : V) (sv : SV) : Prop := match sv.md with
  | .frz => Rp K F' H' v sv.d
  | .own => ∃ a, v = .ref a ∧ ¬ F' a ∧ H0 a = none ∧ Ct K F' H' a sv.d
  | .lck => False
section
variable {F F1 F2 : Addr → Prop} {H H1 H2 H0 : Hp} {σd σd1 σd2 : EnvD} {σ : St} {v : V} {sv : SV}
theorem Nx.refl (e : ER K F H σd σ) : Nx K F H σd σ F H σd := ⟨Le.refl, e, fun _ d z => ⟨d, z⟩, fun _ z => z, fun _ _ z _ => z, fun _ _ z m => ⟨_, z, m⟩⟩
theorem Nx.subA (n : Nx K F H σd σ F1 H1 σd1) (a : Addr) (z : OwnA σd1 σ a) : OwnA σd σ a := let ⟨j, d, h1, h2⟩ := z; let ⟨d0, h0⟩ := n.sub j d h1; ⟨j, d0, h0, h2⟩
theorem Nx.trans (a : Nx K F H σd σ F1 H1 σd1) (b : Nx K F1 H1 σd1 σ F2 H2 σd2) : Nx K F H σd σ F2 H2 σd2 :=
  ⟨a.le.trans b.le fun c z => .inl (a.subA c z), b.er, fun j d z => let ⟨d1, z1⟩ := b.sub j d z; a.sub j d1 z1, fun c z => a.suR c (b.suR c z), fun i sv z m => b.lk i sv (a.lk i sv z m) m, fun i sv z m => let ⟨sv', z', m'⟩ := a.st i sv z m; b.st i sv' z' m'⟩
theorem ER.ref_there (e : ER K F H σd σ) {a : Addr} (z : RefA σd σ a) : H a ≠ none := by
  obtain ⟨i, sv, h1, h2, h3⟩ := z
  obtain ⟨v, q, s⟩ := e.at_ i sv h1
  rw [h3] at q; cases q
  obtain ⟨b, e1, _, c⟩ := (SR.own h2).mp s
  cases e1
  obtain ⟨o, q, _⟩ := c.ex
  rw [q]; exact fun z => nomatch z
theorem OwnA.ref {a : Addr} (z : OwnA σd σ a) : RefA σd σ a := by
  obtain ⟨i, d, h1, h2⟩ := z
  exact ⟨i, _, h1, (by intro q; cases q), h2⟩
theorem ER.own_there (e : ER K F H σd σ) {a : Addr} (z : OwnA σd σ a) : H a ≠ none := e.ref_there z.ref
/-- a result stays while more is done -/
theorem Res.keep (r : Res K H0 F1 H1 v sv) (e0 : ∀ a, OwnA σd1 σ a → H0 a ≠ none) (n : Nx K F1 H1 σd1 σ F2 H2 σd2) (e1 : ER K F1 H1 σd1 σ) : Res K H0 F2 H2 v sv := by
  obtain ⟨m, d⟩ := sv
  cases m with
  | frz => exact Rp.mono (n.le.pr e1.bk) _ _ r
  | own =>
    obtain ⟨a, rfl, nf, h0, c⟩ := r
    obtain ⟨o, z1, _, _⟩ := c.ex
    have nb : ¬ OwnA σd1 σ a := fun z => e0 a z h0
    exact ⟨a, rfl, fun z => nf (n.le.nf a (by rw [z1]; exact fun q => nomatch q) nb z), h0, c.mono (n.le.pr e1.bk) fun o q => n.le.kp a o q nb nf⟩
  | lck => exact r.elim
theorem Res.old {B : Addr → Prop} (r : Res K H1 F2 H2 v sv) (l : Le B F H F1 H1) : Res K H F2 H2 v sv := by
  obtain ⟨m, d⟩ := sv
  cases m with
  | frz => exact r
  | own =>
    obtain ⟨a, q, nf, h1, c⟩ := r
    refine ⟨a, q, nf, ?_, c⟩
    cases q0 : H a with
    | none => rfl
    | some o => exact absurd h1 (l.al a (by rw [q0]; exact fun z => nomatch z))
  | lck => exact r
/-- frozen at last: data -/
theorem Res.rp (r : Res K H0 F1 H1 v sv) (h1 : ∀ a, F1 a → H1 a ≠ none) : ∃ F2, Rp K F2 H1 v sv.d ∧ (∀ a, F1 a → F2 a) ∧ (∀ a, F2 a → F1 a ∨ (H0 a = none ∧ v = .ref a ∧ H1 a ≠ none)) := by
  obtain ⟨m, d⟩ := sv
  cases m with
  | frz => exact ⟨F1, r, fun _ z => z, fun _ z => .inl z⟩
  | own =>
    obtain ⟨a, rfl, nf, h0, c⟩ := r
    obtain ⟨o, z1, _, _⟩ := c.ex
    exact ⟨fun b => F1 b ∨ b = a, c.rp (fun _ z => .inl z) (.inr rfl), fun _ z => .inl z, fun b z => z.elim .inl fun q => .inr ⟨q ▸ h0, by rw [q], by rw [q, z1]; exact fun z => nomatch z⟩⟩
  | lck => exact r.elim
end

/-- an operand's value -/
def OpV (K : KW) (H0 : Hp) (F : Addr → Prop) (H : Hp) (σd : EnvD) (σ : St) (v : V) : Opd → Prop
  | .val sv => Res K H0 F H v sv
  | .slot i => σ[i]? = some (some v)
/-- values read at the top -/
inductive Rt (K : KW) (F : Addr → Prop) (H : Hp) : V → D → Prop
  | rp {v : V} {d : D} : Rp K F H v d → Rt K F H v d
  | ct {a : Addr} {d : D} : Ct K F H a d → Rt K F H (.ref a) d
inductive Rts (K : KW) (F : Addr → Prop) (H : Hp) : List V → List D → Prop
  | nil : Rts K F H [] []
  | cons {v : V} {d : D} {vs : List V} {ds : List D} : Rt K F H v d → Rts K F H vs ds → Rts K F H (v :: vs) (d :: ds)
def isTmp : Opd → Bool
  | .val ⟨.own, _⟩ => true
  | _ => false
inductive Opds (K : KW) (H0 : Hp) (F : Addr → Prop) (H : Hp) (σd : EnvD) (σ : St) : List V → List Opd → Prop
  | nil : Opds K H0 F H σd σ [] []
  | cons {v : V} {o : Opd} {vs : List V} {os : List Opd} : OpV K H0 F H σd σ v o → Opds K H0 F H σd σ vs os →
      (isTmp o = true → ∀ (k : Nat) (w : V) (o' : Opd), vs[k]? = some w → os[k]? = some o' → isTmp o' = true → w ≠ v) → Opds K H0 F H σd σ (v :: vs) (o :: os)

section
variable {F F1 F2 F' : Addr → Prop} {H H1 H2 H0 H' : Hp} {σd σd1 σd2 σd' : EnvD} {σ : St} {v : V} {sv : SV}
theorem SR.rt (s : SR K F H v sv) : Rt K F H v sv.d := by
  by_cases hm : sv.md = .frz
  · obtain ⟨m, d⟩ := sv
    cases hm
    exact .rp s
  · obtain ⟨a, rfl, _, c⟩ := (SR.own hm).mp s
    exact .ct c
theorem Res.rt (r : Res K H0 F H v sv) : Rt K F H v sv.d := by
  obtain ⟨m, d⟩ := sv
  cases m with
  | frz => exact .rp r
  | own => obtain ⟨a, rfl, _, _, c⟩ := r; exact .ct c
  | lck => exact r.elim
theorem OpV.rt {o : Opd} (e : ER K F H σd σ) (r : OpV K H0 F H σd σ v o) (g : getO σd o = some sv) : Rt K F H v sv.d := by
  cases o with
  | val sv' => cases g; exact Res.rt r
  | slot i =>
    obtain ⟨w, q, s⟩ := e.at_ i sv g
    have r : σ[i]? = some (some v) := r
    rw [r] at q; cases q
    exact s.rt
theorem Opds.rts (e : ER K F H σd σ) : ∀ {vs : List V} {os : List Opd} {svs : List SV}, Opds K H0 F H σd σ vs os → getOs σd os = some svs → Rts K F H vs (svs.map (·.d))
  | _, _, _, .nil, g => by cases g; exact .nil
  | _, _, svs, .cons (o := o) (os := os) a b _, g => by
    rw [getOs] at g
    cases h1 : getO σd o with
    | none => rw [h1] at g; cases g
    | some x =>
      rw [h1] at g
      cases h2 : getOs σd os with
      | none => rw [h2] at g; cases g
      | some xs =>
        rw [h2] at g; cases g
        exact .cons (a.rt e h1) (b.rts e h2)
end

section
variable {F F1 F2 : Addr → Prop} {H H1 H2 H0 : Hp} {σd σd1 σd2 : EnvD} {σ : St} {v : V}
theorem OpV.keep {o : Opd} (r : OpV K H0 F1 H1 σd1 σ v o) (e0 : ∀ a, OwnA σd1 σ a → H0 a ≠ none) (n : Nx K F1 H1 σd1 σ F2 H2 σd2) (e1 : ER K F1 H1 σd1 σ) : OpV K H0 F2 H2 σd2 σ v o := by
  cases o with
  | val sv => exact Res.keep r e0 n e1
  | slot i => exact r
theorem OpV.old {B : Addr → Prop} {o : Opd} (r : OpV K H1 F2 H2 σd1 σ v o) (l : Le B F H F1 H1) : OpV K H F2 H2 σd1 σ v o := by
  cases o with
  | val sv => exact Res.old r l
  | slot i => exact r
end

section
variable (X : Cx) (W : WX)
/-- what is wanted behind an expression's value -/
def PostE (F : Addr → Prop) (H : Hp) (σd : EnvD) (σ : St) (r : R (SV × EnvD)) (Q : VK) : Prop := match r with
  | .ok p => ∀ F' H' v, Nx X.kw F H σd σ F' H' p.2 → Res X.kw H F' H' v p.1 → Q v H'
  | .exc c σd' => ∀ F' H' Ca, Nx X.kw F H σd σ F' H' σd' → X.mg c = some (.ref Ca) → W (.ref Ca) none σ H'
  | .bad => False
def PostO (F : Addr → Prop) (H : Hp) (σd : EnvD) (σ : St) (r : R (Opd × EnvD)) (Q : VK) : Prop := match r with
  | .ok p => ∀ F' H' v, Nx X.kw F H σd σ F' H' p.2 → OpV X.kw H F' H' p.2 σ v p.1 → Q v H'
  | .exc c σd' => ∀ F' H' Ca, Nx X.kw F H σd σ F' H' σd' → X.mg c = some (.ref Ca) → W (.ref Ca) none σ H'
  | .bad => False
def PostT (F : Addr → Prop) (H : Hp) (σd : EnvD) (σ : St) (r : R (Bool × EnvD)) (Q : Bool → Hp → Prop) : Prop := match r with
  | .ok p => ∀ F' H', Nx X.kw F H σd σ F' H' p.2 → Q p.1 H'
  | .exc c σd' => ∀ F' H' Ca, Nx X.kw F H σd σ F' H' σd' → X.mg c = some (.ref Ca) → W (.ref Ca) none σ H'
  | .bad => False
def tE (m : EnvD → R (SV × EnvD)) : TE := fun σ H Q => ∃ F σd, ER X.kw F H σd σ ∧ PostE X W F H σd σ (m σd) Q
def tO (m : EnvD → R (Opd × EnvD)) : TE := fun σ H Q => ∃ F σd, ER X.kw F H σd σ ∧ PostO X W F H σd σ (m σd) Q
def tT (m : EnvD → R (Bool × EnvD)) : TT := fun σ H Q => ∃ F σd, ER X.kw F H σd σ ∧ PostT X W F H σd σ (m σd) Q
/-- a list of operands; of values that are kept -/
def tAs (m : EnvD → R (List Opd × EnvD)) : TA := fun σ H Q => ∃ F σd, ER X.kw F H σd σ ∧ (match m σd with
  | .ok p => ∀ F' H' vs, Nx X.kw F H σd σ F' H' p.2 → Opds X.kw H F' H' p.2 σ vs p.1 → Q vs H'
  | .exc c σd' => ∀ F' H' Ca, Nx X.kw F H σd σ F' H' σd' → X.mg c = some (.ref Ca) → W (.ref Ca) none σ H'
  | .bad => False)
def tVs (m : EnvD → R (List D × EnvD)) : TA := fun σ H Q => ∃ F σd, ER X.kw F H σd σ ∧ (match m σd with
  | .ok p => ∀ F' H' vs, Nx X.kw F H σd σ F' H' p.2 → Rps X.kw F' H' vs p.1 → Q vs H'
  | .exc c σd' => ∀ F' H' Ca, Nx X.kw F H σd σ F' H' σd' → X.mg c = some (.ref Ca) → W (.ref Ca) none σ H'
  | .bad => False)
/-- an operation by values -/
def rO (o : Op) (vs : List V) (H : Hp) (Q : VK) : Prop := ∃ F ds sv, (∀ a, F a → H a ≠ none) ∧ Rts X.kw F H vs ds ∧ opD o ds = some sv ∧ ∀ F' H' v, Le No F H F' H' → Res X.kw H F' H' v sv → Q v H'
end

section
variable {X : Cx} {W : WX} {F : Addr → Prop} {H : Hp} {σd : EnvD} {σ : St}
/-- an expression that is followed by more -/
theorem PostE.bind {r : R (SV × EnvD)} {f : SV × EnvD → R (SV × EnvD)} {Q Q' : VK} (h : PostE X W F H σd σ (r.bind f) Q)
    (g : ∀ p F1 H1 v, r = .ok p → Nx X.kw F H σd σ F1 H1 p.2 → Res X.kw H F1 H1 v p.1 → PostE X W F H σd σ (f p) Q → Q' v H1) : PostE X W F H σd σ r Q' := by
  cases r with
  | ok p => exact fun F1 H1 v n rs => g p F1 H1 v rfl n rs h
  | exc c s => exact h
  | bad => exact h
theorem PostO.bind {r : R (Opd × EnvD)} {f : Opd × EnvD → R (SV × EnvD)} {Q Q' : VK} (h : PostE X W F H σd σ (r.bind f) Q)
    (g : ∀ p F1 H1 v, r = .ok p → Nx X.kw F H σd σ F1 H1 p.2 → OpV X.kw H F1 H1 p.2 σ v p.1 → PostE X W F H σd σ (f p) Q → Q' v H1) : PostO X W F H σd σ r Q' := by
  cases r with
  | ok p => exact fun F1 H1 v n rs => g p F1 H1 v rfl n rs h
  | exc c s => exact h
  | bad => exact h
/-- what is wanted from further on -/
theorem PostE.on {F1 : Addr → Prop} {H1 : Hp} {σd1 : EnvD} {r : R (SV × EnvD)} {Q : VK} (e : ER X.kw F H σd σ) (n : Nx X.kw F H σd σ F1 H1 σd1) (h : PostE X W F H σd σ r Q) : PostE X W F1 H1 σd1 σ r Q := by
  cases r with
  | ok p =>
    intro F' H' v n' rs
    refine h F' H' v (n.trans n') ?_
    exact rs.old n.le
  | exc c s => exact fun F' H' Ca n' g => h F' H' Ca (n.trans n') g
  | bad => exact h
theorem PostT.on {F1 : Addr → Prop} {H1 : Hp} {σd1 : EnvD} {r : R (Bool × EnvD)} {Q : Bool → Hp → Prop} (n : Nx X.kw F H σd σ F1 H1 σd1) (h : PostT X W F H σd σ r Q) : PostT X W F1 H1 σd1 σ r Q := by
  cases r with
  | ok p => exact fun F' H' n' => h F' H' (n.trans n')
  | exc c s => exact fun F' H' Ca n' g => h F' H' Ca (n.trans n') g
  | bad => exact h
theorem PostO.on {F1 : Addr → Prop} {H1 : Hp} {σd1 : EnvD} {r : R (Opd × EnvD)} {Q : VK} (n : Nx X.kw F H σd σ F1 H1 σd1) (h : PostO X W F H σd σ r Q) : PostO X W F1 H1 σd1 σ r Q := by
  cases r with
  | ok p => exact fun F' H' v n' rs => h F' H' v (n.trans n') (rs.old n.le)
  | exc c s => exact fun F' H' Ca n' g => h F' H' Ca (n.trans n') g
  | bad => exact h
end
end
end RH
set_option maxRecDepth 100000
/-! The model's syntax against the mini language: a check. -/
namespace RH
open PySem L2

/-- where an expression stands: the names by slot, the scope -/
structure CC where
  N : List Str
  sc : Scope
  fs : List Str
  xs : List Str
  hs : List (Str × Str × Bool)
def isSlot (c : CC) (i : Nat) (x : Str) : Bool := decide (c.N[i]? = some x) && (match c.sc.names.lookup x with
  | some .local => true
  | some .cell => true
  | some .free => true
  | _ => false) && !(x == ("__debug__" : Str)) && !(x == ("__classdict__" : Str))
/-- a slot that may be stored by its name -/
def isLoc (c : CC) (i : Nat) (x : Str) : Bool := decide (c.N[i]? = some x) && (match c.sc.names.lookup x with
  | some .local => true
  | _ => false)
def isGl (c : CC) (x : Str) : Bool := decide (c.sc.names.lookup x = some .globalImplicit) && !(x == ("__debug__" : Str))
def mtC : D → Const → Bool
  | .none, .none => true
  | .bool a, .bool b => decide (a = b)
  | .int a, .int b => decide (a = b)
  | .str a, .str b => decide (a = b)
  | _, _ => false
def binOf : Operator → Option Op
  | .Add => some .add
  | .Sub => some .sub
  | .Mult => some .mul
  | .FloorDiv => some .fdiv
  | .Mod => some .mod
  | .Pow => some .pow
  | _ => none
def cmpOf : CmpOp → Option Op
  | .Lt => some .lt
  | .LtE => some .le
  | .Gt => some .gt
  | .GtE => some .ge
  | .Eq => some .eq
  | .NotEq => some .ne
  | .In => some .isin
  | .NotIn => some .notin
  | _ => none
/-- the built-in functions, by name and how many arguments -/
def bltOf (f : Str) : Nat → Option Op
  | 1 => if f = "len" then some .len else if f = "abs" then some .abs else if f = "sum" then some .sum else if f = "all" then some .all
    else if f = "any" then some .any else if f = "sorted" then some .sorted else if f = "max" then some .maxL else if f = "min" then some .minL else none
  | 2 => if f = "min" then some .min2 else if f = "max" then some .max2 else if f = "divmod" then some .divmod else none
  | _ => none
/-- the built-in classes -/
def tyOf (f : Str) : Nat → Option Op
  | 1 => if f = "list" then some .list else if f = "tuple" then some .tuple else if f = "int" then some .int else if f = "str" then some .str else none
  | _ => none
def tyNm : Ty → Str
  | .int => "int"
  | .bool => "bool"
  | .str => "str"
  | .tuple => "tuple"
  | .list => "list"
/-- built-in names that must be as they were -/
def blts : List Str := ["len", "abs", "sum", "all", "any", "sorted", "max", "min", "divmod", "list", "tuple", "int", "str", "bool", "isinstance", "range", "enumerate", "zip", "set", "reversed", "dict"]
def unB : Expr → Expr
  | .BoolOp _ [q] _ => q
  | e => e
/-- what stands as a plain index -/
def plainIx : Expr → Bool
  | .Slice .. => false
  | _ => true
def noStar : Expr → Bool
  | .Starred .. => false
  | _ => true
def noCall : Expr → Bool
  | .Call .. => false
  | _ => true
def lastName : Expr → Str
  | .Name x _ => x
  | _ => ""
def isSlotE (c : CC) (i : Nat) : Expr → Bool
  | .Name x _ => isSlot c i x
  | _ => false
mutual
def mtP (c : CC) : MP → Expr → Bool
  | .name i, .Name x _ => isLoc c i x
  | .tup ps, .Tuple es _ _ => mtPs c ps es
  | _, _ => false
def mtPs (c : CC) : List MP → List Expr → Bool
  | [], [] => true
  | p :: ps, e :: es => mtP c p e && mtPs c ps es
  | _, _ => false
end
/-- the clause's own names, by slot -/
def ownOf (N : List Str) (own : List Nat) : List (Str × Nat) := own.filterMap fun i => (N[i]?).map fun x => (x, i)
def methOk (m : Str) : Nat → Bool
  | 0 => decide (m = "pop") || decide (m = "clear")
  | 1 => decide (m = "append") || decide (m = "extend") || decide (m = "pop")
  | 2 => decide (m = "insert")
  | _ => false
def tgOk : MI → Expr → Bool
  | .enum _, .Tuple .. => true
  | .enum _, _ => false
  | .zip _ _, .Tuple .. => true
  | .zip _ _, _ => false
  | _, _ => true
/-- the defs that have one keyword-only parameter behind two others: its name, its default -/
def kwOf (f : Str) : Option (Str × D) := if f = "code_text" then some ("left_out", .bool false) else if f = "put_together" then some ("handles", .int 0) else none
def isCst : ME → D → Bool
  | .cst (.bool a), .bool b => decide (a = b)
  | .cst (.int a), .int b => decide (a = b)
  | _, _ => false
mutual
def mt (c : CC) : ME → Expr → Bool
  | .var i, e => match e with
    | .Name x _ => isSlot c i x
    | _ => false
  | .cst d, e => match e with
    | .Constant k _ _ => mtC d k
    | _ => false
  | .glo x, e => match e with
    | .Name y _ => decide (x = y) && isGl c y
    | _ => false
  | .and a b, e => match e with
    | .BoolOp .And (p :: q :: r) pos => mt c a p && mt c b (unB (.BoolOp .And (q :: r) pos))
    | _ => false
  | .or a b, e => match e with
    | .BoolOp .Or (p :: q :: r) pos => mt c a p && mt c b (unB (.BoolOp .Or (q :: r) pos))
    | _ => false
  | .not a, e => match e with
    | .UnaryOp .Not p _ => mt c a p
    | _ => false
  | .ife t a b, e => match e with
    | .IfExp p q r _ => mt c t p && mt c a q && mt c b r
    | _ => false
  | .chain o1 o2 a b d, e => match e with
    | .Compare p [op1, op2] [q, r] _ => decide (cmpOf op1 = some o1) && decide (cmpOf op2 = some o2) && mt c a p && mt c b q && mt c d r && !(op1 == .In) && !(op1 == .NotIn) && !(op2 == .In) && !(op2 == .NotIn)
    | _ => false
  | .tup es, e => match e with
    | .Tuple ps _ _ => mts c es ps
    | _ => false
  | .lst es, e => match e with
    | .List ps _ => mts c es ps
    | _ => false
  | .dct es, e => match e with
    | .Dict ks vs _ => mtD c es ks vs && decide (ks.length ≤ 15)
    | _ => false
  | .call f es, e => match e with
    | .Call (.Name g _) ps [] _ => decide (f = g) && isGl c g && c.fs.contains f && (match kwOf f with
      | none => mts c es ps
      | some kd => decide (ps.length = 2) && mtKw c es ps (.inr kd.2))
    | .Call (.Name g _) ps [⟨some k, v, _⟩] _ => decide (f = g) && isGl c g && c.fs.contains f && (match kwOf f with
      | none => false
      | some kd => decide (kd.1 = k) && decide (ps.length = 2) && mtKw c es ps (.inl v))
    | _ => false
  | .comp own p it cs el, e => match e with
    | .ListComp elt [⟨tg, iter, ifs, 0⟩] scope _ => mtI c it iter && tgOk it tg && blkC c.N c.sc scope (ownOf c.N own) && decide ((ownOf c.N own).map (·.2) = own) && mtP ⟨c.N, relS scope c.sc, c.fs, c.xs, c.hs⟩ p tg && (pat p).all (own.contains ·) && decide (ifs.length ≤ 1) && mts ⟨c.N, relS scope c.sc, c.fs, c.xs, c.hs⟩ cs ifs && mt ⟨c.N, relS scope c.sc, c.fs, c.xs, c.hs⟩ el elt
    | _ => false
  | .meth m i es, e => match e with
    | .Call (.Attribute o n ap) ps [] cp => decide (m = n) && isSlotE c i o && mts c es ps && (ap.endLine == cp.line) && methOk m ps.length
    | _ => false
  | .slice a l h, e => match e with
    | .Subscript p (.Slice lo hi none _) _ => mt c a p && (match lo with
      | none => isNoneM l
      | some q => mt c l q && !isNoneM l) && (match hi with
      | none => isNoneM h
      | some q => mt c h q && !isNoneM h)
    | _ => false
  | .getd o k x, e => match e with
    | .Call (.Attribute p n ap) [q, r] [] cp => decide (n = "get") && mt c o p && mt c k q && mt c x r && (ap.endLine == cp.line) && noCall p && noStar q && noStar r
    | _ => false
  | .join o a, e => match e with
    | .Call (.Attribute p n ap) [q] [] cp => decide (n = "join") && mt c o p && mt c a q && (ap.endLine == cp.line) && noCall p && noStar q
    | _ => false
  | .op o es, e => match o, es, e with
    | .isN, .cons a .nil, .Compare p [.Is] [.Constant .none _ _] _ => mt c a p
    | .notN, .cons a .nil, .Compare p [.IsNot] [.Constant .none _ _] _ => mt c a p
    | .isB, .cons a (.cons b .nil), .Compare p [.Is] [.Constant (.bool x) k ps] _ => mt c a p && mt c b (.Constant (.bool x) k ps)
    | .notB, .cons a (.cons b .nil), .Compare p [.IsNot] [.Constant (.bool x) k ps] _ => mt c a p && mt c b (.Constant (.bool x) k ps)
    | .neg, .cons a .nil, .UnaryOp .USub p _ => mt c a p
    | .isinst t, .cons a .nil, .Call (.Name "isinstance" _) [p, .Name ty _] [] _ => isGl c "isinstance" && isGl c ty && decide (ty = tyNm t) && mt c a p && noStar p
    | .lrng1, .cons a .nil, .Call (.Name "list" _) [.Call (.Name "range" _) [p] [] _] [] _ => isGl c "list" && isGl c "range" && mt c a p && noStar p
    | .lrng2, .cons a (.cons b .nil), .Call (.Name "list" _) [.Call (.Name "range" _) [p, q] [] _] [] _ => isGl c "list" && isGl c "range" && mt c a p && mt c b q && noStar p && noStar q
    | .sortedSet, .cons a .nil, .Call (.Name "sorted" _) [.Call (.Name "set" _) [p] [] _] [] _ => isGl c "sorted" && isGl c "set" && mt c a p && noStar p
    | .slRev, .cons a .nil, .Subscript p (.Slice none none (some (.UnaryOp .USub (.Constant (.int 1) _ _) _)) _) _ => mt c a p
    | .ix, .cons a (.cons b .nil), .Subscript p q _ => mt c a p && mt c b q && plainIx q
    | o, .cons a (.cons b .nil), .BinOp p op q _ => decide (binOf op = some o) && mt c a p && mt c b q
    | o, .cons a (.cons b .nil), .Compare p [op] [q] _ => decide (cmpOf op = some o) && mt c a p && mt c b q && (match q with | .Set .. => false | _ => true)
    | o, es, .Call (.Name f _) ps [] _ => isGl c f && mts c es ps && (decide (bltOf f ps.length = some o) || decide (tyOf f ps.length = some o))
    | _, _, _ => false
def mts (c : CC) : MEs → List Expr → Bool
  | .nil, es => match es with
    | [] => true
    | _ => false
  | .cons m ms, es => match es with
    | e :: r => mt c m e && noStar e && mts c ms r
    | _ => false
/-- the arguments, and one more: by a keyword, or left to its default -/
def mtKw (c : CC) : MEs → List Expr → Expr ⊕ D → Bool
  | .nil, _, _ => false
  | .cons m ms, es, t => match ms, es, t with
    | .nil, [], .inl v => mt c m v
    | .nil, [], .inr d => isCst m d
    | ms, e :: r, t => mt c m e && noStar e && mtKw c ms r t
    | _, _, _ => false
def mtD (c : CC) : MEs → List (Option Expr) → List Expr → Bool
  | .nil, ks, vs => match ks, vs with
    | [], [] => true
    | _, _ => false
  | .cons k (.cons v ms), ks, vs => match ks, vs with
    | some a :: r, b :: s => mt c k a && mt c v b && mtD c ms r s
    | _, _ => false
  | .cons _ .nil, _, _ => false
def mtI (c : CC) : MI → Expr → Bool
  | .rng1 a, e => match e with
    | .Call (.Name "range" _) [p] [] _ => isGl c "range" && mt c a p && noStar p
    | _ => false
  | .rng2 a b, e => match e with
    | .Call (.Name "range" _) [p, q] [] _ => isGl c "range" && mt c a p && mt c b q && noStar p && noStar q
    | _ => false
  | .rng3 a b d, e => match e with
    | .Call (.Name "range" _) [p, q, r] [] _ => isGl c "range" && mt c a p && mt c b q && mt c d r && noStar p && noStar q && noStar r
    | _ => false
  | .enum a, e => match e with
    | .Call (.Name "enumerate" _) [p] [] _ => isGl c "enumerate" && mt c a p && noStar p
    | _ => false
  | .zip a b, e => match e with
    | .Call (.Name "zip" _) [p, q] [] _ => isGl c "zip" && mt c a p && mt c b q && noStar p && noStar q
    | _ => false
  | .items a, e => match e with
    | .Call (.Attribute p "items" _) [] [] _ => false
    | _ => false
  | .seq a, e => mt c a e && (match e with | .Set .. => false | _ => true)
end
/-- targets of a statement: names of the def's own, or cells -/
def isSto (c : CC) (i : Nat) (x : Str) : Bool := decide (c.N[i]? = some x) && (match c.sc.names.lookup x with
  | some .local => true
  | some .cell => true
  | _ => false)
mutual
def mtQ (c : CC) : MP → Expr → Bool
  | .name i, .Name x _ => isSto c i x
  | .tup ps, .Tuple es _ _ => mtQs c ps es
  | _, _ => false
def mtQs (c : CC) : List MP → List Expr → Bool
  | [], [] => true
  | p :: ps, e :: es => mtQ c p e && mtQs c ps es
  | _, _ => false
end
def mtNames (c : CC) : List Nat → List Expr → Bool
  | [], [] => true
  | i :: is, .Name x _ :: es => isSto c i x && mtNames c is es
  | _, _ => false
/-- swappedStores, told by the scope -/
def swV (sc : Scope) (ts vs : List Expr) : Option (Option (List Str)) :=
  if !(ts.length == 2 || ts.length == 3) || vs.length != ts.length then some none
  else if vs.any fun | .Starred .. => true | _ => false then some none
  else
    let line := (ts.head?.map (·.pos.line)).getD 0
    let names := ts.filterMap fun
      | .Name id pos => if sc.names.lookup id == some .local && pos.line == line then some id else none
      | _ => none
    if names.length != ts.length || names.eraseDups.length != names.length then some none
    else if vs.all (foldedForSure 8) then some none
    else if vs.all (constantsAlone 8) then none
    else some (some names)
/-- what may stand in an except suite -/
def simpleH : MSs → Bool
  | .nil => true
  | .cons (.ret (.cst _)) r => simpleH r
  | .cons (.set _ (.cst _)) r => simpleH r
  | .cons .pass r => simpleH r
  | _ => false
mutual
def mtS (c : CC) : MS → Stmt → Bool
  | .expr m, s => match s with
    | .Expr e _ => mt c m e && (match e with | .ListComp .. => false | .SetComp .. => false | .DictComp .. => false | _ => true)
    | _ => false
  | .set i m, s => match s with
    | .Assign [.Name x _] e _ => isSto c i x && mt c m e
    | _ => false
  | .setp p m, s => match s with
    | .Assign [.Tuple es k pos] e _ => (match p with | .tup _ => true | _ => false) && mtQ c p (.Tuple es k pos) && mt c m e && (match e with | .Tuple .. => false | _ => true)
    | _ => false
  | .par is ms, s => match s with
    | .Assign [.Tuple es _ _] (.Tuple vs _ _) _ => mtNames c is es && mts c ms vs && decide (is.Nodup) && decide (is.length = vs.length) && decide (is.length ≤ 15) && (swV c.sc es vs).isSome
    | _ => false
  | .aug i o m, s => match s with
    | .AugAssign (.Name x _) op e _ => isSto c i x && (match op, o with | .Add, .add => true | .Sub, .sub => true | _, _ => false) && mt c m e
    | _ => false
  | .put i k m, s => match s with
    | .Assign [.Subscript o q _] e _ => isSlotE c i o && mt c k q && mt c m e && plainIx q
    | _ => false
  | .putS i l h m, s => match s with
    | .Assign [.Subscript o (.Slice (some lo) (some hi) none _) _] e _ => isSlotE c i o && mt c l lo && mt c h hi && mt c m e
    | _ => false
  | .ret m, s => match s with
    | .Return (some e) _ => mt c m e
    | _ => false
  | .ret0, s => match s with
    | .Return none _ => true
    | _ => false
  | .ifs t a b, s => match s with
    | .If e x y _ => mt c t e && mtSS c a x && mtSS c b y
    | _ => false
  | .while t b, s => match s with
    | .While e x [] _ => mt c t e && mtSS c b x
    | _ => false
  | .for p it b, s => match s with
    | .For tg iter x [] _ => mtQ c p tg && mtI c it iter && tgOk it tg && mtSS c b x
    | _ => false
  | .raise x, s => match s with
    | .Raise (some (.Call (.Name y _) [.Constant (.str _) _ _] [] _)) none _ => decide (x = y) && isGl c y && c.xs.contains x
    | _ => false
  | .try1 b x tab h, s => match s with
    | .Try body [.ExceptHandler (some (.Name y _)) none suite _] [] [] _ => decide (x = y) && isGl c y && mtSS c b body && simpleH h && !suite.isEmpty && mtSS c h suite && !tab.isEmpty && (tab.all fun p => c.hs.contains (p.1, x, p.2))
    | _ => false
  | .pass, s => match s with
    | .Pass _ => true
    | _ => false
  | .brk, s => match s with
    | .Break _ => true
    | _ => false
  | .cont, s => match s with
    | .Continue _ => true
    | _ => false
def mtSS (c : CC) : MSs → List Stmt → Bool
  | .nil, ss => match ss with
    | [] => true
    | _ => false
  | .cons m ms, ss => match ss with
    | s :: r => mtS c m s && mtSS c ms r
    | _ => false
end
/-- a def of the text: its names by slot, its body -/
def mtDef (fs xs : List Str) (hs : List (Str × Str × Bool)) (N P : List Str) (fd : FD) (st : Stmt) : Bool :=
  decide (fd.np = P.length) && decide (fd.ns = N.length) && mtSS ⟨N, defScope st, fs, xs, hs⟩ fd.body (defBody st) && (match (defScope st).kind with | .function => true | _ => false) && !(defScope st).isCoroutine && !(defScope st).isGenerator &&
    decide N.Nodup && decide (N.take P.length = P) && (P.all fun x => match (defScope st).names.lookup x with | some .local => true | some .cell => true | _ => false) && ((defScope st).names.all fun y => match y.2 with | .free => false | _ => true)
end RH
set_option maxRecDepth 100000
set_option maxHeartbeats 4000000
/-! The operations: what opD gives, the model does. -/
namespace RH
open PySem PySem.Spec L2

theorem ite_none {α : Type} {p : Prop} [Decidable p] {x : Option α} {y : α} (h : (if p then x else none) = some y) : p ∧ x = some y := by
  by_cases q : p
  · rw [if_pos q] at h; exact ⟨q, h⟩
  · rw [if_neg q] at h; cases h
section
variable {K : KW} {F F' : Addr → Prop} {H H' : Hp} {v : V} {d : D}
theorem Rt.int {i : Int} (h : Rt K F H v (.int i)) : v = .int i := by
  cases h with
  | rp h => cases h; rfl
  | ct h => cases h
theorem Rt.str {x : Str} (h : Rt K F H v (.str x)) : v = .str x := by
  cases h with
  | rp h => cases h; rfl
  | ct h => cases h
theorem Rt.bool {b : Bool} (h : Rt K F H v (.bool b)) : v = .bl b := by
  cases h with
  | rp h => cases h; rfl
  | ct h => cases h
theorem Rt.none_ (h : Rt K F H v .none) : v = .non := by
  cases h with
  | rp h => cases h; rfl
  | ct h => cases h
theorem Rt.tup {ds : List D} (h : Rt K F H v (.tuple ds)) : ∃ a vs, v = .ref a ∧ SqT K H a vs ∧ Rps K F H vs ds := by
  cases h with
  | rp h => cases h with | tup a b => exact ⟨_, _, rfl, a, b⟩
  | ct h => cases h
theorem Rt.lst {ds : List D} (h : Rt K F H v (.list ds)) : ∃ a vs, v = .ref a ∧ Rd H a (.lst vs) ∧ Rps K F H vs ds := by
  cases h with
  | rp h => cases h with | lst _ a b => exact ⟨_, _, rfl, a, b⟩
  | ct h => cases h with | lst a b => exact ⟨_, _, rfl, .inl a, b⟩
theorem RpN.notK {L : List (NestedKey × Addr × V)} {ds : List (D × D)} (h : RpN K F H L ds) (n : L ≠ []) : allK ds = false := by
  cases h with
  | nil => exact absurd rfl n
  | cons a _ _ _ =>
    obtain ⟨⟨xs, rfl⟩, _⟩ := tk_of a
    rfl
theorem RpK.notT {kvs : List (Key × V)} {ds : List (D × D)} (h : RpK K F H kvs ds) (ha : allT ds = true) : kvs = [] ∧ ds = [] := by
  cases h with
  | nil => exact ⟨rfl, rfl⟩
  | @cons k v kd d r s a _ _ =>
    unfold allT at ha
    rw [List.all_cons, Bool.and_eq_true] at ha
    obtain ⟨k', e⟩ := Option.isSome_iff_exists.mp ha.1
    obtain ⟨⟨xs, rfl⟩, _⟩ := tk_of e
    cases a
theorem Rt.dct {ds : List (D × D)} (h : Rt K F H v (.dict ds)) : ∃ a, v = .ref a ∧ ((∃ kvs, Rd H a (.dK kvs) ∧ RpK K F H kvs ds) ∨ ∃ L, Rd H a (DN K.w a L) ∧ L ≠ [] ∧ RpN K F H L ds) := by
  cases h with
  | rp h =>
    cases h with
    | dct _ a b => exact ⟨_, rfl, .inl ⟨_, a, b⟩⟩
    | dcn _ a n b => exact ⟨_, rfl, .inr ⟨_, a, n, b⟩⟩
  | ct h =>
    cases h with
    | dct a b => exact ⟨_, rfl, .inl ⟨_, .inl a, b⟩⟩
    | dcn a n b => exact ⟨_, rfl, .inr ⟨_, .inl a, n, b⟩⟩
theorem Rt.dctK {ds : List (D × D)} (h : Rt K F H v (.dict ds)) (ha : allK ds = true) : ∃ a kvs, v = .ref a ∧ Rd H a (.dK kvs) ∧ RpK K F H kvs ds := by
  obtain ⟨a, rfl, ⟨kvs, b, c⟩ | ⟨L, b, n, c⟩⟩ := h.dct
  · exact ⟨a, kvs, rfl, b, c⟩
  · rw [c.notK n] at ha; cases ha
theorem Rt.dctT {ds : List (D × D)} (h : Rt K F H v (.dict ds)) (ha : allT ds = true) : ∃ a L, v = .ref a ∧ IsN K.w H a L ∧ RpN K F H L ds := by
  obtain ⟨a, rfl, ⟨kvs, b, c⟩ | ⟨L, b, n, c⟩⟩ := h.dct
  · obtain ⟨rfl, rfl⟩ := c.notT ha
    exact ⟨a, [], rfl, .inr ⟨rfl, b⟩, .nil⟩
  · exact ⟨a, L, rfl, .inl b, c⟩
theorem Rts.one {vs : List V} (h : Rts K F H vs [d]) : ∃ v, vs = [v] ∧ Rt K F H v d := by
  cases h with | cons a b => cases b; exact ⟨_, rfl, a⟩
theorem Rts.two {vs : List V} {e : D} (h : Rts K F H vs [d, e]) : ∃ v w, vs = [v, w] ∧ Rt K F H v d ∧ Rt K F H w e := by
  cases h with | cons a b => obtain ⟨w, rfl, c⟩ := b.one; exact ⟨_, _, rfl, a, c⟩
theorem Rts.three {vs : List V} {e g : D} (h : Rts K F H vs [d, e, g]) : ∃ v w x, vs = [v, w, x] ∧ Rt K F H v d ∧ Rt K F H w e ∧ Rt K F H x g := by
  cases h with | cons a b => obtain ⟨w, x, rfl, c⟩ := b.two; exact ⟨_, _, _, rfl, a, c⟩
theorem Rts.length : ∀ {vs : List V} {ds : List D}, Rts K F H vs ds → vs.length = ds.length
  | _, _, .nil => rfl
  | _, _, .cons _ b => congrArg (· + 1) b.length
mutual
theorem Rp.dp : ∀ (d : D) (v : V), d.canLay0 = true → Rp K F H v d → Dp K H v d
  | .none, _, _, h => by cases h; exact .non
  | .bool _, _, _, h => by cases h; exact .bl _
  | .int _, _, _, h => by cases h; exact .int _
  | .str _, _, _, h => by cases h; exact .str _
  | .list ds, _, z, h => by cases h with | lst _ a b => exact .lst (.inl a) (Rps.dp ds _ (by simpa [PyData.canLay0] using z) b)
  | .tuple ds, _, z, h => by cases h with | tup a b => exact .tup a (Rps.dp ds _ (by simpa [PyData.canLay0] using z) b)
  | .dict ds, _, z, h => by simp [PyData.canLay0] at z
theorem Rps.dp : ∀ (ds : List D) (vs : List V), PyData.canLayAll0 ds = true → Rps K F H vs ds → DpAll K H vs ds
  | [], _, _, h => by cases h; exact .nil
  | d :: ds, _, z, h => by
    have z' : d.canLay0 = true ∧ PyData.canLayAll0 ds = true := by simpa [PyData.canLayAll0] using z
    cases h with | cons a b => exact .cons (Rp.dp d _ z'.1 a) (Rps.dp ds _ z'.2 b)
end
theorem Rt.dp (h : Rt K F H v d) (ok : okD d = true) : Dp K H v d := by
  have z : d.canLay0 = true := SeqAt.canLay_of_shaped ok
  cases h with
  | rp h => exact Rp.dp _ _ z h
  | ct h =>
    cases h with
    | lst a b => exact .lst (.inl (.inl a)) (Rps.dp _ _ (by simpa [PyData.canLay0] using z) b)
    | dct a b => simp [PyData.canLay0] at z
    | dcn a n b => simp [PyData.canLay0] at z
theorem Rps.at {vs : List V} {ds : List D} {i : Int} {d : D} (h : Rps K F H vs ds) (e : atI ds i = some d) : ∃ v, atI vs i = some v ∧ Rp K F H v d := by
  unfold atI at e ⊢
  rw [h.length]
  cases q : ixN ds.length i with
  | none => rw [q] at e; cases e
  | some j =>
    rw [q] at e
    exact h.getD e
theorem Rps.cut {vs : List V} {ds : List D} {lo hi : Option Int} (h : Rps K F H vs ds) : Rps K F H (cutV vs lo hi) (cutD ds lo hi) := by
  unfold cutV cutD
  rw [h.length]
  exact (h.drop _).take _
theorem Rps.ints : ∀ {ds : List D} {vs : List V} {l : List Int}, Rps K F H vs ds → ints? ds = some l → vs = l.map V.int
  | [], _, _, h, e => by cases h; cases e; rfl
  | .int i :: ds, _, l, h, e => by
    rw [ints?] at e
    cases q : ints? ds with
    | none => rw [q] at e; cases e
    | some l' =>
      rw [q] at e; cases e
      cases h with
      | cons a b => cases a; rw [b.ints q]; rfl
  | .none :: _, _, _, _, e | .bool _ :: _, _, _, _, e | .str _ :: _, _, _, _, e | .list _ :: _, _, _, _, e | .tuple _ :: _, _, _, _, e | .dict _ :: _, _, _, _, e => by simp [ints?] at e
theorem Rps.bools : ∀ {ds : List D} {vs : List V} {l : List Bool}, Rps K F H vs ds → bools? ds = some l → vs = l.map V.bl
  | [], _, _, h, e => by cases h; cases e; rfl
  | .bool i :: ds, _, l, h, e => by
    rw [bools?] at e
    cases q : bools? ds with
    | none => rw [q] at e; cases e
    | some l' =>
      rw [q] at e; cases e
      cases h with
      | cons a b => cases a; rw [b.bools q]; rfl
  | .none :: _, _, _, _, e | .int _ :: _, _, _, _, e | .str _ :: _, _, _, _, e | .list _ :: _, _, _, _, e | .tuple _ :: _, _, _, _, e | .dict _ :: _, _, _, _, e => by simp [bools?] at e
/-- a dict's look-up -/
theorem RpK.look {k : Key} : ∀ {ds : List (D × D)} {kvs : List (Key × V)}, RpK K F H kvs ds → (∀ d, dLook ds k = some d → ∃ v, valV kvs k = some v ∧ Rp K F H v d) ∧ (dLook ds k = none → valV kvs k = none)
  | [], _, h => by cases h; exact ⟨fun _ e => (by cases e), fun _ => rfl⟩
  | (kd, d) :: ds, _, h => by
    cases h with
    | @cons k' v _ _ r _ a b c =>
      obtain ⟨h1, h2⟩ := c.look
      unfold dLook valV at *
      rw [List.find?_cons, List.find?_cons]
      simp only [a]
      by_cases e : k' = k
      · subst e
        simp only [decide_true, Option.map_some, Option.some.injEq]
        exact ⟨fun _ q => ⟨v, by simp, q ▸ b⟩, fun q => nomatch q⟩
      · have e' : ¬ some k' = some k := fun q => e (Option.some.inj q)
        simp only [decide_eq_false e', decide_eq_false e, Bool.false_eq_true, if_false]
        exact ⟨h1, h2⟩
end

section
variable {X : Cx} {F : Addr → Prop} {H : Hp} {Q : VK}
/-- what is wanted of a result -/
abbrev Want (X : Cx) (F : Addr → Prop) (H : Hp) (sv : SV) (Q : VK) : Prop := ∀ F' H' v, Le No F H F' H' → Res X.kw H F' H' v sv → Q v H'
theorem wHere {v : V} {d : D} (q : Want X F H (fz d) Q) (r : Rp X.kw F H v d) : Q v H := q F H v Le.refl r
theorem wTup {vs : List V} {ds : List D} (q : Want X F H (fz (.tuple ds)) Q) (r : Rps X.kw F H vs ds) {p : Addr} (hp : H p = none) : Q (.ref p) (upd H p (.tup vs)) :=
  q F _ _ (Le.new hp) (.tup (SqT.of upd_same) (Rps.mono ((Le.new (B := No) hp).pr bk_no) _ _ r))
theorem wLst {vs : List V} {ds : List D} (fd : ∀ a, F a → H a ≠ none) (q : Want X F H (ow (.list ds)) Q) (r : Rps X.kw F H vs ds) {p : Addr} (hp : H p = none) : Q (.ref p) (upd H p (.lst vs)) :=
  q F _ _ (Le.new hp) ⟨p, rfl, fun z => fd p z hp, hp, .lst upd_same (Rps.mono ((Le.new (B := No) hp).pr bk_no) _ _ r)⟩
theorem wDct {kvs : List (Key × V)} {ds : List (D × D)} (fd : ∀ a, F a → H a ≠ none) (q : Want X F H (ow (.dict ds)) Q) (r : RpK X.kw F H kvs ds) {p : Addr} (hp : H p = none) : Q (.ref p) (upd H p (.dK kvs)) :=
  q F _ _ (Le.new hp) ⟨p, rfl, fun z => fd p z hp, hp, .dct upd_same (RpK.mono ((Le.new (B := No) hp).pr bk_no) _ _ r)⟩
end

/-! ### two-place operators -/
def rb (X : Cx) (o : Op) : R2 := fun x y H Q => rO X o [x, y] H Q
section
variable {X : Cx}
theorem bt_eq {f : Value → Value → Sem Value} {r r' : R2} (h : OpR X f r') (i : ∀ x y H Q, r x y H Q → r' x y H Q) : OpR X f r :=
  fun pins s σ H x y v u Q I rx ry q => h pins s σ H x y v u Q I rx ry (i x y H Q q)
theorem op_or {f : Value → Value → Sem Value} {r r' : R2} (h : OpR X f r) (h' : OpR X f r') : OpR X f (fun x y H Q => r x y H Q ∨ r' x y H Q) :=
  fun pins s σ H x y v u Q I rx ry q => q.elim (h pins s σ H x y v u Q I rx ry) (h' pins s σ H x y v u Q I rx ry)
/-- lists that may be known objects: + -/
def rCatR (K : KW) : R2 := fun x y H Q => ∃ l b xs zs, x = .ref l ∧ y = .ref b ∧ Rd H l (.lst xs) ∧ Rd H b (.lst zs) ∧ xs.length + zs.length ≤ sizeLine ∧ ∀ p, H p = none → Q (.ref p) (upd H p (.lst (xs ++ zs)))
theorem rd_list {pins : List (Addr × Obj)} {σ : St} {H : Hp} {s : Shared} {l : Addr} {xs : List V} (I : Inv X pins σ H s) (h : Rd H l (.lst xs)) : ∃ (its : List Value) (n : Nat), xs.length ≤ sizeLine ∧ Vals xs its ∧ xs.length = its.length ∧ s.heap.get? l = some { cls := .type "list", data := .seq its.toArray n } := by
  obtain ⟨z, its, n, r, e⟩ := h.ok I.hok
  exact ⟨its, n, z, r, r.length, e⟩
theorem op_catR : OpR X (binaryOp .Add) (rCatR X.kw) := by
  intro pins s σ H x y v u Q I rx ry h
  obtain ⟨l, b, xs, zs, rfl, rfl, hH, hB, hz, q⟩ := h
  cases rx
  cases ry
  obtain ⟨its, n, z, r, hl, e⟩ := rd_list I hH
  obtain ⟨its2, n2, z2, r2, hl2, e2⟩ := rd_list I hB
  refine PySem.P.add_list e e2 ?_ (by rw [List.size_toArray, List.size_toArray]; omega)
  have ea : its.toArray ++ its2.toArray = (its ++ its2).toArray := by simp
  rw [ea]
  exact ⟨.ref _, _, I.lnew (t' := s.toks) (r.append r2) (by rw [List.length_append]; omega), rfl, q _ I.fresh⟩
theorem ok_add : OpR X (binaryOp .Add) (rb X .add) := by
  refine bt_eq (op_or op_add (op_or op_add_str (op_or op_catA op_catR))) fun x y H Q h => ?_
  obtain ⟨F, ds, sv, fd, rt, e0, q⟩ := h
  have e : dAdd ds = some sv := e0
  clear e0
  match ds, e with
  | [.int a, .int b], e =>
    obtain ⟨_, _, z, h1, h2⟩ := rt.two
    cases z
    cases (show fz (.int (a + b)) = sv from Option.some.inj e)
    rw [h1.int, h2.int]
    exact .inl ⟨a, b, rfl, rfl, wHere q (.int _)⟩
  | [.str a, .str b], e =>
    obtain ⟨_, _, z, h1, h2⟩ := rt.two
    cases z
    obtain ⟨hz, e⟩ := ite_none e
    cases e
    rw [h1.str, h2.str]
    exact .inr (.inl ⟨a, b, rfl, rfl, hz, wHere q (.str _)⟩)
  | [.tuple a, .tuple b], e =>
    obtain ⟨_, _, z, h1, h2⟩ := rt.two
    cases z
    obtain ⟨hz, e⟩ := ite_none e
    cases e
    obtain ⟨a1, vs, rfl, t1, r1⟩ := h1.tup
    obtain ⟨a2, ws, rfl, t2, r2⟩ := h2.tup
    refine .inr (.inr (.inl ⟨a1, a2, vs, ws, rfl, rfl, t1, t2, by rw [r1.length, r2.length]; exact hz, ?_, ?_, ?_⟩))
    · intro hx
      subst hx
      cases r1
      exact wHere q (.tup t2 r2)
    · intro _ hy
      subst hy
      cases r2
      rw [List.append_nil] at q
      exact wHere q (.tup t1 r1)
    · intro _ _ p hp
      exact wTup q (r1.append r2) hp
  | [.list a, .list b], e =>
    obtain ⟨_, _, z, h1, h2⟩ := rt.two
    cases z
    obtain ⟨hz, e⟩ := ite_none e
    cases e
    obtain ⟨a1, vs, rfl, t1, r1⟩ := h1.lst
    obtain ⟨a2, ws, rfl, t2, r2⟩ := h2.lst
    exact .inr (.inr (.inr ⟨a1, a2, vs, ws, rfl, rfl, t1, t2, by rw [r1.length, r2.length]; exact hz, fun p hp => wLst fd q (r1.append r2) hp⟩))

/-- two ints -/
theorem II_inv {f : Int → Int → Option D} {ds : List D} {sv : SV} (e : dII f ds = some sv) : ∃ a b d, ds = [.int a, .int b] ∧ f a b = some d ∧ sv = fz d := by
  match ds, e with
  | [.int a, .int b], e =>
    cases q : f a b with
    | none => simp [dII, q] at e
    | some d => simp [dII, q] at e; exact ⟨a, b, d, rfl, q, e.symm⟩
theorem ok_II {f : Value → Value → Sem Value} {C : Int → Int → Prop} {g : Int → Int → V} {fD : Int → Int → Option D} (h : OpR X f (rI C g)) (o : Op) (ho : ∀ ds, opD o ds = dII fD ds)
    (c : ∀ a b d, fD a b = some d → C a b ∧ ∀ F H, Rp X.kw F H (g a b) d) : OpR X f (rb X o) := by
  refine bt_eq h fun x y H Q z => ?_
  obtain ⟨F, ds, sv, fd, rt, e0, q⟩ := z
  rw [ho] at e0
  obtain ⟨a, b, d, rfl, e1, rfl⟩ := II_inv e0
  obtain ⟨_, _, z, h1, h2⟩ := rt.two
  cases z
  rw [h1.int, h2.int]
  obtain ⟨c1, c2⟩ := c a b d e1
  exact ⟨a, b, rfl, rfl, c1, wHere q (c2 F H)⟩
theorem ok_II0 {f : Value → Value → Sem Value} {g : Int → Int → V} {fD : Int → Int → Option D} (h : OpR X f (rI0 g)) (o : Op) (ho : ∀ ds, opD o ds = dII fD ds)
    (c : ∀ a b d, fD a b = some d → ∀ F H, Rp X.kw F H (g a b) d) : OpR X f (rb X o) :=
  ok_II (C := fun _ _ => True) (bt_eq h fun x y H Q z => by obtain ⟨i, j, e1, e2, _, q⟩ := z; exact ⟨i, j, e1, e2, q⟩) o ho fun a b d e => ⟨trivial, c a b d e⟩
theorem ok_sub : OpR X (binaryOp .Sub) (rb X .sub) := by
  refine ok_II0 (g := fun i j => .int (i - j)) op_sub .sub (fun _ => rfl) fun a b d e F H => ?_
  cases e; exact .int _
theorem ok_lt : OpR X (compareOp .Lt) (rb X .lt) := ok_II0 op_lt .lt (fun _ => rfl) fun a b d e F H => by cases e; exact .bl _
theorem ok_le : OpR X (compareOp .LtE) (rb X .le) := ok_II0 op_le .le (fun _ => rfl) fun a b d e F H => by cases e; exact .bl _
theorem ok_gt : OpR X (compareOp .Gt) (rb X .gt) := ok_II0 op_gt .gt (fun _ => rfl) fun a b d e F H => by cases e; exact .bl _
theorem ok_ge : OpR X (compareOp .GtE) (rb X .ge) := ok_II0 op_ge .ge (fun _ => rfl) fun a b d e F H => by cases e; exact .bl _
theorem ok_fdiv : OpR X (binaryOp .FloorDiv) (rb X .fdiv) := ok_II op_fdivW .fdiv (fun _ => rfl) fun a b d e => by
  unfold dFdiv at e
  split at e <;> cases e
  rename_i c
  exact ⟨wide_div c.1 c.2 (by unfold divBits; decide) (by unfold divBits; decide), fun F H => .int _⟩
theorem ok_mod : OpR X (binaryOp .Mod) (rb X .mod) := ok_II op_modN .mod (fun _ => rfl) fun a b d e => by
  unfold dMod at e
  split at e <;> cases e
  rename_i c
  exact ⟨c, fun F H => .int _⟩
theorem ok_pow : OpR X (binaryOp .Pow) (rb X .pow) := ok_II op_pow .pow (fun _ => rfl) fun a b d e => by
  unfold dPow at e
  split at e <;> cases e
  rename_i c
  exact ⟨c, fun F H => .int _⟩
def rRepR : R2 := fun x y H Q => ∃ l k xs, x = .ref l ∧ y = .int k ∧ Rd H l (.lst xs) ∧ -(2 ^ 63) ≤ k ∧ k < 2 ^ 63 ∧ xs.length * k.toNat ≤ sizeLine ∧
  ∀ p, H p = none → Q (.ref p) (upd H p (.lst (List.replicate k.toNat xs).flatten))
open PyProof.Rows in
theorem op_repR : OpR X (binaryOp .Mult) rRepR := by
  intro pins s σ H x y v u Q I rx ry h
  obtain ⟨l, k, xs, rfl, rfl, hH, h1, h2, hz, q⟩ := h
  cases rx
  obtain ⟨t, rfl⟩ := ry
  obtain ⟨its, n, z, r, hl, e⟩ := rd_list I hH
  have hlen : its.toArray.size * k.toNat ≤ sizeLine := by rw [List.size_toArray, ← hl]; exact hz
  have hcap : ¬ its.toArray.size * k.toNat > (2 ^ 63 - 1) / 8 := by
    have : (sizeLine : Nat) ≤ (2 ^ 63 - 1) / 8 := by decide
    omega
  have hfit : ¬ (!Builtin.List.listFitsIndex k) = true := by
    rw [fitsIndex_both h1 h2]
    exact Bool.false_ne_true
  have hlong : ¬ Builtin.List.listTooLong (its.toArray.size * k.toNat) = true := by
    rw [notLongL hlen]
    exact Bool.false_ne_true
  have hnew : List.foldl (fun x1 x2 => x1 ++ x2) #[] (List.replicate (if its.toArray.isEmpty = true then 0 else k.toNat) its.toArray) = (List.replicate k.toNat its).flatten.toArray := by
    have f0 : ∀ m : Nat, List.foldl (fun x1 x2 => x1 ++ x2) #[] (List.replicate m its.toArray) = (List.replicate m its).flatten.toArray := fun m => by
      have := foldl_rep its m []
      rw [List.nil_append] at this
      exact this
    rw [f0]
    cases its with
    | nil => simp
    | cons a r' => rw [if_neg (by simp)]
  refine wpAny_binaryOp_repeat_ref (T := "list") (U := "int") (by decide) ⟨_, e, rfl⟩ (fun s' => typeIs_int s' k t) noFill_list_mul F.fills_int_mul F.slot_int_rmul repeat_list F.slot_int_index.lookup
    (call_meets F.slot_int_rmul (typeIs_int s k t) F.entry_int_rmul (F.args_int_rmul_2 _ _) (int___rmul___int_list k t l its.toArray n)
      ⟨e, rfl, ⟨_, e, rfl⟩, call_meets F.slot_list_mul ⟨_, e, rfl⟩ F.entry_list_mul (F.args_list_mul_2 _ _) (AutoListH.list___mul___list_int_3 l its.toArray n k t hfit hcap hlong) ⟨e, ?_⟩⟩)
  rw [hnew]
  exact ⟨.ref _, _, I.lnew (t' := s.toks) (r.rep k.toNat) (by rw [PyProof.Rows.lm_len_rep_flat, Nat.mul_comm]; exact hz), rfl, q _ I.fresh⟩
theorem Rps.rep {K : KW} {F : Addr → Prop} {H : Hp} {vs : List V} {ds : List D} (h : Rps K F H vs ds) : ∀ n : Nat, Rps K F H (List.replicate n vs).flatten (List.replicate n ds).flatten
  | 0 => .nil
  | n + 1 => by
    rw [List.replicate_succ, List.replicate_succ, List.flatten_cons, List.flatten_cons]
    exact h.append (h.rep n)
theorem ok_mul : OpR X (binaryOp .Mult) (rb X .mul) := by
  refine bt_eq (op_or op_mulW op_repR) fun x y H Q h => ?_
  obtain ⟨F, ds, sv, fd, rt, e0, q⟩ := h
  have e : dMul ds = some sv := e0
  clear e0
  match ds, e with
  | [.int a, .int b], e =>
    obtain ⟨_, _, z, h1, h2⟩ := rt.two
    cases z
    obtain ⟨c, e⟩ := ite_none e
    cases e
    rw [h1.int, h2.int]
    exact .inl ⟨a, b, rfl, rfl, wide_mul c.1 c.2 (by unfold bigBits; decide) (by unfold bigBits; decide) (by unfold bigBits; decide), wHere q (.int _)⟩
  | [.list a, .int b], e =>
    obtain ⟨_, _, z, h1, h2⟩ := rt.two
    cases z
    obtain ⟨c, e⟩ := ite_none e
    cases e
    rw [h2.int]
    obtain ⟨a1, vs, rfl, t1, r1⟩ := h1.lst
    exact .inr ⟨a1, b, vs, rfl, rfl, t1, by omega, by omega, by rw [r1.length]; exact c.2.2, fun p hp => wLst fd q (r1.rep _) hp⟩
theorem ok_neg : UnR X (unaryOp .USub) (fun x H Q => rO X .neg [x] H Q) := by
  intro pins s σ H x v Q I rx h
  obtain ⟨F, ds, sv, fd, rt, e0, q⟩ := h
  have e : dNeg ds = some sv := e0
  clear e0
  match ds, e with
  | [.int a], e =>
    obtain ⟨_, z, h1⟩ := rt.one
    cases z; cases e
    rw [h1.int] at rx
    exact un_neg pins s σ H (.int a) v Q I rx ⟨a, rfl, wHere q (.int _)⟩
theorem ok_eq (hu : X.A.units + 64 < cLine) : OpR X (compareOp .Eq) (rb X .eq) := by
  refine bt_eq (op_eqD hu) fun x y H Q h => ?_
  obtain ⟨F, ds, sv, fd, rt, e0, q⟩ := h
  have e : dEq false ds = some sv := e0
  clear e0
  match ds, e with
  | [a, b], e =>
    obtain ⟨_, _, z, h1, h2⟩ := rt.two
    cases z
    obtain ⟨c, e⟩ := ite_none e
    cases e
    rw [Bool.and_eq_true] at c
    refine ⟨a, b, h1.dp c.1, h2.dp c.2, c.1, c.2, ?_⟩
    rw [Bool.bne_false] at q
    exact wHere q (.bl _)
theorem ok_ne (hu : X.A.units + 64 < cLine) : OpR X (compareOp .NotEq) (rb X .ne) := by
  refine bt_eq (op_neD hu) fun x y H Q h => ?_
  obtain ⟨F, ds, sv, fd, rt, e0, q⟩ := h
  have e : dEq true ds = some sv := e0
  clear e0
  match ds, e with
  | [a, b], e =>
    obtain ⟨_, _, z, h1, h2⟩ := rt.two
    cases z
    obtain ⟨c, e⟩ := ite_none e
    cases e
    rw [Bool.and_eq_true] at c
    refine ⟨a, b, h1.dp c.1, h2.dp c.2, c.1, c.2, ?_⟩
    rw [Bool.bne_true] at q
    exact wHere q (.bl _)
theorem Rt.non_iff {K : KW} {F : Addr → Prop} {H : Hp} {v : V} {d : D} (h : Rt K F H v d) : decide (v = .non) = isNoneD d := by
  cases h with
  | rp h => cases h <;> rfl
  | ct h => cases h <;> rfl
theorem ok_isN : ∀ (pins : List (Addr × Obj)) (s : Shared) (σ : L2.St) (H : Hp) (x y : V) (v u : Value) (Q : VK), Inv X pins σ H s → RelV x v → RelV y u → (y = .non ∧ rO X .isN [x] H Q) → wpAny (model X.prog X.w) X.A (compareOp .Is v u) (EP X pins σ Q) X.xe s := by
  intro pins s σ H x y v u Q I rx ry h
  obtain ⟨ey, F, ds, sv, fd, rt, e0, q⟩ := h
  have e : dIsN false ds = some sv := e0
  clear e0
  match ds, e with
  | [a], e =>
    obtain ⟨_, z, h1⟩ := rt.one
    cases z; cases e
    refine op_isN pins s σ H x y v u Q I rx ry ⟨ey, ?_⟩
    rw [h1.non_iff]
    rw [Bool.bne_false] at q
    exact wHere q (.bl _)
theorem ok_notN : ∀ (pins : List (Addr × Obj)) (s : Shared) (σ : L2.St) (H : Hp) (x y : V) (v u : Value) (Q : VK), Inv X pins σ H s → RelV x v → RelV y u → (y = .non ∧ rO X .notN [x] H Q) → wpAny (model X.prog X.w) X.A (compareOp .IsNot v u) (EP X pins σ Q) X.xe s := by
  intro pins s σ H x y v u Q I rx ry h
  obtain ⟨ey, F, ds, sv, fd, rt, e0, q⟩ := h
  have e : dIsN true ds = some sv := e0
  clear e0
  match ds, e with
  | [a], e =>
    obtain ⟨_, z, h1⟩ := rt.one
    cases z; cases e
    refine op_notN pins s σ H x y v u Q I rx ry ⟨ey, ?_⟩
    rw [h1.non_iff]
    rw [Bool.bne_true] at q
    exact wHere q (.bl _)
theorem ok_isB : OpR X (compareOp .Is) (rb X .isB) := by
  refine bt_eq op_isBl fun x y H Q h => ?_
  obtain ⟨F, ds, sv, fd, rt, e0, q⟩ := h
  have e : dIsB false ds = some sv := e0
  clear e0
  match ds, e with
  | [.bool a, .bool b], e =>
    obtain ⟨_, _, z, h1, h2⟩ := rt.two
    cases z; cases e
    rw [h1.bool, h2.bool]
    rw [Bool.bne_false] at q
    exact ⟨a, b, rfl, rfl, wHere q (.bl _)⟩
theorem ok_notB : OpR X (compareOp .IsNot) (rb X .notB) := by
  refine bt_eq op_notBl fun x y H Q h => ?_
  obtain ⟨F, ds, sv, fd, rt, e0, q⟩ := h
  have e : dIsB true ds = some sv := e0
  clear e0
  match ds, e with
  | [.bool a, .bool b], e =>
    obtain ⟨_, _, z, h1, h2⟩ := rt.two
    cases z; cases e
    rw [h1.bool, h2.bool]
    rw [Bool.bne_true] at q
    exact ⟨a, b, rfl, rfl, wHere q (.bl _)⟩
end
end RH
set_option maxRecDepth 100000
set_option maxHeartbeats 4000000
/-! Dicts whose keys are tuples: what is done with them. -/
namespace RH
open PySem PySem.Spec L2
/-- the keys of a dict stand where they are said to stand -/
def KeysAt (K : KW) (F : Addr → Prop) (H : Hp) (L : List (NestedKey × Addr × V)) : Prop := ∀ p ∈ L, ∃ d, Rp K F H (.ref p.2.1) d ∧ tk? d = some p.1
mutual
/-- a key's text needs no bound: reading alone -/
theorem Rp.reads {X : Cx} {pins : List (Addr × Obj)} {σ : L2.St} {H : Hp} {s : Shared} {F : Addr → Prop} (I : Inv X pins σ H s) : ∀ (d : D) (k : NestedKey) (v : V) (u : Value), nk? d = some k → Rp X.kw F H v d → RelV v u → ∃ as, Reads s.heap u d as
  | .none, _, _, _, _, h, r => by cases h; cases r; exact ⟨_, Reads.none⟩
  | .int i, _, _, _, _, h, r => by cases h; obtain ⟨t, rfl⟩ := r; exact ⟨_, Reads.int i t⟩
  | .str x, _, _, _, _, h, r => by cases h; obtain ⟨t, rfl⟩ := r; exact ⟨_, Reads.str x t⟩
  | .tuple ds, _, _, _, e, h, r => by
    unfold nk? at e
    obtain ⟨ks, e1, _⟩ := Option.map_eq_some_iff.mp e
    cases h with
    | tup sq rs =>
      cases r
      obtain ⟨its, rv, pl, hz⟩ := I.tuple sq
      obtain ⟨o, ho, hc, nn, hd⟩ := pl
      obtain ⟨as, ra⟩ := Rps.reads I ds ks _ _ e1 rs rv
      exact ⟨_, Reads.tuple ho hc hd (by simpa using ra)⟩
  | .bool _, _, _, _, e, _, _ => by unfold nk? at e; cases e
  | .list _, _, _, _, e, _, _ => by unfold nk? at e; cases e
  | .dict _, _, _, _, e, _, _ => by unfold nk? at e; cases e
theorem Rps.reads {X : Cx} {pins : List (Addr × Obj)} {σ : L2.St} {H : Hp} {s : Shared} {F : Addr → Prop} (I : Inv X pins σ H s) : ∀ (ds : List D) (ks : List NestedKey) (vs : List V) (us : List Value), nks? ds = some ks → Rps X.kw F H vs ds → Vals vs us → ∃ as, ReadsAll s.heap us ds as
  | [], _, _, _, _, h, r => by cases h; cases r; exact ⟨_, ReadsAll.nil⟩
  | d :: ds, _, _, _, e, h, r => by
    unfold nks? at e
    obtain ⟨k, e1, e2⟩ := Option.bind_eq_some_iff.mp e
    obtain ⟨ks, e3, _⟩ := Option.map_eq_some_iff.mp e2
    cases h with
    | cons h1 h2 =>
      cases r with
      | cons r1 r2 =>
        obtain ⟨as, q1⟩ := Rp.reads I d k _ _ e1 h1 r1
        obtain ⟨bs, q2⟩ := Rps.reads I ds ks _ _ e3 h2 r2
        exact ⟨_, ReadsAll.cons q1 q2⟩
end
section
variable {X : Cx} {pins : List (Addr × Obj)} {σ : L2.St} {H : Hp} {s : Shared} {F : Addr → Prop} {a b : Addr} {k : NestedKey} {L : List (NestedKey × Addr × V)}
theorem key_is (I : Inv X pins σ H s) {d : D} {v : V} {u : Value} (e : tk? d = some k) (r : Rp X.kw F H v d) (ru : RelV v u) : ∃ b, v = .ref b ∧ u = .ref b ∧ (nestedKind X.prog X.w).is s.heap k b := by
  obtain ⟨⟨ds, rfl⟩, e1, e2⟩ := tk_of e
  obtain ⟨as, rd⟩ := Rp.reads I _ _ _ _ e1 r ru
  have ni := nk_is _ _ _ _ e1 rd
  cases r with
  | tup sq rs =>
    cases ru
    exact ⟨_, rfl, rfl, ni, e2⟩
theorem dn_dict0 (I : Inv X pins σ H s) (e : Rd H a (DN X.w a L)) (ka : KeysAt X.kw F H L) : (a == sysModules) = false ∧ L.length ≤ sizeLine ∧ ∃ xs, Paired RelN L xs ∧ s.heap.DictOfH (nestedKind X.prog X.w) a xs := by
  obtain ⟨h1, h2, xs, r, o, es, ep, e1, e2, e3, e4, e5⟩ := dn_rd I e
  refine ⟨h1, h2, xs, r, o, es, ep, e1, e2, e3, e4, ?_, e5⟩
  have go : ∀ {L : List (NestedKey × Addr × V)} {xs : List (NestedKey × Addr × Value)}, Paired RelN L xs → KeysAt X.kw F H L → ∀ x ∈ xs, (nestedKind X.prog X.w).is s.heap x.1 x.2.1 := fun {L xs} r => by
    induction r with
    | nil => intro _ x hx; cases hx
    | cons r t ih =>
      rename_i p q _ _
      intro ka x hx
      rcases List.mem_cons.mp hx with rfl | hx
      · obtain ⟨r1, r2, _⟩ := r
        obtain ⟨d, rp, tk⟩ := ka p List.mem_cons_self
        obtain ⟨b, q1, _, q3⟩ := key_is I tk rp (u := .ref p.2.1) rfl
        cases q1
        rw [← r1, ← r2]
        exact q3
      · exact ih (fun p hp => ka p (List.mem_cons_of_mem _ hp)) x hx
  exact go r ka
theorem dn_dict (I : Inv X pins σ H s) (e : IsN X.w H a L) (ka : KeysAt X.kw F H L) : (a == sysModules) = false ∧ L.length ≤ sizeLine ∧ ∃ xs, Paired RelN L xs ∧ s.heap.DictOfH (nestedKind X.prog X.w) a xs := by
  rcases e with e | ⟨rfl, e⟩
  · exact dn_dict0 I e ka
  · obtain ⟨z, hd, vs, rel, dd⟩ := dk_rd I.hok e
    cases rel
    obtain ⟨es, ep, ⟨o, e1, e2, e3⟩, hs, _⟩ := dd.raw
    exact ⟨hd, Nat.zero_le _, [], .nil, o, es, ep, e1, e2, e3, by simpa using hs, fun _ h => (nomatch h), .nil⟩
theorem nk_room {P : Program} {w : World} {A : Around} (hu : A.units + 64 < cLine) : (nestedKind P w).room A.in1 := by
  show A.in1.units + 8 < cLine
  simp
  omega
theorem dn_in {A : Around} {E : Value → Shared → Prop} {Q : Value → Shared → Prop} (hu : A.units + 64 < cLine) (I : Inv X pins σ H s) (e : IsN X.w H a L) (ka : KeysAt X.kw F H L) (hk : (nestedKind X.prog X.w).is s.heap k b)
    (h : ∀ s', Inv X pins σ H s' → Q (.bool (nLook L k).isSome) s') : wpAny (model X.prog X.w) A (compareOp .In (.ref b) (.ref a)) Q E s := by
  obtain ⟨h1, h2, xs, r, hm⟩ := dn_dict I e ka
  refine wpAny_in_heap (knd := nestedKind X.prog X.w) (nk_room hu) hk h1 hm ?_
  rw [← nLook_some r]
  exact h _ (I.tok _)
theorem dn_notIn {A : Around} {E : Value → Shared → Prop} {Q : Value → Shared → Prop} (hu : A.units + 64 < cLine) (I : Inv X pins σ H s) (e : IsN X.w H a L) (ka : KeysAt X.kw F H L) (hk : (nestedKind X.prog X.w).is s.heap k b)
    (h : ∀ s', Inv X pins σ H s' → Q (.bool (!(nLook L k).isSome)) s') : wpAny (model X.prog X.w) A (compareOp .NotIn (.ref b) (.ref a)) Q E s := by
  obtain ⟨h1, h2, xs, r, hm⟩ := dn_dict I e ka
  show wpAny _ _ (do return .bool (!(← contains (.ref a) (.ref b)))) Q E s
  refine wpAny_bind (wpAny_contains_heap (knd := nestedKind X.prog X.w) (nk_room hu) hk h1 hm (wpAny_pure ?_))
  rw [← nLook_some r]
  exact h _ (I.tok _)
theorem dn_getItem {A : Around} {E : Value → Shared → Prop} {Q : Value → Shared → Prop} {v : V} (hu : A.units + 64 < cLine) (I : Inv X pins σ H s) (e : IsN X.w H a L) (ka : KeysAt X.kw F H L) (hk : (nestedKind X.prog X.w).is s.heap k b) (hv : nLook L k = some v)
    (h : ∀ u s', Inv X pins σ H s' → RelV v u → Q u s') : wpAny (model X.prog X.w) A (getItem (.ref a) (.ref b)) Q E s := by
  obtain ⟨h1, h2, xs, r, hm⟩ := dn_dict I e ka
  obtain ⟨p, e1, e2⟩ := (nLook_at (k := k) r).1 v hv
  exact wpAny_getItem_heap (knd := nestedKind X.prog X.w) (nk_room hu) hk hm e1 (h _ _ (I.tok _) e2)
theorem dn_get2 {A : Around} {E : Value → Shared → Prop} {Q : Value → Shared → Prop} {d : V} {y : Value} (hu : A.units + 64 < cLine) (I : Inv X pins σ H s) (e : IsN X.w H a L) (ka : KeysAt X.kw F H L) (hk : (nestedKind X.prog X.w).is s.heap k b) (rd : RelV d y)
    (h : ∀ u s', Inv X pins σ H s' → RelV ((nLook L k).getD d) u → Q u s') : wpAny (model X.prog X.w) A (call (.builtin "dict.get") [.ref a, .ref b, y]) Q E s := by
  obtain ⟨h1, h2, xs, r, hm⟩ := dn_dict I e ka
  refine call_meetsIn PySem.F.slot_dict_get hm.typeIs PySem.F.entry_dict_get (PySem.F.args_dict_get_3 _ _ _) (meetsH_dict_get_default (nestedKind X.prog X.w) a b h1 y) ⟨nk_room hu, k, xs, hk, hm, h _ _ (I.tok _) ?_⟩
  cases e1 : nLook L k with
  | none => rw [(nLook_at (k := k) r).2 e1]; exact rd
  | some v => obtain ⟨p, e2, e3⟩ := (nLook_at (k := k) r).1 v e1; rw [e2]; exact e3
theorem dn_set {A : Around} {E : Value → Shared → Prop} {Q : Unit → Shared → Prop} {v : V} {u : Value} (hu : A.units + 64 < cLine) (I : Inv X pins σ H s) (e : H a = some (DN X.w a L) ∨ (L = [] ∧ H a = some (.dK []))) (ka : KeysAt X.kw F H L) (hk : (nestedKind X.prog X.w).is s.heap k b) (rv : RelV v u) (few : L.length < sizeLine)
    (h : ∀ s', Inv X pins σ (upd H a (DN X.w a (nPut L k b v))) s' → Q () s') : wpAny (model X.prog X.w) A (setItem (.ref a) (.ref b) u) Q E s := by
  have e' : IsN X.w H a L := e.imp (fun e => .inl e) fun e => ⟨e.1, .inl e.2⟩
  obtain ⟨h1, h2, xs, r, hm⟩ := dn_dict I e' ka
  have len : xs.length = L.length := r.length.symm
  refine wpAny_setItem_heap (knd := nestedKind X.prog X.w) (hsz := by omega) (nk_room hu) hk hm fun h' hm' sb => h _ ?_
  have he : ∃ q, h'.get? a = some q := let ⟨q, _, _, hq, _⟩ := hm'; ⟨q, hq⟩
  have mu : Mut (H a) := by rcases e with e | ⟨_, e⟩ <;> (rw [e]; trivial)
  refine I.write (e := a) (t' := s.toks + (nestedKind X.prog X.w).draws k) mu (.inl rfl) (fun b u hb hu => (sb.2 b hb).trans hu) he ?_
  obtain ⟨o, es, ep, q1, q2, q3, q4, _, q6⟩ := hm'
  exact dn_new h1 (Nat.le_trans nPut_len few) (nPut_rel r rv) ⟨o, es, ep, q1, q2, q3, q4, q6⟩
end
section
variable {K : KW} {F : Addr → Prop} {H : Hp}
theorem RpN.keys : ∀ {L : List (NestedKey × Addr × V)} {ds : List (D × D)}, RpN K F H L ds → KeysAt K F H L
  | _, [], h => by cases h; exact fun _ z => nomatch z
  | _, (kd, d) :: ds, h => by
    cases h with
    | cons a b c e =>
      intro p hp
      rcases List.mem_cons.mp hp with rfl | hp
      · exact ⟨kd, b, a⟩
      · exact e.keys p hp
theorem RpN.length : ∀ {L : List (NestedKey × Addr × V)} {ds : List (D × D)}, RpN K F H L ds → L.length = ds.length
  | _, [], h => by cases h; rfl
  | _, (kd, d) :: ds, h => by cases h with | cons a b c e => exact congrArg (· + 1) e.length
theorem RpN.look {k : NestedKey} : ∀ {ds : List (D × D)} {L : List (NestedKey × Addr × V)}, RpN K F H L ds → (∀ d, tLook ds k = some d → ∃ v, nLook L k = some v ∧ Rp K F H v d) ∧ (tLook ds k = none → nLook L k = none)
  | [], _, h => by cases h; exact ⟨fun _ e => (by cases e), fun _ => rfl⟩
  | (kd, d) :: ds, _, h => by
    cases h with
    | @cons k' b v _ _ r _ a _ c e =>
      obtain ⟨h1, h2⟩ := e.look (k := k)
      unfold tLook nLook at *
      rw [List.find?_cons, List.find?_cons]
      simp only [a]
      by_cases q : k' = k
      · subst q
        simp only [decide_true, Option.map_some, Option.some.injEq]
        exact ⟨fun _ z => ⟨v, by simp, z ▸ c⟩, fun z => nomatch z⟩
      · have q' : ¬ some k' = some k := fun z => q (Option.some.inj z)
        simp only [decide_eq_false q', decide_eq_false q, Bool.false_eq_true, if_false]
        exact ⟨h1, h2⟩
theorem RpN.put {k : NestedKey} {b : Addr} {v : V} {kd d : D} (tk : tk? kd = some k) (rb : Rp K F H (.ref b) kd) (rv : Rp K F H v d) {ds : List (D × D)} {L : List (NestedKey × Addr × V)} (h : RpN K F H L ds) : RpN K F H (nPut L k b v) (tPut ds kd k d) := by
  have same : (nLook L k).isSome = (tLook ds k).isSome := by
    obtain ⟨h1, h2⟩ := h.look (k := k)
    cases e : tLook ds k with
    | none => rw [h2 e]; rfl
    | some x => obtain ⟨v, e1, _⟩ := h1 x e; rw [e1]; rfl
  unfold nPut tPut
  rw [same]
  have go : ∀ {ds : List (D × D)} {L : List (NestedKey × Addr × V)}, RpN K F H L ds → RpN K F H (L.map fun p => if p.1 = k then (p.1, p.2.1, v) else p) (ds.map fun p => if tk? p.1 = some k then (p.1, d) else p) := fun {ds} => by
    induction ds with
    | nil => intro L h; cases h; exact .nil
    | cons p ds ih =>
      intro L h
      obtain ⟨kd', d'⟩ := p
      cases h with
      | @cons k' b' v' _ _ r _ a b c e =>
        rw [List.map_cons, List.map_cons]
        dsimp only
        rw [a]
        by_cases q : k' = k
        · rw [if_pos q, if_pos (by rw [q])]
          exact .cons a b rv (ih e)
        · rw [if_neg q, if_neg (fun z => q (Option.some.inj z))]
          exact .cons a b c (ih e)
  have app : ∀ {ds es : List (D × D)} {L M : List (NestedKey × Addr × V)}, RpN K F H L ds → RpN K F H M es → RpN K F H (L ++ M) (ds ++ es) := fun {ds} => by
    induction ds with
    | nil => intro es L M h g; cases h; exact g
    | cons p ds ih =>
      intro es L M h g
      cases h with
      | cons a b c e => exact .cons a b c (ih e g)
  split
  · exact go h
  · exact app h (.cons tk rb rv .nil)
theorem nPut_ne {k : NestedKey} {b : Addr} {v : V} {L : List (NestedKey × Addr × V)} : nPut L k b v ≠ [] := by
  unfold nPut
  split
  · rename_i h
    intro z
    have : L = [] := by simpa using z
    subst this
    cases h
  · simp
end
end RH
set_option maxRecDepth 100000
set_option maxHeartbeats 4000000
/-! The operations, further: subscripts, in, built-in functions. -/
namespace RH
open PySem PySem.Spec L2

section
variable {X : Cx}
theorem key_kV {d : D} {k : Key} (h : key? d = some k) {K : KW} {F : Addr → Prop} {H : Hp} {v : V} (r : Rt K F H v d) : v = kV k := by
  cases d with
  | int i => cases h; exact r.int
  | str x => cases h; exact r.str
  | _ => cases h
theorem dAt_ex {kvs : List (D × D)} {k : D} {o : Option D} (h : dAt kvs k = some o) : (∃ kk, key? k = some kk ∧ allK kvs = true ∧ o = dLook kvs kk) ∨ ∃ kk, tk? k = some kk ∧ allT kvs = true ∧ o = tLook kvs kk := by
  unfold dAt at h
  split at h
  · rename_i kk e
    obtain ⟨h1, h2⟩ := ite_none h
    cases h2
    exact .inl ⟨kk, e, h1, rfl⟩
  · obtain ⟨kk, e1, e2⟩ := Option.bind_eq_some_iff.mp h
    obtain ⟨h1, h2⟩ := ite_none e2
    cases h2
    exact .inr ⟨kk, e1, h1, rfl⟩
theorem Rt.tk {K : KW} {F : Addr → Prop} {H : Hp} {v : V} {d : D} {k : NestedKey} (r : Rt K F H v d) (h : tk? d = some k) : Rp K F H v d := by
  obtain ⟨⟨ds, rfl⟩, _⟩ := tk_of h
  cases r with
  | rp r => exact r
  | ct r => cases r
theorem rd_dget {K : KW} {F : Addr → Prop} {H : Hp} {a : Addr} {kvs : List (Key × V)} {ds : List (D × D)} {k : Key} (e : Rd H a (.dK kvs)) : DGet H a (kV k) (valV kvs k) := .inl ⟨kvs, k, e, rfl, rfl⟩
/-- x[i] -/
theorem ok_ix (hu : X.A.units + 64 < cLine) : IxR X (rb X .ix) := by
  intro value slice pins s σ H x y v u Q I rx ry h hs
  obtain ⟨F, ds, sv, fd, rt, e0, q⟩ := h
  have e : dIx ds = some sv := e0
  clear e0
  match ds, e with
  | [.list xs, .int i], e =>
    obtain ⟨_, _, z, h1, h2⟩ := rt.two
    cases z
    obtain ⟨d, e1, e2⟩ := Option.map_eq_some_iff.mp (show (atI xs i).map fz = some sv from e)
    subst e2
    obtain ⟨a, vs, rfl, t, r⟩ := h1.lst
    obtain ⟨w, g1, g2⟩ := r.at e1
    cases h2.int
    exact ix_list value slice pins s σ H _ _ v u Q I rx ry ⟨a, vs, i, w, rfl, rfl, .inl t, g1, wHere q g2⟩ hs
  | [.tuple xs, .int i], e =>
    obtain ⟨_, _, z, h1, h2⟩ := rt.two
    cases z
    obtain ⟨d, e1, e2⟩ := Option.map_eq_some_iff.mp (show (atI xs i).map fz = some sv from e)
    subst e2
    obtain ⟨a, vs, rfl, t, r⟩ := h1.tup
    obtain ⟨w, g1, g2⟩ := r.at e1
    cases h2.int
    exact ix_tup value slice pins s σ H _ _ v u Q I rx ry ⟨a, vs, i, w, rfl, rfl, t, g1, wHere q g2⟩ hs
  | [.str z, .int i], e =>
    obtain ⟨_, _, z', h1, h2⟩ := rt.two
    cases z'
    have e' : (if z.length ≤ sizeLine then (atI z.cps.toList i).map fun c => fz (.str ⟨#[c]⟩) else none) = some sv := e
    split at e'
    · rename_i hz
      obtain ⟨c, e1, e2⟩ := Option.map_eq_some_iff.mp e'
      subst e2
      cases h1.str
      cases h2.int
      exact ix_str value slice pins s σ H _ _ v u Q I rx ry ⟨z, i, c, rfl, rfl, hz, e1, wHere q (.str _)⟩ hs
    · cases e'
  | [.dict kvs, k], e =>
    obtain ⟨_, _, z', h1, h2⟩ := rt.two
    cases z'
    have e' : ((dAt kvs k).bind fun o => o.map fz) = some sv := by
      cases k <;> exact e
    obtain ⟨o, e1, e2⟩ := Option.bind_eq_some_iff.mp e'
    obtain ⟨d, e3, e4⟩ := Option.map_eq_some_iff.mp e2
    subst e4
    subst e3
    rcases dAt_ex e1 with ⟨kk, k1, k2, k3⟩ | ⟨kk, k1, k2, k3⟩
    · obtain ⟨a, vs, rfl, t, r⟩ := h1.dctK k2
      obtain ⟨w, g1, g2⟩ := r.look.1 d k3.symm
      cases key_kV k1 h2
      have g : DGet H a (kV kk) (some w) := by
        rw [← g1]
        exact .inl ⟨vs, kk, t, rfl, rfl⟩
      cases (show v = Value.ref a from rx)
      exact PyProof.Rows.tail_any (ops := [.ref a, u]) (dict_typeIs I g) PySem.F.slot_dict_getitem.lookup (d_getItem (by omega) I g ry fun w' s' I' rw' => ⟨w, H, I', rw', wHere q g2⟩) hs
    · obtain ⟨a, L, rfl, t, r⟩ := h1.dctT k2
      obtain ⟨w, g1, g2⟩ := (r.look (k := kk)).1 d k3.symm
      obtain ⟨b, rfl, rfl, ki⟩ := key_is I k1 (h2.tk k1) ry
      cases (show v = Value.ref a from rx)
      obtain ⟨_, _, xs, _, hm⟩ := dn_dict I t r.keys
      exact PyProof.Rows.tail_any (ops := [.ref a, .ref b]) hm.typeIs PySem.F.slot_dict_getitem.lookup (dn_getItem hu I t r.keys ki g1 fun w' s' I' rw' => ⟨w, H, I', rw', wHere q g2⟩) hs
/-- in, not in -/
theorem ok_isin (hu : X.A.units + 65 < cLine) : OpR X (compareOp .In) (rb X .isin) := by
  intro pins s σ H x y v u Q I rx ry h
  obtain ⟨F, ds, sv, fd, rt, e0, q⟩ := h
  have e : dIn false ds = some sv := e0
  clear e0
  match ds, e with
  | [a, .list b], e =>
    obtain ⟨_, _, z, h1, h2⟩ := rt.two
    cases z
    have e' : (if okD a && okD (.list b) then some (fz (.bool ((b.any fun z => PyData.eqv z a) != false))) else none) = some sv := by cases a <;> exact e
    obtain ⟨c, e'⟩ := ite_none e'
    cases e'
    rw [Bool.and_eq_true] at c
    rw [Bool.bne_false] at q
    exact op_inD hu pins s σ H _ _ v u Q I rx ry ⟨a, b, h1.dp c.1, h2.dp c.2, c.1, c.2, wHere q (.bl _)⟩
  | [a, .tuple b], e =>
    obtain ⟨_, _, z, h1, h2⟩ := rt.two
    cases z
    have e' : (if okD a && okD (.tuple b) then some (fz (.bool ((b.any fun z => PyData.eqv z a) != false))) else none) = some sv := by cases a <;> exact e
    obtain ⟨c, e'⟩ := ite_none e'
    cases e'
    rw [Bool.and_eq_true] at c
    rw [Bool.bne_false] at q
    obtain ⟨as, r1⟩ := Dp.reads I a _ _ (h1.dp c.1) rx
    obtain ⟨bs, r2⟩ := Dp.reads I (.tuple b) _ _ (h2.dp c.2) ry
    exact SeqAt.in_tuple_reads r2 r1 (SeqAt.canLay_of_shaped c.2) (SeqAt.canLay_of_shaped c.1) (PyProof.Rows.room_in_shaped c.1 hu) ⟨.bl _, H, I, rfl, wHere q (.bl _)⟩
  | [a, .dict kvs], e =>
    obtain ⟨_, _, z, h1, h2⟩ := rt.two
    cases z
    have e' : (dAt kvs a).map (fun o => fz (.bool (o.isSome != false))) = some sv := by cases a <;> exact e
    obtain ⟨o, e1, e2⟩ := Option.map_eq_some_iff.mp e'
    subst e2
    rw [Bool.bne_false] at q
    rcases dAt_ex e1 with ⟨k, k1, k2, rfl⟩ | ⟨k, k1, k2, rfl⟩
    · obtain ⟨b, vs, rfl, t, r⟩ := h2.dctK k2
      cases key_kV k1 h1
      cases (show u = Value.ref b from ry)
      have hk : (dLook kvs k).isSome = (valV vs k).isSome := by
        cases z : dLook kvs k with
        | none => rw [r.look.2 z] <;> rfl
        | some d => obtain ⟨w, g1, _⟩ := r.look.1 d z; rw [g1]; rfl
      exact d_in (by omega) I (.inl ⟨vs, k, t, rfl, rfl⟩) rx fun s' I' => ⟨.bl _, H, I', rfl, by rw [← hk]; exact wHere q (.bl _)⟩
    · obtain ⟨b, L, rfl, t, r⟩ := h2.dctT k2
      obtain ⟨c, rfl, rfl, ki⟩ := key_is I k1 (h1.tk k1) rx
      cases (show u = Value.ref b from ry)
      have hk : (tLook kvs k).isSome = (nLook L k).isSome := by
        obtain ⟨l1, l2⟩ := r.look (k := k)
        cases z : tLook kvs k with
        | none => rw [l2 z] <;> rfl
        | some d => obtain ⟨w, g1, _⟩ := l1 d z; rw [g1]; rfl
      exact dn_in (by omega) I t r.keys ki fun s' I' => ⟨.bl _, H, I', rfl, by rw [← hk]; exact wHere q (.bl _)⟩
  | [.str a, .str b], e =>
    obtain ⟨_, _, z, h1, h2⟩ := rt.two
    cases z
    have e' : (match a.cps.toList with | [c] => some (fz (.bool (decide (c ∈ b.cps.toList) != false))) | _ => none) = some sv := e
    split at e'
    · rename_i c hc
      cases e'
      rw [Bool.bne_false] at q
      cases h1.str
      cases h2.str
      have ea : a = ⟨#[c]⟩ := by
        cases a with
        | mk cps =>
          have hc : cps.toList = [c] := hc
          congr 1
          exact Array.toList_inj.mp (by rw [hc])
      subst ea
      exact op_in_sign pins s σ H _ _ v u Q I rx ry ⟨c, b, rfl, rfl, wHere q (.bl _)⟩
    · cases e'
theorem ok_notin (hu : X.A.units + 65 < cLine) : OpR X (compareOp .NotIn) (rb X .notin) := by
  intro pins s σ H x y v u Q I rx ry h
  obtain ⟨F, ds, sv, fd, rt, e0, q⟩ := h
  have e : dIn true ds = some sv := e0
  clear e0
  match ds, e with
  | [a, .list b], e =>
    obtain ⟨_, _, z, h1, h2⟩ := rt.two
    cases z
    have e' : (if okD a && okD (.list b) then some (fz (.bool ((b.any fun z => PyData.eqv z a) != true))) else none) = some sv := by cases a <;> exact e
    obtain ⟨c, e'⟩ := ite_none e'
    cases e'
    rw [Bool.and_eq_true] at c
    rw [Bool.bne_true] at q
    exact op_notInD hu pins s σ H _ _ v u Q I rx ry ⟨a, b, h1.dp c.1, h2.dp c.2, c.1, c.2, wHere q (.bl _)⟩
  | [a, .tuple b], e =>
    obtain ⟨_, _, z, h1, h2⟩ := rt.two
    cases z
    have e' : (if okD a && okD (.tuple b) then some (fz (.bool ((b.any fun z => PyData.eqv z a) != true))) else none) = some sv := by cases a <;> exact e
    obtain ⟨c, e'⟩ := ite_none e'
    cases e'
    rw [Bool.and_eq_true] at c
    rw [Bool.bne_true] at q
    obtain ⟨as, r1⟩ := Dp.reads I a _ _ (h1.dp c.1) rx
    obtain ⟨bs, r2⟩ := Dp.reads I (.tuple b) _ _ (h2.dp c.2) ry
    exact SeqAt.notIn_tuple_reads r2 r1 (SeqAt.canLay_of_shaped c.2) (SeqAt.canLay_of_shaped c.1) (PyProof.Rows.room_in_shaped c.1 hu) ⟨.bl _, H, I, rfl, wHere q (.bl _)⟩
  | [a, .dict kvs], e =>
    obtain ⟨_, _, z, h1, h2⟩ := rt.two
    cases z
    have e' : (dAt kvs a).map (fun o => fz (.bool (o.isSome != true))) = some sv := by cases a <;> exact e
    obtain ⟨o, e1, e2⟩ := Option.map_eq_some_iff.mp e'
    subst e2
    rw [Bool.bne_true] at q
    rcases dAt_ex e1 with ⟨k, k1, k2, rfl⟩ | ⟨k, k1, k2, rfl⟩
    · obtain ⟨b, vs, rfl, t, r⟩ := h2.dctK k2
      cases key_kV k1 h1
      cases (show u = Value.ref b from ry)
      have hk : (dLook kvs k).isSome = (valV vs k).isSome := by
        cases z : dLook kvs k with
        | none => rw [r.look.2 z] <;> rfl
        | some d => obtain ⟨w, g1, _⟩ := r.look.1 d z; rw [g1]; rfl
      exact d_notIn (by omega) I (.inl ⟨vs, k, t, rfl, rfl⟩) rx fun s' I' => ⟨.bl _, H, I', rfl, by rw [← hk]; exact wHere q (.bl _)⟩
    · obtain ⟨b, L, rfl, t, r⟩ := h2.dctT k2
      obtain ⟨c, rfl, rfl, ki⟩ := key_is I k1 (h1.tk k1) rx
      cases (show u = Value.ref b from ry)
      have hk : (tLook kvs k).isSome = (nLook L k).isSome := by
        obtain ⟨l1, l2⟩ := r.look (k := k)
        cases z : tLook kvs k with
        | none => rw [l2 z] <;> rfl
        | some d => obtain ⟨w, g1, _⟩ := l1 d z; rw [g1]; rfl
      exact dn_notIn (by omega) I t r.keys ki fun s' I' => ⟨.bl _, H, I', rfl, by rw [← hk]; exact wHere q (.bl _)⟩
  | [.str a, .str b], e =>
    obtain ⟨_, _, z, h1, h2⟩ := rt.two
    cases z
    have e' : (match a.cps.toList with | [c] => some (fz (.bool (decide (c ∈ b.cps.toList) != true))) | _ => none) = some sv := e
    split at e'
    · rename_i c hc
      cases e'
      rw [Bool.bne_true] at q
      cases h1.str
      cases h2.str
      have ea : a = ⟨#[c]⟩ := by
        cases a with
        | mk cps =>
          have hc : cps.toList = [c] := hc
          congr 1
          exact Array.toList_inj.mp (by rw [hc])
      subst ea
      exact op_notIn_sign pins s σ H _ _ v u Q I rx ry ⟨c, b, rfl, rfl, wHere q (.bl _)⟩
    · cases e'
/-- a slice -/
def rSl (X : Cx) : V → Option Int → Option Int → Hp → VK → Prop := fun x lo hi H Q => ∃ F d sv, (∀ a, F a → H a ≠ none) ∧ Rt X.kw F H x d ∧ slD d lo hi = some sv ∧ Want X F H sv Q
theorem ok_sl : SlR X (rSl X) := by
  intro pins s σ H x v vl vu lo hi sl Q I rx hs pl pu h
  obtain ⟨F, d, sv, fd, rt, e, q⟩ := h
  cases d with
  | list xs =>
    cases e
    obtain ⟨a, vs, rfl, t, r⟩ := rt.lst
    exact sl_list pins s σ H _ v vl vu lo hi sl Q I rx hs pl pu ⟨a, vs, rfl, .inl t, fun p hp => wLst fd q r.cut hp⟩
  | tuple xs =>
    cases e
    obtain ⟨a, vs, rfl, t, r⟩ := rt.tup
    refine sl_tupA pins s σ H _ v vl vu lo hi sl Q I rx hs pl pu ⟨a, vs, rfl, t, fun hw => ?_, fun _ p hp => wTup q r.cut hp⟩
    have e1 : cutV vs lo hi = vs := by
      unfold cutV
      rw [hw.1, hw.2, List.drop_zero, Nat.sub_zero, List.take_length]
    have r2 : Rps X.kw F H (cutV vs lo hi) (cutD xs lo hi) := r.cut
    rw [e1] at r2
    exact wHere q (.tup t r2)
  | str z =>
    have e' : (if z.length ≤ sizeLine then some (fz (.str (cutS z lo hi))) else none) = some sv := e
    obtain ⟨hz, e'⟩ := ite_none e'
    cases e'
    cases rt.str
    exact sl_str pins s σ H _ v vl vu lo hi sl Q I rx hs pl pu ⟨z, rfl, hz, wHere q (.str _)⟩
  | none => cases e
  | bool b => cases e
  | int i => cases e
  | dict k => cases e

/-! ### built-in functions and classes -/
def rc (X : Cx) (o : Op) : List V → Hp → VK → Prop := fun xs H Q => rO X o xs H Q
theorem ct_eq {f : Value} {r r' : List V → Hp → VK → Prop} (h : CallR X f r') (i : ∀ xs H Q, r xs H Q → r' xs H Q) : CallR X f r :=
  fun pins s σ H xs us Q I rx q => h pins s σ H xs us Q I rx (i xs H Q q)
theorem call_or {f : Value} {r r' : List V → Hp → VK → Prop} (h : CallR X f r) (h' : CallR X f r') : CallR X f (fun xs H Q => r xs H Q ∨ r' xs H Q) :=
  fun pins s σ H xs us Q I rx q => q.elim (h pins s σ H xs us Q I rx) (h' pins s σ H xs us Q I rx)
theorem call_lenDR : CallR X (.builtin "len") (fun xs H Q => ∃ a kvs, xs = [V.ref a] ∧ Rd H a (.dK kvs) ∧ Q (.int kvs.length) H) := by
  intro pins s σ H xs us Q I r h
  obtain ⟨a, kvs, rfl, ha, q⟩ := h
  obtain ⟨u, rfl, ru⟩ := vals1 r
  cases (show u = Value.ref a from ru)
  exact d_len I ha fun t s' I' => ⟨.int kvs.length, H, I', ⟨_, rfl⟩, q⟩
theorem call_lenDN : CallR X (.builtin "len") (fun xs H Q => ∃ a L F, xs = [V.ref a] ∧ IsN X.w H a L ∧ KeysAt X.kw F H L ∧ Q (.int L.length) H) := by
  intro pins s σ H xs us Q I r h
  obtain ⟨a, L, F, rfl, ha, ka, q⟩ := h
  obtain ⟨u, rfl, ru⟩ := vals1 r
  cases (show u = Value.ref a from ru)
  obtain ⟨h1, h2, xs, rl, hm⟩ := dn_dict I ha ka
  have len : xs.length = L.length := rl.length.symm
  refine call_len_dictH h1 hm (by rw [sizeLine_eq] at h2; omega) ?_
  rw [len]
  exact ⟨.int L.length, H, I.tok _, ⟨_, rfl⟩, q⟩
theorem RpK.length {K : KW} {F : Addr → Prop} {H : Hp} : ∀ {ds : List (D × D)} {kvs : List (Key × V)}, RpK K F H kvs ds → kvs.length = ds.length
  | [], _, h => by cases h; rfl
  | (kd, d) :: ds, _, h => by cases h with | cons a b c => exact congrArg (· + 1) c.length
theorem ok_len : CallR X (.builtin "len") (rc X .len) := by
  refine ct_eq (call_or (call_or call_len call_lenDR) call_lenDN) fun xs H Q h => ?_
  obtain ⟨F, ds, sv, fd, rt, e0, q⟩ := h
  have e : dLen ds = some sv := e0
  clear e0
  match ds, e with
  | [a], e =>
    obtain ⟨_, z, h1⟩ := rt.one
    cases z
    have e' : (match dlen a with | some n => if n ≤ sizeLine then some (fz (.int n)) else none | none => none) = some sv := e
    cases a with
    | str y =>
      have e2 : (if y.length ≤ sizeLine then some (fz (.int (y.length : Int))) else none) = some sv := e'
      obtain ⟨hz, e2⟩ := ite_none e2
      cases e2
      cases h1.str
      exact .inl (.inl ⟨_, _, rfl, ⟨hz, rfl⟩, wHere q (.int _)⟩)
    | list y =>
      have e2 : (if y.length ≤ sizeLine then some (fz (.int (y.length : Int))) else none) = some sv := e'
      obtain ⟨_, e2⟩ := ite_none e2
      cases e2
      obtain ⟨b, vs, rfl, t, r⟩ := h1.lst
      exact .inl (.inl ⟨_, _, rfl, .inl ⟨vs, .inl t, rfl⟩, by rw [r.length]; exact wHere q (.int _)⟩)
    | tuple y =>
      have e2 : (if y.length ≤ sizeLine then some (fz (.int (y.length : Int))) else none) = some sv := e'
      obtain ⟨_, e2⟩ := ite_none e2
      cases e2
      obtain ⟨b, vs, rfl, t, r⟩ := h1.tup
      exact .inl (.inl ⟨_, _, rfl, .inr ⟨vs, t, rfl⟩, by rw [r.length]; exact wHere q (.int _)⟩)
    | dict y =>
      have e2 : (if y.length ≤ sizeLine then some (fz (.int (y.length : Int))) else none) = some sv := e'
      obtain ⟨_, e2⟩ := ite_none e2
      cases e2
      obtain ⟨b, rfl, ⟨vs, t, r⟩ | ⟨L, t, n, r⟩⟩ := h1.dct
      · exact .inl (.inr ⟨_, vs, rfl, t, by rw [r.length]; exact wHere q (.int _)⟩)
      · exact .inr ⟨_, L, F, rfl, .inl t, r.keys, by rw [r.length]; exact wHere q (.int _)⟩
    | none => cases e'
    | bool b => cases e'
    | int i => cases e'
theorem ok_abs : CallR X (.builtin "abs") (rc X .abs) := by
  refine ct_eq call_abs fun xs H Q h => ?_
  obtain ⟨F, ds, sv, fd, rt, e0, q⟩ := h
  have e : dAbs ds = some sv := e0
  clear e0
  match ds, e with
  | [.int a], e =>
    obtain ⟨_, z, h1⟩ := rt.one
    cases z; cases e
    cases h1.int
    exact ⟨a, rfl, wHere q (.int _)⟩
theorem ok_II2 {f : Value} {g : Int → Int → V} {fD : Int → Int → Option D} (h : CallR X f (fun xs H Q => ∃ i j, xs = [.int i, .int j] ∧ Q (g i j) H)) (o : Op) (ho : ∀ ds, opD o ds = dII fD ds)
    (c : ∀ a b d, fD a b = some d → ∀ F H, Rp X.kw F H (g a b) d) : CallR X f (rc X o) := by
  refine ct_eq h fun xs H Q z => ?_
  obtain ⟨F, ds, sv, fd, rt, e0, q⟩ := z
  rw [ho] at e0
  obtain ⟨a, b, d, rfl, e1, rfl⟩ := II_inv e0
  obtain ⟨_, _, z, h1, h2⟩ := rt.two
  cases z
  cases h1.int
  cases h2.int
  exact ⟨a, b, rfl, wHere q (c a b d e1 F H)⟩
theorem ok_min2 (hc : X.calm = true) : CallR X (.builtin "min") (rc X .min2) := ok_II2 (call_min2 hc) .min2 (fun _ => rfl) fun a b d e F H => by cases e; exact .int _
theorem ok_max2 (hc : X.calm = true) : CallR X (.builtin "max") (rc X .max2) := ok_II2 (call_max2 hc) .max2 (fun _ => rfl) fun a b d e F H => by cases e; exact .int _
theorem ok_divmod : CallR X (.builtin "divmod") (rc X .divmod) := by
  refine ct_eq call_divmod fun xs H Q z => ?_
  obtain ⟨F, ds, sv, fd, rt, e0, q⟩ := z
  obtain ⟨a, b, d, rfl, e1, rfl⟩ := II_inv (f := dDivmod) e0
  obtain ⟨_, _, z, h1, h2⟩ := rt.two
  cases z
  cases h1.int
  cases h2.int
  unfold dDivmod at e1
  split at e1 <;> cases e1
  rename_i c
  exact ⟨a, b, rfl, c, fun p hp => wTup q (.cons (.int _) (.cons (.int _) .nil)) hp⟩
theorem maxI_of : ∀ {l : List Int} {m : Int}, maxI l = some m → m ∈ l ∧ ∀ y ∈ l, y ≤ m
  | [], _, h => by cases h
  | x :: l, m, h => by
    cases h
    have go : ∀ (l : List Int) (x : Int), (l.foldl (fun a b => if a < b then b else a) x ∈ x :: l) ∧ x ≤ l.foldl (fun a b => if a < b then b else a) x ∧ ∀ y ∈ l, y ≤ l.foldl (fun a b => if a < b then b else a) x := by
      intro l
      induction l with
      | nil => intro x; exact ⟨List.mem_cons_self, Int.le_refl _, fun _ z => nomatch z⟩
      | cons b l ih =>
        intro x
        obtain ⟨h1, h2, h3⟩ := ih (if x < b then b else x)
        rw [List.foldl_cons]
        refine ⟨?_, ?_, fun y hy => ?_⟩
        · rcases List.mem_cons.mp h1 with e | e
          · rw [e]
            split <;> simp
          · simp [e]
        · refine Int.le_trans ?_ h2
          split <;> omega
        · rcases List.mem_cons.mp hy with rfl | hy
          · refine Int.le_trans ?_ h2
            split <;> omega
          · exact h3 y hy
    obtain ⟨h1, h2, h3⟩ := go l x
    exact ⟨h1, fun y hy => by
      rcases List.mem_cons.mp hy with rfl | hy
      · exact h2
      · exact h3 y hy⟩
theorem minI_of : ∀ {l : List Int} {m : Int}, minI l = some m → m ∈ l ∧ ∀ y ∈ l, m ≤ y
  | [], _, h => by cases h
  | x :: l, m, h => by
    cases h
    have go : ∀ (l : List Int) (x : Int), (l.foldl (fun a b => if b < a then b else a) x ∈ x :: l) ∧ l.foldl (fun a b => if b < a then b else a) x ≤ x ∧ ∀ y ∈ l, l.foldl (fun a b => if b < a then b else a) x ≤ y := by
      intro l
      induction l with
      | nil => intro x; exact ⟨List.mem_cons_self, Int.le_refl _, fun _ z => nomatch z⟩
      | cons b l ih =>
        intro x
        obtain ⟨h1, h2, h3⟩ := ih (if b < x then b else x)
        rw [List.foldl_cons]
        refine ⟨?_, ?_, fun y hy => ?_⟩
        · rcases List.mem_cons.mp h1 with e | e
          · rw [e]
            split <;> simp
          · simp [e]
        · refine Int.le_trans h2 ?_
          split <;> omega
        · rcases List.mem_cons.mp hy with rfl | hy
          · refine Int.le_trans h2 ?_
            split <;> omega
          · exact h3 y hy
    obtain ⟨h1, h2, h3⟩ := go l x
    exact ⟨h1, fun y hy => by
      rcases List.mem_cons.mp hy with rfl | hy
      · exact h2
      · exact h3 y hy⟩
theorem ok_maxL (hc : X.calm = true) : CallR X (.builtin "max") (rc X .maxL) := by
  refine ct_eq (cr_max hc) fun xs H Q z => ?_
  obtain ⟨F, ds, sv, fd, rt, e0, q⟩ := z
  have e : dInts (fun l => (maxI l).map PyData.int) ds = some sv := e0
  clear e0
  match ds, e with
  | [.list l], e =>
    obtain ⟨_, z, h1⟩ := rt.one
    cases z
    obtain ⟨ns, e1, e2⟩ := Option.bind_eq_some_iff.mp (show ((ints? l).bind fun l => ((maxI l).map PyData.int).map fz) = some sv from e)
    obtain ⟨d, e3, rfl⟩ := Option.map_eq_some_iff.mp e2
    obtain ⟨m, e4, rfl⟩ := Option.map_eq_some_iff.mp e3
    obtain ⟨a, vs, rfl, t, r⟩ := h1.lst
    have ev := r.ints e1
    subst ev
    obtain ⟨m1, m2⟩ := maxI_of e4
    refine ⟨a, ns, rfl, .inl t, List.length_pos_of_mem m1, fun m' h1 h2 => ?_⟩
    have : m' = m := Int.le_antisymm (m2 _ h1) (h2 _ m1)
    subst this
    exact wHere q (.int _)
theorem ok_minL (hc : X.calm = true) : CallR X (.builtin "min") (rc X .minL) := by
  refine ct_eq (cr_min hc) fun xs H Q z => ?_
  obtain ⟨F, ds, sv, fd, rt, e0, q⟩ := z
  have e : dInts (fun l => (minI l).map PyData.int) ds = some sv := e0
  clear e0
  match ds, e with
  | [.list l], e =>
    obtain ⟨_, z, h1⟩ := rt.one
    cases z
    obtain ⟨ns, e1, e2⟩ := Option.bind_eq_some_iff.mp (show ((ints? l).bind fun l => ((minI l).map PyData.int).map fz) = some sv from e)
    obtain ⟨d, e3, rfl⟩ := Option.map_eq_some_iff.mp e2
    obtain ⟨m, e4, rfl⟩ := Option.map_eq_some_iff.mp e3
    obtain ⟨a, vs, rfl, t, r⟩ := h1.lst
    have ev := r.ints e1
    subst ev
    obtain ⟨m1, m2⟩ := minI_of e4
    refine ⟨a, ns, rfl, .inl t, List.length_pos_of_mem m1, fun m' h1 h2 => ?_⟩
    have : m' = m := Int.le_antisymm (h2 _ m1) (m2 _ h1)
    subst this
    exact wHere q (.int _)
theorem ok_sum (hc : X.calm = true) : CallR X (.builtin "sum") (rc X .sum) := by
  refine ct_eq (cr_sum hc) fun xs H Q z => ?_
  obtain ⟨F, ds, sv, fd, rt, e0, q⟩ := z
  have e : dInts (fun l => some (.int l.sum)) ds = some sv := e0
  clear e0
  match ds, e with
  | [.list l], e =>
    obtain ⟨_, z, h1⟩ := rt.one
    cases z
    obtain ⟨ns, e1, e2⟩ := Option.bind_eq_some_iff.mp (show ((ints? l).bind fun l => (some (PyData.int l.sum)).map fz) = some sv from e)
    cases e2
    obtain ⟨a, vs, rfl, t, r⟩ := h1.lst
    have ev := r.ints e1
    subst ev
    exact ⟨a, ns, rfl, .inl t, wHere q (.int _)⟩
theorem ok_all (hc : X.calm = true) : CallR X (.builtin "all") (rc X .all) := by
  refine ct_eq (cr_all hc) fun xs H Q z => ?_
  obtain ⟨F, ds, sv, fd, rt, e0, q⟩ := z
  have e : dBools (·.all id) ds = some sv := e0
  clear e0
  match ds, e with
  | [.list l], e =>
    obtain ⟨_, z, h1⟩ := rt.one
    cases z
    obtain ⟨ns, e1, e2⟩ := Option.map_eq_some_iff.mp (show ((bools? l).map fun l => fz (.bool (l.all id))) = some sv from e)
    cases e2
    obtain ⟨a, vs, rfl, t, r⟩ := h1.lst
    have ev := r.bools e1
    subst ev
    exact ⟨a, ns, rfl, .inl t, wHere q (.bl _)⟩
theorem ok_any (hc : X.calm = true) : CallR X (.builtin "any") (rc X .any) := by
  refine ct_eq (cr_any hc) fun xs H Q z => ?_
  obtain ⟨F, ds, sv, fd, rt, e0, q⟩ := z
  have e : dBools (·.any id) ds = some sv := e0
  clear e0
  match ds, e with
  | [.list l], e =>
    obtain ⟨_, z, h1⟩ := rt.one
    cases z
    obtain ⟨ns, e1, e2⟩ := Option.map_eq_some_iff.mp (show ((bools? l).map fun l => fz (.bool (l.any id))) = some sv from e)
    cases e2
    obtain ⟨a, vs, rfl, t, r⟩ := h1.lst
    have ev := r.bools e1
    subst ev
    exact ⟨a, ns, rfl, .inl t, wHere q (.bl _)⟩
theorem ok_list : CallR X (.type "list") (rc X .list) := by
  refine ct_eq call_list_of fun xs H Q z => ?_
  obtain ⟨F, ds, sv, fd, rt, e0, q⟩ := z
  have e : dList ds = some sv := e0
  clear e0
  match ds, e with
  | [.list l], e =>
    obtain ⟨_, z, h1⟩ := rt.one
    cases z; cases e
    obtain ⟨a, vs, rfl, t, r⟩ := h1.lst
    exact ⟨a, vs, rfl, .inl (.inl t), fun p hp => wLst fd q r hp⟩
  | [.tuple l], e =>
    obtain ⟨_, z, h1⟩ := rt.one
    cases z; cases e
    obtain ⟨a, vs, rfl, t, r⟩ := h1.tup
    exact ⟨a, vs, rfl, .inr t, fun p hp => wLst fd q r hp⟩
theorem ok_tuple : CallR X (.type "tuple") (rc X .tuple) := by
  refine ct_eq call_tuple_of fun xs H Q z => ?_
  obtain ⟨F, ds, sv, fd, rt, e0, q⟩ := z
  have e : dTuple ds = some sv := e0
  clear e0
  match ds, e with
  | [.list l], e =>
    obtain ⟨_, z, h1⟩ := rt.one
    cases z; cases e
    obtain ⟨a, vs, rfl, t, r⟩ := h1.lst
    exact ⟨a, vs, rfl, .inl ⟨.inl t, fun p hp => wTup q r hp⟩⟩
  | [.tuple l], e =>
    obtain ⟨_, z, h1⟩ := rt.one
    cases z; cases e
    obtain ⟨a, vs, rfl, t, r⟩ := h1.tup
    exact ⟨a, vs, rfl, .inr ⟨t, wHere q (.tup t r)⟩⟩
theorem ok_int : CallR X (.type "int") (rc X .int) := by
  refine ct_eq (call_or call_int1 call_int_str) fun xs H Q z => ?_
  obtain ⟨F, ds, sv, fd, rt, e0, q⟩ := z
  have e : dInt ds = some sv := e0
  clear e0
  match ds, e with
  | [.int l], e =>
    obtain ⟨_, z, h1⟩ := rt.one
    cases z; cases e
    cases h1.int
    exact .inl (.inl ⟨l, rfl, wHere q (.int _)⟩)
  | [.bool l], e =>
    obtain ⟨_, z, h1⟩ := rt.one
    cases z; cases e
    cases h1.bool
    exact .inl (.inr ⟨l, rfl, wHere q (.int _)⟩)
  | [.str a], e =>
    obtain ⟨_, z, h1⟩ := rt.one
    cases z
    have e' : (if a.length ≤ 640 then (intText? a).map (fun n => fz (.int n)) else none) = some sv := e
    split at e'
    · rename_i hz
      obtain ⟨n, e1, e2⟩ := Option.map_eq_some_iff.mp e'
      cases e2
      cases h1.str
      exact .inr ⟨a, n, rfl, e1, hz, wHere q (.int _)⟩
    · cases e'
theorem ok_str : CallR X (.type "str") (rc X .str) := by
  refine ct_eq call_str_int fun xs H Q z => ?_
  obtain ⟨F, ds, sv, fd, rt, e0, q⟩ := z
  have e : dStr ds = some sv := e0
  clear e0
  match ds, e with
  | [.int i], e =>
    obtain ⟨_, z, h1⟩ := rt.one
    cases z
    have e' : (if i.natAbs.log2 < 1920 then some (fz (.str (toString i : String))) else none) = some sv := e
    obtain ⟨hz, e'⟩ := ite_none e'
    cases e'
    cases h1.int
    exact ⟨i, rfl, hz, wHere q (.str _)⟩
/-! ### sorted(a list) -/
theorem each_rp {K : KW} {F : Addr → Prop} {H : Hp} : ∀ {ds : List D} {vs : List V} {us : List Value}, Rps K F H vs ds → Vals vs us → PySem.W.EachIs (fun u d => ∃ v, RelV v u ∧ Rp K F H v d) us ds
  | [], vs, us, r, v => by cases r; cases v; exact .nil
  | d :: ds, vs, us, r, v => by
    cases r with
    | cons a b =>
      cases v with
      | cons c e => exact .cons ⟨_, c, a⟩ (each_rp b e)
theorem rp_each {K : KW} {F : Addr → Prop} {H : Hp} : ∀ {ds : List D} {us : List Value}, PySem.W.EachIs (fun u d => ∃ v, RelV v u ∧ Rp K F H v d) us ds → ∃ vs, Rps K F H vs ds ∧ Vals vs us
  | _, _, .nil => ⟨[], .nil, .nil⟩
  | _, _, .cons ⟨v, a, b⟩ t => by
    obtain ⟨vs, q1, q2⟩ := rp_each t
    exact ⟨v :: vs, .cons b q1, .cons a q2⟩
theorem each_in {α β : Type} {R R' : α → β → Prop} : ∀ {as : List α} {bs : List β}, PySem.W.EachIs R as bs → (∀ a b, b ∈ bs → R a b → R' a b) → PySem.W.EachIs R' as bs
  | _, _, .nil, _ => .nil
  | _, _, .cons h t, i => .cons (i _ _ List.mem_cons_self h) (each_in t fun a b hb => i a b (List.mem_cons_of_mem _ hb))
theorem sortOk_ok {xs : List D} (h : sortOk xs = true) : PySem.W.AllAlike xs ∧ PySem.W.Sortable xs ∧ (∀ d ∈ xs, okD d = true) ∧ xs.length ≤ sizeLine := by
  unfold sortOk at h
  simp only [Bool.and_eq_true, Bool.or_eq_true, List.all_eq_true, decide_eq_true_eq] at h
  obtain ⟨⟨⟨h1, h2⟩, h3⟩, h4⟩ := h
  refine ⟨fun d hd d' hd' => h1 d hd d' hd', h2.elim (fun h => .inl fun d hd => ?_) (fun h => .inr fun d hd => ?_), h3, h4⟩
  · have := h d hd
    unfold neTup at this
    split at this
    · exact ⟨_, _, rfl⟩
    · cases this
  · have := h d hd
    exact ⟨(fun z => by subst z; cases this), (fun xs z => by subst z; cases this)⟩
theorem ok_sorted (hu : X.A.units + 66 < cLine) : CallR X (.builtin "sorted") (rc X .sorted) := by
  intro pins s σ H xs us Q I r z
  obtain ⟨F, ds, sv, fd, rt, e0, q⟩ := z
  have e : dSorted ds = some sv := e0
  clear e0
  match ds, e with
  | [.list l], e =>
    obtain ⟨_, z, h1⟩ := rt.one
    cases z
    obtain ⟨hok, e⟩ := ite_none (show (if sortOk l = true then some (ow (.list (sortD l))) else none) = some sv from e)
    cases e
    obtain ⟨a, vs, rfl, t, rs⟩ := h1.lst
    obtain ⟨hal, hso, hsh, hln⟩ := sortOk_ok hok
    cases r with
    | cons ra rb =>
      cases rb
      cases ra
      obtain ⟨its, n, zz, rv, hl, eo⟩ := rd_list I t
      have hp : H (s.heap.objs.size + 1) = none := I.hok.fresh (Nat.le_succ _)
      refine PySem.W.sorted_data (enc := id) (R := fun u d => ∃ v, RelV v u ∧ Rp X.kw F H v d) (bs := l) (vs := its) ⟨_, eo, rfl, n, rfl⟩ (each_rp rs rv) (each_in (each_rp rs rv) fun u d hd ⟨v, h1, h2⟩ => ?_) (by rw [List.map_id]; exact hal) (by rw [List.map_id]; exact hso) hln (fun d hd => ?_) fun out ho eo' => ?_
      · have := hsh d hd
        unfold okD SeqAt.shaped at this
        simp only [Bool.and_eq_true] at this
        exact Dp.reads I d v u (Rp.dp d v this.1 h2) h1
      · have := hsh d hd
        unfold okD SeqAt.shaped at this
        simp only [Bool.and_eq_true, decide_eq_true_eq] at this
        show X.A.units + 2 + d.depth < cLine
        omega
      · obtain ⟨ws, q1, q2⟩ := rp_each eo'
        obtain ⟨c, hc⟩ := PyProof.Rows.sortedAll_at s.heap its out.toArray
        have hz : ws.length ≤ sizeLine := by
          rw [q2.length, ho]; exact hln
        have I2 := I.laid (a := s.heap.objs.size + 1) (o := .lst ws) (h' := PyProof.Rows.sortedAll s.heap its out.toArray) (t' := s.toks) (fun b o e => PyProof.Rows.sortedAll_old e) (Nat.le_succ _) ⟨hz, out, c, q2, hc⟩
        exact ⟨.ref (s.heap.objs.size + 1), _, I2, rfl, wLst fd q q1 hp⟩
end
end RH
set_option maxRecDepth 100000
set_option maxHeartbeats 4000000
/-! Exceptions out of a list comprehension. -/
namespace RH
open PySem PySem.Spec PyProof.Rows L2

/-- an exception in the air of X, held by the frame where X's names stand -/
def XEr (X : Cx) (W : WX) (u : Value) (s' : Shared) : Prop :=
  ∃ (a : Addr) (B : Heap) (sI : Shared) (pins : List (Addr × Obj)) (σ : L2.St) (H : Hp) (cls : Value) (d : Option Addr) (L : Addr),
    u = .ref a ∧ Inv X pins σ H sI ∧ (∀ b o, sI.heap.get? b = some o → b ∉ frs X.stack → B.get? b = some o) ∧ sI.heap.UpToSlots s'.heap ∧
      X.env.frame = some L ∧ Sky B X.stack a (Zc cls d) L s'.heap ∧ H a = none ∧ s'.os = sI.os ∧ AllBare s'.gens ∧ W cls d σ H
def TakesR (X : Cx) (W : WX) : Prop := ∀ u s', XEr X W u s' → X.xe u s'
/-- the frame where X's names stand is the topmost one -/
def Fr1 (X : Cx) : Prop := ∃ E0 l L, X.stack = E0 :: l ∧ E0.frame = some L ∧ X.env.frame = some L
theorem fr1_of {X : Cx} (hs : X.stack = X.env :: X.outer) (hf : X.env.frame = some X.env.locals) : Fr1 X := ⟨_, _, _, hs, hf, hf⟩
theorem TakesR.of {X : Cx} {W : WX} (hf : X.env.frame = some X.env.locals) (t : Takes X W) : TakesR X W := fun u s' ⟨a, B, sI, pins, σ, H, cls, d, L, e, I, nb, up, fr, sky, na, os, ag, w⟩ => by
  rw [hf] at fr
  cases fr
  exact t u s' ⟨a, B, sI, pins, σ, H, cls, d, e, I, nb, up, sky, na, os, ag, w⟩
theorem TakesR.to {X : Cx} {W : WX} (hf : X.env.frame = some X.env.locals) (t : TakesR X W) : Takes X W := fun u s' ⟨a, B, sI, pins, σ, H, cls, d, e, I, nb, up, sky, na, os, ag, w⟩ =>
  t u s' ⟨a, B, sI, pins, σ, H, cls, d, _, e, I, nb, up, hf, sky, na, os, ag, w⟩
theorem passR {X : Cx} {W : WX} (tk : TakesR X W) (fr : Fr1 X) (σ : L2.St) : PassesAt (L2.CX X.prog X.w) X σ (WE W σ) := fun pins H s e s' I c => by
  obtain ⟨E0, l, L, hs, _, hf⟩ := fr
  obtain ⟨a, B, H', cls, d, rfl, fl, hok, ub, na, os, ag, hE⟩ := c
  obtain ⟨a', B', sI, pins', σ', H'', cls', d', e1, I', nb, up, sky, na', os', ag', w⟩ := XE.of_call (W := fun cls d σ0 H => σ0 = σ ∧ W cls d σ H) (E := fun cls d H => σ = σ ∧ W cls d σ H) I (fun _ _ _ h => h) ⟨a, B, H', cls, d, rfl, fl, hok, ub, na, os, ag, rfl, hE⟩
  cases e1
  obtain ⟨w1, w2⟩ := w
  subst w1
  refine tk _ _ ⟨a, B', sI, pins', σ', H'', cls', d', L, rfl, I', nb, up, hf, ?_, na', os', ag', w2⟩
  exact .inr (.inl (by
    rcases sky with z | z | z
    · obtain ⟨_, _, _, oe, vs, h1, _, h3, h4⟩ := z
      obtain ⟨_, _, _, oe2, vs2, T, oT, ts, g1, _, g3, g4, _⟩ := fl
      rw [h1] at g1; cases g1
      rw [h3] at g3; cases g3
      rw [h4] at g4; cases g4
    · exact z
    · obtain ⟨_, _, _, oe, vs, T, oT, ts, h1, _, h3, h4, _, _, h5, h6, h7⟩ := z
      obtain ⟨_, _, _, oe2, vs2, T2, oT2, ts2, g1, _, g3, g4, _, _, g5, g6, g7⟩ := fl
      rw [h1] at g1; cases g1
      rw [h3] at g3; cases g3
      rw [h4] at g4; cases g4
      rw [h5] at g5; cases g5
      rw [h6] at g6; cases g6
      rw [h7] at g7; cases g7))

/-! ### the block -/
abbrev blkX (X : Cx) (s : Shared) (H : Hp) (scope : Scope) (cenv : Env) (fp : List Addr) : Cx :=
  { X with s_0 := s, H_0 := H, env := cenv, outer := X.stack, ex := fp, fn := fun x => scope.names.lookup x == some .cell, pn := [], xe := notedBy (model X.prog X.w) X.A cenv (CompFails (model X.prog X.w) X.A X.xe cenv) }
theorem Inv.setXe {X : Cx} {pins : List (Addr × Obj)} {σ : L2.St} {H : Hp} {s : Shared} {e : Value → Shared → Prop} (I : Inv X pins σ H s) : Inv { X with xe := e } pins σ H s := by
  obtain ⟨ok, a1, a2, a3, a4, a5, a6, a7, a8, a9, a10⟩ := I
  obtain ⟨b1, b2, b3, b4, b5, b6, b7, b8, b9, b10, b11, b12, b13, b14, b15, b16, b17, b18⟩ := ok
  exact ⟨⟨b1, b2, b3, b4, b5, b6, b7, b8, b9, b10, b11, b12, b13, b14, b15, b16, b17, b18⟩, a1, a2, a3, a4, a5, a6, a7, a8, a9, a10⟩
/-- what a block hands on -/
abbrev Wb (W : WX) (σ : L2.St) : WX := fun cls d _ H => W cls d σ H
theorem funFrames_less {h B B' : Heap} (hb : ∀ b o, B'.get? b = some o → B.get? b = some o) : ∀ {l : List Env}, h.FunFrames B l → h.FunFrames B' l
  | [], _ => trivial
  | _ :: _, ⟨hk, ⟨L, o, hf, hn, ho, hd⟩, hr⟩ => ⟨hk, ⟨L, o, hf, (by
      cases q : B'.get? L with
      | none => rfl
      | some x => rw [hb _ _ q] at hn; cases hn), ho, hd⟩, funFrames_less hb hr⟩
section
variable {X : Cx} {W : WX} {pins : List (Addr × Obj)} {σ : L2.St}
theorem takes_blk {H3 : Hp} {s3 : Shared} {fp : List Addr} {ce : Env} (tk : TakesR X W) (fr : Fr1 X) (scope : Scope) (I3 : Inv X pins σ H3 s3) (hce : ce.frame = X.env.frame) (hC : s3.heap.objs.size ≤ ce.locals) (f3 : ∀ b ∈ fp, FpOk X pins H3 b) :
    TakesR (blkX X s3 H3 scope ce fp) (Wb W σ) := fun u s' x => by
  obtain ⟨E0, l, L, hst, hE0, hf⟩ := fr
  obtain ⟨a, B, sI, pins', σ', H', cls, d, L', rfl, I', nb, up, hL', sky, na, os, ag, w⟩ := x
  have hL' : ce.frame = some L' := hL'
  rw [hce, hf] at hL'
  cases hL'
  have hcf : ce.frame = some L := hce.trans hf
  have hfr : X.A.frames = some (E0 :: l) := by rw [I3.ok.frames, hst]
  have nC' : H' ce.locals = none := I'.free
  obtain ⟨m, hnI, _⟩ := I'.loc
  have hnI : sI.heap.Ns ce.locals m := hnI
  -- behind the note
  have fin : ∀ h1, HandSPX.HeldZ B (E0 :: l) a (Zc cls d) L h1 → s'.heap.UpToSlots h1 → CompFails (model X.prog X.w) X.A X.xe ce (.ref a) { s' with heap := h1 } := fun h1 hh up1 => by
    have hn1 : h1.Ns ce.locals m := (hnI.upToSlots up).upToSlots up1
    refine ⟨m, hn1, fun h2 m2 hn2 hs2 => ?_⟩
    obtain ⟨B', hB'⟩ : ∃ B', B' = B.hide ce.locals := ⟨_, rfl⟩
    have bB : ∀ b o, B'.get? b = some o → B.get? b = some o ∧ b ≠ ce.locals := fun b o e => by
      rw [hB'] at e
      refine ⟨Heap.of_hide e, fun z => ?_⟩
      rw [z, Heap.hide_self] at e; cases e
    obtain ⟨c1, c2, c3, oe, vs, T, oT, ts, he, hz, hd, hv, hnT, hTe, hT, hdT, h33⟩ := hh
    obtain ⟨oC, esC, epC, hoC, hdC, _⟩ := hn1
    have neE : a ≠ ce.locals := fun z => by
      rw [z, hoC] at he; cases he
      rw [hdC] at hd; cases hd
    have neT : T ≠ ce.locals := fun z => by
      rw [z, hoC] at hT; cases hT
      rw [hdC] at hdT; cases hdT
    have noneB : ∀ b, B.get? b = none → B'.get? b = none := fun b e => by
      cases q : B'.get? b with
      | none => rfl
      | some o => rw [(bB b o q).1] at e; cases e
    have hh2 : HandSPX.HeldZ B' (E0 :: l) a (Zc cls d) L h2 :=
      ⟨fun b o e => (hs2.2 b (bB b o e).2).trans (c1 b o (bB b o e).1), noneB a c2, Heap.FunFrames.sameBut hs2 hn2 (funFrames_less (fun b o e => (bB b o e).1) c3),
        oe, vs, T, oT, ts, (hs2.2 a neE).trans he, hz, hd, hv, noneB T hnT, hTe, (hs2.2 T neT).trans hT, hdT, h33⟩
    unfold PySem.passOn
    refine wpAny_bind (wpAny_field ((hs2.2 a neE).trans he) hd hv ?_)
    rw [if_neg (show ¬ ((Value.ref T == Value.none) = true) from by simp), hcf]
    refine wpAny_bind (HandSPX.setFlight_onZ hh2 fun h3 hh3 up3 => wpAny_throw ?_)
    -- the state of ours
    obtain ⟨G, hG⟩ : ∃ G, G = sI.heap.hide ce.locals := ⟨_, rfl⟩
    have gI : ∀ b o, G.get? b = some o → sI.heap.get? b = some o ∧ b ≠ ce.locals := fun b o e => by
      rw [hG] at e
      refine ⟨Heap.of_hide e, fun z => ?_⟩
      rw [z, Heap.hide_self] at e; cases e
    have iG : ∀ b o, sI.heap.get? b = some o → b ≠ ce.locals → G.get? b = some o := fun b o e n => by
      rw [hG, Heap.hide_ne _ n]; exact e
    have lt3 : ∀ b o, s3.heap.get? b = some o → b ≠ ce.locals := fun b o e z => by
      have h1 := Heap.lt_size e
      rw [z] at h1
      exact absurd (Nat.lt_of_lt_of_le h1 hC) (Nat.lt_irrefl _)
    have ub := I'.base
    have ub : Un (frs X.stack) fp H3 H' s3.heap sI.heap := ub
    have hokG : HOk X.prog X.w H' G := fun b o q => (I'.hok b o q).stay (fun c u hc r => iG c u r fun z => by
        have zz := nC'
        rw [← z] at zz
        rcases hc with hc | hc
        · rw [hc, q] at zz; cases zz
        · rw [hc] at zz; cases zz) (fun _ r => r) fun _ _ r => r
    have IG : Inv X pins σ H' { sI with heap := G } := I3.call' (ch := fp) I'.os
      ⟨fun b o e n h1 h2 => iG b o (ub.keep b o e n h1 h2) (lt3 b o e), fun b o e n h1 h2 => by
        obtain ⟨sl, q⟩ := ub.slot b o e n h1 h2
        exact ⟨sl, iG b _ q (lt3 b o e)⟩, ub.free, fun b o e h2 => by
        obtain ⟨o', q⟩ := ub.there b o e h2
        exact ⟨o', iG b o' q (lt3 b o e)⟩, ub.tups, ub.frzs, ub.tbls⟩ hokG I'.bare fun b hb => ⟨(f3 b hb).2.2.2.1, (f3 b hb).2.1, (f3 b hb).2.2.2.2.1, (f3 b hb).2.2.2.2.2⟩
    refine tk _ _ ⟨a, B', { sI with heap := G }, pins, σ, H', cls, d, L, rfl, IG, fun b o e hb => ?_, fun b o e hnf => ?_, hf, .inr (.inr (by rw [hst]; exact hh3)), na, os, ag, w⟩
    · obtain ⟨e1, n1⟩ := gI b o e
      rw [hB', Heap.hide_ne _ n1]
      exact nb b o e1 hb
    · obtain ⟨e1, n1⟩ := gI b o e
      obtain ⟨sl1, q1⟩ := up b o e1 hnf
      obtain ⟨sl2, q2⟩ := up1 b _ q1 hnf
      obtain ⟨sl3, q3⟩ := up3 b _ ((hs2.2 b n1).trans q2) hnf
      exact ⟨sl3, q3⟩
  show wpAny (model X.prog X.w) X.A (noteFrame (.ref a) ce) _ _ s'
  rw [noteFrame_env (.ref a) (cenv := ce) (env := E0) (hcf.trans hE0.symm)]
  have sky : Sky B (E0 :: l) a (Zc cls d) L s'.heap := by rw [← hst]; exact sky
  rcases sky with ⟨hB, hn, hl, oe, vs, he, hz, hd, h1⟩ | fl | hh
  · exact HandSPX.look_newZ Zc.steady hfr hl hE0 he hB hn hd h1 hz fin
  · exact HandSPX.looks_onZ Zc.steady hfr hE0 fl fin
  · exact HandSPX.againZ hE0 hh.2.2.2 (fin s'.heap hh (Heap.UpToSlots.refl _))

theorem lc_coreX {s : Shared} {H : Hp} {Q : VK} {elt tg iter : Expr} {ifs : List Expr} {scope : Scope} {own : List (Str × Nat)} {pos pos' : Pos} {wi : TI} {g : TG} {tt : TT} {te : TE} {use : Option (Value → Sem Unit)} {Qf : Value → Shared → Prop}
    (tk : TakesR X W) (fr : Fr1 X)
    (hc : X.calm = true) (hN : X.N.Nodup) (I : Inv X pins σ H s) (hi : PI X tg iter wi) (ok : BlkOk X.N X.env.scope scope own)
    (hg : ∀ (s : Shared) (H : Hp) (C : Addr) (cl : List (Str × Addr)) (fp : List Addr), TakesR (blkX X s H scope (compEnvC scope cl C X.env) fp) (Wb W σ) → PG (blkX X s H scope (compEnvC scope cl C X.env) fp) tg g)
    (ht : ∀ (s : Shared) (H : Hp) (C : Addr) (cl : List (Str × Addr)) (fp : List Addr), TakesR (blkX X s H scope (compEnvC scope cl C X.env) fp) (Wb W σ) → PTs (blkX X s H scope (compEnvC scope cl C X.env) fp) ifs tt)
    (he : ∀ (s : Shared) (H : Hp) (C : Addr) (cl : List (Str × Addr)) (fp : List Addr), TakesR (blkX X s H scope (compEnvC scope cl C X.env) fp) (Wb W σ) → PE (blkX X s H scope (compEnvC scope cl C X.env) fp) elt te) (hs : ∀ x, foldedSetIterable iter X.env x = pure x)
    (h : tLc wi g tt te (own.map (·.2)) σ H Q)
    (hRR : ∀ D cl C s' m H', Inv X pins σ H' s' → Q (.ref D) H' → s'.heap.Ns C m → FpOk X pins H' C → compEnds (model X.prog X.w) X.A X.xe use Qf (.ref D) (compEnvC scope cl C X.env) (.ok .next) s') :
    wpAny (model X.prog X.w) X.A (comprehension (.ListComp elt [⟨tg, iter, ifs, 0⟩] scope pos) scope X.env pos' (newList []) false (eval iter X.env) use) Qf X.xe s := by
  have hfree : ∀ y ∈ scope.names, y.2 = .free → ∃ c, X.env.cells.lookup y.1 = some c := fun y hy e => by
    rcases ok.free y hy e with k | k
    · exact I.ok.has _ (.inl k)
    · exact I.ok.has _ (.inr k)
  refine comprehension_at (use := use) rfl hs (closure_ok hfree) ok.kind (fun y hy e => by rw [ok.uniq y hy, e])
    (thn (hi.run pins s σ H _ I h) fun xv s1 hx => thn hx fun itv s2 h2 => ?_)
  obtain ⟨it, fp, tn, J, H2, e, I2, T, st2, f2, q⟩ := h2
  subst e
  refine wpAny_newObj_type (newEnv_comp ?_) (by show 0 ≤ sizeLine; decide)
  generalize hD : s2.heap.objs.size = D
  have hDn : H2 D = none := I2.hok.fresh (Nat.le_of_eq hD)
  obtain ⟨Wm, ⟨m0, w0⟩, turn⟩ := q D hDn
  -- the new list
  generalize hs3 : ({ s2 with heap := s2.heap.push { cls := .type "list", data := .seq ([] : List Value).toArray } } : Shared) = s3
  have I3 : Inv X pins σ (upd H2 D (.lst [])) s3 := by
    rw [← hs3]
    refine I2.laid (t' := s2.toks) (fun b o e => Heap.get?_push_of_some _ e) (Nat.le_of_eq hD) ⟨Nat.zero_le _, [], 0, .nil, ?_⟩
    rw [← hD]
    exact Heap.get?_push_size _ rfl
  have h3 : s3.heap = s2.heap.push { cls := .type "list", data := .seq ([] : List Value).toArray } := by rw [← hs3]
  have sz : ∀ b ∈ fp, b < s2.heap.objs.size := fun b hb => by
    obtain ⟨o, e, _⟩ := T.obj _ _ st2 b hb
    exact Heap.lt_size e
  have f3 : ∀ b ∈ fp, FpOk X pins (upd H2 D (.lst [])) b ∧ b < s3.heap.objs.size := fun b hb => by
    have hlt := sz b hb
    refine ⟨⟨?_, (f2 b hb).2⟩, by rw [h3, Heap.size_push]; exact Nat.lt_succ_of_lt hlt⟩
    rw [upd_ne (by rw [← hD]; exact Nat.ne_of_lt hlt)]
    exact (f2 b hb).1
  have st3 : tn 0 s3.heap := T.keep _ _ _ st2 fun b _ o e => by rw [h3]; exact Heap.get?_push_of_some _ e
  have I4 := block_start I3 ok hN f3
  have tkb := takes_blk tk fr scope I3 (ce := compEnvC scope (cellsFrom (s3.heap.objs.size + 1) scope.names (cloFrom X.env.cells scope.names [])) s3.heap.objs.size X.env) rfl (Nat.le_refl _) (fun b hb => (f3 b hb).1)
  have pg := hg s3 (upd H2 D (.lst [])) s3.heap.objs.size (cellsFrom (s3.heap.objs.size + 1) scope.names (cloFrom X.env.cells scope.names [])) fp tkb
  have pt := ht s3 (upd H2 D (.lst [])) s3.heap.objs.size (cellsFrom (s3.heap.objs.size + 1) scope.names (cloFrom X.env.cells scope.names [])) fp tkb
  have pe := he s3 (upd H2 D (.lst [])) s3.heap.objs.size (cellsFrom (s3.heap.objs.size + 1) scope.names (cloFrom X.env.cells scope.names [])) fp tkb
  have hRR := fun D => hRR D (cellsFrom (s3.heap.objs.size + 1) scope.names (cloFrom X.env.cells scope.names [])) s3.heap.objs.size
  show codeAny _ _ (.compStart (.ListComp elt [⟨tg, iter, ifs, 0⟩] scope pos) 0 (.ref it) (.ref D) (compEnvC scope (cellsFrom (s3.heap.objs.size + 1) scope.names (cloFrom X.env.cells scope.names [])) s3.heap.objs.size X.env)) (compEnds (model X.prog X.w) X.A X.xe use Qf (.ref D) (compEnvC scope (cellsFrom (s3.heap.objs.size + 1) scope.names (cloFrom X.env.cells scope.names [])) s3.heap.objs.size X.env)) { s3 with heap := pushCells (s3.heap.push { cls := .type "dict", data := .dict #[] }) scope.names }
  have nfp : ∀ b ∈ fp, (upd H2 D (.lst [])) b = none := fun b hb => (f3 b hb).1.1
  generalize hce : compEnvC scope (cellsFrom (s3.heap.objs.size + 1) scope.names (cloFrom X.env.cells scope.names [])) s3.heap.objs.size X.env = ce at I4 pg pt pe hRR ⊢
  have cL : ce.locals = s3.heap.objs.size := by subst hce; rfl
  generalize hH3 : upd H2 D (.lst []) = H3 at I3 I4 pg pt pe w0 nfp f3
  generalize hs4 : ({ s3 with heap := pushCells (s3.heap.push { cls := .type "dict", data := .dict #[] }) scope.names } : Shared) = s4 at I4 ⊢
  have I4 : Inv (blkX X s3 H3 scope ce fp) [] (wipe σ (own.map (·.2))) H3 s4 := Inv.setXe I4
  have st4 : tn 0 s4.heap := T.keep _ _ _ st3 fun b _ o e => by rw [← hs4]; exact pushCells_keeps _ _ _ _ (Heap.get?_push_of_some _ e)
  have stat : ∀ {σ' : L2.St} {H' : Hp} {s' : Shared}, Inv (blkX X s3 H3 scope ce fp) [] σ' H' s' → (∀ b ∈ fp, H' b = none) → ∀ b ∈ fp, FpOk (blkX X s3 H3 scope ce fp) [] H' b := fun {σ' H' s'} I' hn b hb =>
    ⟨hn b hb, (I'.ok.exf b hb).1, I'.ok.exfs b hb, .inl hb, fun x c e => (I'.ok.exf b hb).2 x c e, fun p hp => absurd (show p ∈ ([] : List (Addr × Obj)) ++ [] from hp) (by simp)⟩
  have hER : (notedBy (model X.prog X.w) X.A ce fun e s' => compEnds (model X.prog X.w) X.A X.xe use Qf (.ref D) ce (.error e) s') = (blkX X s3 H3 scope ce fp).xe := by cases use <;> rfl
  have loop : codeAny (model X.prog X.w) X.A (.compLoop (.ListComp elt [⟨tg, iter, ifs, 0⟩] scope pos) 0 (.ref it) (.ref D) ce) (compEnds (model X.prog X.w) X.A X.xe use Qf (.ref D) ce) s4 := by
    refine compLoop_any (fun n s' => ∃ i H', Inv (blkX X s3 H3 scope ce fp) [] (wipe σ (own.map (·.2))) H' s' ∧ tn i s'.heap ∧ (∀ b ∈ fp, H' b = none) ∧ Wm i n H') ?_ m0 ⟨0, H3, I4, st4, nfp, w0⟩
    rw [hER]
    rintro n s5 ⟨i, H5, I5, st5, n5, w5⟩
    rcases turn i n H5 w5 with ⟨stop, qq⟩ | ⟨go, Nx, hNx, step⟩
    · have td := T.done (blkX X s3 H3 scope ce fp) rfl rfl rfl hc i [] s5 _ H5 (fun _ _ => False) I5 (stat I5 n5) st5 stop
      refine thnF td fun r s6 ⟨hr, I6⟩ => ?_
      subst hr
      -- back in the def's context
      have I7 : Inv X pins σ H5 s6 := I3.call' (ch := fp) I6.os I6.base I6.hok I6.bare fun b hb => ⟨(f3 b hb).1.2.2.2.1, (f3 b hb).1.2.1, (f3 b hb).1.2.2.2.2.1, (f3 b hb).1.2.2.2.2.2⟩
      have nC : H5 s3.heap.objs.size = none := by
        have z : H5 ce.locals = none := I6.free
        rw [cL] at z
        exact z
      obtain ⟨m, hn, _⟩ := I6.loc
      have hn : s6.heap.Ns ce.locals m := hn
      rw [cL] at hn
      exact hRR D s6 m H5 I7 qq hn (I3.fpOk (Nat.le_refl _) nC)
    · have ti := T.item (blkX X s3 H3 scope ce fp) rfl rfl rfl hc i [] s5 _ H5 (fun _ _ => False) I5 (stat I5 n5) st5 go
      refine thnF ti fun r s6 ⟨u, hr, h6⟩ => ?_
      subst hr
      refine thnF h6 fun _ s7 ⟨x, H7, I7, r7, y7, st7, n7⟩ => ?_
      have I7' := I7.pinned (stat I7 n7) (T.obj _ _ st7)
      refine thn (pg.run _ s7 _ H7 x u _ I7' r7 (step x H7 y7)) fun _ s8 ⟨σ8, H8, I8, hw8, q8⟩ => ?_
      refine thn (pt.run _ s8 σ8 H8 _ I8 q8) fun b s9 ⟨H9, I9, q9⟩ => ?_
      -- the turn's end
      have fin : ∀ {s' : Shared} {H' : Hp}, Inv (blkX X s3 H3 scope ce fp) ([] ++ pinsAt fp s7.heap) σ8 H' s' → Nx H' → ∃ m, m < n ∧ ∃ i H', Inv (blkX X s3 H3 scope ce fp) [] (wipe σ (own.map (·.2))) H' s' ∧ tn i s'.heap ∧ (∀ b ∈ fp, H' b = none) ∧ Wm i m H' := fun {s' H'} I' nx => by
        obtain ⟨m', hm, w'⟩ := hNx H' nx
        have pin' : ∀ b ∈ fp, ∀ o, s7.heap.get? b = some o → s'.heap.get? b = some o ∧ H' b = none := fun b hb o e =>
          let z := I'.pin (b, o) (List.mem_append_right _ (List.mem_append_right _ (mem_pinsAt hb e)))
          ⟨z.1, z.2.1⟩
        have hl : (wipe σ (own.map (·.2))).length = σ8.length := by rw [← hw8, wipe_length]
        refine ⟨m', hm, i + 1, H', (I'.unpinned (pins := [])).weak hl (fun j v e => ?_), T.keep _ _ _ st7 fun b hb o e => (pin' b hb o e).1, fun b hb => ?_, w'⟩
        · rw [← hw8] at e
          exact (wipe_some e).1
        · obtain ⟨o, e, _⟩ := T.obj _ _ st7 b hb
          exact (pin' b hb o e).2
      cases b with
      | false =>
        simp only [Bool.false_eq_true, if_false] at q9 ⊢
        exact fin I9 q9
      | true =>
        simp only [if_true] at q9 ⊢
        refine thn (pe.run _ s9 σ8 H9 _ I9 q9) fun z s10 ⟨yv, H10, I10, r10, acc, hD10, hz10, nx⟩ => ?_
        exact app_ok (X := blkX X s3 H3 scope ce fp) I10 hD10 hz10 r10 fun s11 I11 => fin I11 nx
  exact codeAny_compStart_list loop (T.self X.A 0 _ _ _ st4 loop)
/-- as a value -/
theorem pe_lcX {elt tg iter : Expr} {ifs : List Expr} {scope : Scope} {own : List (Str × Nat)} {pos : Pos} {wi : TI} {g : TG} {tt : L2.St → TT} {te : L2.St → TE} (tk : TakesR X W) (fr : Fr1 X) (hc : X.calm = true) (hN : X.N.Nodup) (hi : PI X tg iter wi) (ok : BlkOk X.N X.env.scope scope own)
    (hg : ∀ (σ : L2.St) (s : Shared) (H : Hp) (C : Addr) (cl : List (Str × Addr)) (fp : List Addr), TakesR (blkX X s H scope (compEnvC scope cl C X.env) fp) (Wb W σ) → PG (blkX X s H scope (compEnvC scope cl C X.env) fp) tg g)
    (ht : ∀ (σ : L2.St) (s : Shared) (H : Hp) (C : Addr) (cl : List (Str × Addr)) (fp : List Addr), TakesR (blkX X s H scope (compEnvC scope cl C X.env) fp) (Wb W σ) → PTs (blkX X s H scope (compEnvC scope cl C X.env) fp) ifs (tt σ))
    (he : ∀ (σ : L2.St) (s : Shared) (H : Hp) (C : Addr) (cl : List (Str × Addr)) (fp : List Addr), TakesR (blkX X s H scope (compEnvC scope cl C X.env) fp) (Wb W σ) → PE (blkX X s H scope (compEnvC scope cl C X.env) fp) elt (te σ)) (hs : ∀ x, foldedSetIterable iter X.env x = pure x := by intro _; rfl) :
    PE X (.ListComp elt [⟨tg, iter, ifs, 0⟩] scope pos) (fun σ H Q => tLc wi g (tt σ) (te σ) (own.map (·.2)) σ H Q) := by
  refine ⟨fun pins s σ H Q I h => ?_⟩
  rw [eval_ListComp]
  refine lc_coreX tk fr hc hN I hi ok (hg σ) (ht σ) (he σ) hs h fun D cl C s' m H' I' q hn f => ⟨m, hn, fun h'' sb => ?_⟩
  obtain ⟨f0, f1, f2, f3, f4, f5⟩ := f
  exact ⟨.ref D, H', I'.turned (t' := s'.toks) (fun b o hb e => (sb.2 b hb).trans e) f0 f1 f3 f4 f5, rfl, q⟩
/-- name = [..] on one line, the name a local -/
theorem ps_setLcX {i : Nat} {y : Str} {py : Pos} {elt tg iter : Expr} {ifs : List Expr} {scope : Scope} {own : List (Str × Nat)} {pos spos : Pos} {wi : TI} {g : TG} {tt : L2.St → TT} {te : L2.St → TE} (tk : TakesR X W) (fr : Fr1 X) (hc : X.calm = true) (hN : X.N.Nodup) (hy : X.N[i]? = some y) (hyl : X.env.scope.names.lookup y = some .local)
    (hsw : swapsWith (.ListComp elt [⟨tg, iter, ifs, 0⟩] scope pos) (some (.Name y py)) spos.line X.env = pure true) (hi : PI X tg iter wi) (ok : BlkOk X.N X.env.scope scope own)
    (hg : ∀ (σ : L2.St) (s : Shared) (H : Hp) (C : Addr) (cl : List (Str × Addr)) (fp : List Addr), TakesR (blkX X s H scope (compEnvC scope cl C X.env) fp) (Wb W σ) → PG (blkX X s H scope (compEnvC scope cl C X.env) fp) tg g)
    (ht : ∀ (σ : L2.St) (s : Shared) (H : Hp) (C : Addr) (cl : List (Str × Addr)) (fp : List Addr), TakesR (blkX X s H scope (compEnvC scope cl C X.env) fp) (Wb W σ) → PTs (blkX X s H scope (compEnvC scope cl C X.env) fp) ifs (tt σ))
    (he : ∀ (σ : L2.St) (s : Shared) (H : Hp) (C : Addr) (cl : List (Str × Addr)) (fp : List Addr), TakesR (blkX X s H scope (compEnvC scope cl C X.env) fp) (Wb W σ) → PE (blkX X s H scope (compEnvC scope cl C X.env) fp) elt (te σ)) (hs : ∀ x, foldedSetIterable iter X.env x = pure x := by intro _; rfl) :
    PS X (.Assign [.Name y py] (.ListComp elt [⟨tg, iter, ifs, 0⟩] scope pos) spos) (tAsg (fun σ H Q => tLc wi g (tt σ) (te σ) (own.map (·.2)) σ H Q) (gName i)) := by
  refine ⟨fun pins s σ H D I h => ?_⟩
  rw [exec_Assign_Name_used _ _ _ _ hsw]
  refine wpAny_bind (wpAny_standAt (wpAny_bind ?_))
  show wpAny _ X.A (do let _ ← comprehension (.ListComp elt [⟨tg, iter, ifs, 0⟩] scope pos) scope X.env (firstIterPos [⟨tg, iter, ifs, 0⟩] pos) (newList []) false (eval iter X.env) (some (assign (.Name y py) X.env))) _ _ s
  have h : tLc wi g (tt σ) (te σ) (own.map (·.2)) σ H (fun x H1 => gName i x σ H1 D.nx) := h
  refine wpAny_bind (thn (lc_coreX (Qf := fun _ s' => SP X pins D .next s') tk fr hc hN I hi ok (hg σ) (ht σ) (he σ) hs h fun L cl C s' m H' I' q hn f => ?_) fun _ s' hq => wpAny_pure (wpAny_pure hq))
  show wpAny _ _ (assign (.Name y py) X.env (.ref L)) _ _ _
  refine wpAny_assign_Name (store_ok2 (v := V.ref L) I' hN hy (.inl hyl) rfl (fun s2 I2 ⟨a, sb, ha⟩ => ?_) (.inr hyl))
  obtain ⟨f0, f1, f2, f3, f4, f5⟩ := f
  have haC : C ≠ a := by
    rcases ha with z | z
    · rw [z]; exact f1
    · exact fun e => f4 y a z e.symm
  refine ⟨m, hn.sameBut sb haC, fun h3 sb3 => ?_⟩
  exact ⟨_, H', I2.turned (t' := s2.toks) (fun b o hb e => (sb3.2 b hb).trans e) f0 f1 f3 f4 f5, q⟩
end
end RH
set_option maxRecDepth 100000
set_option maxHeartbeats 4000000
/-! What a def promises by its meaning; the context in which expressions are shown. -/
namespace RH
open PySem PySem.Spec L2

/-- the arguments: what they are, things that may be changed each by itself -/
structure Args (K : KW) (F : Addr → Prop) (H : Hp) (vs : List V) (svs : List SV) : Prop where
  len : vs.length = svs.length
  at_ : ∀ (i : Nat) (v : V) (sv : SV), vs[i]? = some v → svs[i]? = some sv → SR K F H v sv
  ap : ∀ (i j : Nat) (a : Addr) (sv sw : SV), vs[i]? = some (.ref a) → vs[j]? = some (.ref a) → svs[i]? = some sv → svs[j]? = some sw → sv.md ≠ .frz → sw.md ≠ .frz → i = j
def ArgA (vs : List V) (svs : List SV) (a : Addr) : Prop := ∃ (i : Nat) (d : D), vs[i]? = some (.ref a) ∧ svs[i]? = some (ow d)
/-- what the changed arguments hold behind the call -/
def Outs (K : KW) (F : Addr → Prop) (H : Hp) (vs : List V) (svs : List SV) (outs : EnvD) : Prop :=
  ∀ (i : Nat) (v : V) (d : D), vs[i]? = some v → svs[i]? = some (ow d) → ∃ sv, slotAt outs i = some sv ∧ sv.md ≠ .lck ∧ SR K F H v sv
def spF (K : KW) (mg : Str → Option Value) (np : Nat) (cf : List SV → RF) : Sp := fun vs H Q E => vs.length = np ∧ ∃ F svs, (∀ a, F a → H a ≠ none) ∧ Args K F H vs svs ∧ (match cf svs with
  | .ok sv outs => ∀ F' H' v, Le (ArgA vs svs) F H F' H' → Outs K F' H' vs svs outs → Res K H F' H' v sv → Q v H'
  | .exc c outs => ∀ F' H' Ca, Le (ArgA vs svs) F H F' H' → Outs K F' H' vs svs outs → mg c = some (.ref Ca) → E (.ref Ca) none H'
  | .bad => False)

/-- how a def's parameters are bound: all by place, or the last one by its name, or left to its default -/
def BindsF (K : PySem.W.Frag) (fdd : FuncData) (ps : List Str) (f : Str) : Prop := match kwOf f with
  | none => Binds K fdd ps []
  | some kd => (∃ v ds, Vals [v] ds ∧ (∀ w F H, Rp ⟨K, w⟩ F H v kd.2) ∧ Binds K fdd ps ds) ∧ KBn K fdd ps 2 [kd.1] (fun us ws => us ++ ws) (fun vs zs => vs ++ zs)
/-- the program's defs, called to the depth n -/
structure Tb (P : Program) (w : World) (K : KW) (mg : Str → Option Value) (base : Heap) (C : Str → Option D) (Γ : Str → Option FD) (n : Nat) : Prop where
  fn : ∀ f fd, Γ f = some fd → ∃ a fdd ps, mg f = some (.ref a) ∧ PySem.W.keepIn K (.ref a) = true ∧ BindsF K fdd ps f ∧ FnOk P w K mg base (L2.CX P w) n a fdd ps (spF K mg fd.np (callF C Γ n f))
  con : ∀ x d, C x = some d → ∃ v u, mg x = some u ∧ RelV v u ∧ ∀ F H, Rp K F H v d
  blt : ∀ x ∈ blts, mg x = none
structure XC (X : Cx) (W : WX) (c : CC) (C : Str → Option D) (Γ : Str → Option FD) (n : Nat) : Prop where
  N : X.N = c.N
  nd : c.N.Nodup
  sc : X.env.scope = c.sc
  kind : X.env.scope.kind = .function
  calm : X.calm = true
  tk : TakesR X W
  fr : Fr1 X
  room : Room n X.A
  tab : Tb X.prog X.w X.kw X.mg X.base C Γ n
  fs : ∀ f ∈ c.fs, (Γ f).isSome = true
section
variable {X : Cx} {W : WX} {c : CC} {C : Str → Option D} {Γ : Str → Option FD} {n : Nat} {F : Addr → Prop} {H : Hp} {σd : EnvD} {σ : L2.St}
theorem isSlot_vis (x : XC X W c C Γ n) {i : Nat} {y : Str} (h : isSlot c i y = true) : X.N[i]? = some y ∧ Vis X.env.scope y ∧ (y == ("__debug__" : Str)) = false ∧ (y == ("__classdict__" : Str)) = false := by
  unfold isSlot at h
  simp only [Bool.and_eq_true, decide_eq_true_eq, Bool.not_eq_true'] at h
  obtain ⟨⟨⟨h1, h2⟩, h3⟩, h4⟩ := h
  refine ⟨by rw [x.N]; exact h1, ?_, h3, h4⟩
  rw [x.sc]
  split at h2
  · rename_i e; exact .inl e
  · rename_i e; exact .inr (.inl e)
  · rename_i e; exact .inr (.inr e)
  · cases h2
theorem isGl_gl (x : XC X W c C Γ n) {y : Str} (h : isGl c y = true) : Gl X y ∧ (y == ("__debug__" : Str)) = false := by
  unfold isGl at h
  simp only [Bool.and_eq_true, decide_eq_true_eq, Bool.not_eq_true'] at h
  refine ⟨?_, h.2⟩
  show X.env.scope.names.lookup y = _
  rw [x.sc]
  exact h.1

/-! ### names -/
theorem rdV_post (er : ER X.kw F H σd σ) {i : Nat} {Q : VK} (h : PostE X W F H σd σ (rdV i σd) Q) : ∃ v, σ[i]? = some (some v) ∧ Q v H := by
  unfold rdV at h
  cases hs : slotAt σd i with
  | none => rw [hs] at h; exact h.elim
  | some sv =>
    obtain ⟨v, q, s⟩ := er.at_ i sv hs
    refine ⟨v, q, ?_⟩
    rw [hs] at h
    obtain ⟨m, d⟩ := sv
    cases m with
    | frz => exact h F H v (Nx.refl er) s
    | lck => exact h.elim
    | own =>
      obtain ⟨a, rfl, nf, ct⟩ := s
      obtain ⟨o, z1, _, _⟩ := ct.ex
      have hB : OwnA σd σ a := ⟨i, d, hs, q⟩
      have hi : i < σd.length := by
        rw [slotAt_some] at hs
        exact (List.getElem?_eq_some_iff.mp hs).1
      have l : Le (OwnA σd σ) F H (fun b => F b ∨ b = a) H := Le.freeze hB (by rw [z1]; exact fun z => nomatch z)
      have pr : ∀ b, F b → (fun b => F b ∨ b = a) b := fun b z => .inl z
      have ot : ∀ (j : Nat) (sw : SV) (w : V), i ≠ j → slotAt σd j = some sw → σ[j]? = some (some w) → SR X.kw F H w sw → SR X.kw (fun b => F b ∨ b = a) H w sw := fun j sw w hij hj hw s' => by
        by_cases hm : sw.md = .frz
        · obtain ⟨m, d'⟩ := sw
          cases hm
          exact Rp.mono ⟨pr, fun _ _ _ z => z, fun _ _ z => z⟩ _ _ s'
        · rw [SR.own hm] at s' ⊢
          obtain ⟨b, rfl, nb, cb⟩ := s'
          refine ⟨b, rfl, fun z => ?_, cb.mono ⟨pr, fun _ _ _ z => z, fun _ _ z => z⟩ fun _ z => z⟩
          rcases z with z | z
          · exact nb z
          · subst z
            exact hij (er.ap i j _ _ _ hs hj (by intro z; cases z) hm q hw)
      have sl : ∀ (j : Nat) (sw : SV), slotAt (σd.set i (some (fz d))) j = some sw → (i = j ∧ sw = fz d) ∨ (i ≠ j ∧ slotAt σd j = some sw) := fun j sw hj => by
        rw [slotAt_set] at hj
        by_cases e : i = j
        · rw [if_pos e, if_pos hi] at hj
          exact .inl ⟨e, (Option.some.inj hj).symm⟩
        · rw [if_neg e] at hj
          exact .inr ⟨e, hj⟩
      have er' : ER X.kw (fun b => F b ∨ b = a) H (σd.set i (some (fz d))) σ := by
        refine ⟨by rw [List.length_set]; exact er.len, fun j sw hj => ?_, fun j k sw sx b hj hk mj mk ej ek => ?_, fun b z => ?_⟩
        · rcases sl j sw hj with ⟨rfl, rfl⟩ | ⟨e, hj⟩
          · exact ⟨_, q, ct.rp pr (.inr rfl)⟩
          · obtain ⟨w, qw, sw'⟩ := er.at_ j sw hj
            exact ⟨w, qw, ot j sw w e hj qw sw'⟩
        · rcases sl j sw hj with ⟨rfl, rfl⟩ | ⟨e, hj⟩
          · exact absurd rfl mj
          · rcases sl k sx hk with ⟨rfl, rfl⟩ | ⟨e', hk⟩
            · exact absurd rfl mk
            · exact er.ap j k sw sx b hj hk mj mk ej ek
        · rcases z with z | z
          · exact er.fd b z
          · rw [z, z1]; exact fun z => nomatch z
      refine h _ H _ ⟨l, er', fun j d' hj => ?_, fun b ⟨j, sw, hj, mj, ej⟩ => ?_, fun j sw hj mj => ?_, fun j sw hj mj => ?_⟩ (ct.rp pr (.inr rfl))
      · rcases sl j _ hj with ⟨rfl, z⟩ | ⟨e, hj⟩
        · cases z
        · exact ⟨d', hj⟩
      · rcases sl j _ hj with ⟨rfl, z⟩ | ⟨e, hj⟩
        · subst z; exact absurd rfl mj
        · exact ⟨j, sw, hj, mj, ej⟩
      · rw [slotAt_set]
        by_cases e : i = j
        · subst e; rw [hs] at hj; cases hj; cases mj
        · rw [if_neg e]; exact hj
      · by_cases e : i = j
        · exact ⟨_, by rw [slotAt_set, if_pos e, if_pos hi], by intro z; cases z⟩
        · exact ⟨sw, by rw [slotAt_set, if_neg e]; exact hj, mj⟩
theorem rdO_post (er : ER X.kw F H σd σ) {i : Nat} {Q : VK} (h : PostO X W F H σd σ (rdO i σd) Q) : ∃ v, σ[i]? = some (some v) ∧ Q v H := by
  unfold rdO at h
  cases hs : slotAt σd i with
  | none => rw [hs] at h; exact h.elim
  | some sv =>
    obtain ⟨v, q, s⟩ := er.at_ i sv hs
    refine ⟨v, q, ?_⟩
    rw [hs] at h
    obtain ⟨m, d⟩ := sv
    cases m with
    | frz => exact h F H v (Nx.refl er) s
    | lck => exact h F H v (Nx.refl er) q
    | own => exact h F H v (Nx.refl er) q
theorem pe_rdV (x : XC X W c C Γ n) {i : Nat} {e : Str} {p : Pos} (h : isSlot c i e = true) : PE X (.Name e p) (tE X W (rdV i)) := by
  obtain ⟨h1, h2, h3, h4⟩ := isSlot_vis x h
  refine ⟨fun pins s σ H Q I q => ?_⟩
  obtain ⟨F, σd, er, po⟩ := q
  obtain ⟨v, e1, e2⟩ := rdV_post er po
  exact (pe_var h1 h2 h3 h4).run pins s σ H Q I ⟨v, e1, e2⟩
theorem pe_rdO (x : XC X W c C Γ n) {i : Nat} {e : Str} {p : Pos} (h : isSlot c i e = true) : PE X (.Name e p) (tO X W (rdO i)) := by
  obtain ⟨h1, h2, h3, h4⟩ := isSlot_vis x h
  refine ⟨fun pins s σ H Q I q => ?_⟩
  obtain ⟨F, σd, er, po⟩ := q
  obtain ⟨v, e1, e2⟩ := rdO_post er po
  exact (pe_var h1 h2 h3 h4).run pins s σ H Q I ⟨v, e1, e2⟩
end
end RH
set_option maxRecDepth 100000
set_option maxHeartbeats 4000000
/-! Operands and values in a row. -/
namespace RH
open PySem PySem.Spec L2

section
variable {X : Cx} {W : WX} {F F1 : Addr → Prop} {H H1 : Hp} {σd σd1 : EnvD} {σ : L2.St} {C : Str → Option D} {cf : Str → List SV → RF}
/-- a result is frozen -/
theorem Nx.fr {v : V} {sv : SV} (er : ER X.kw F H σd σ) (n : Nx X.kw F H σd σ F1 H1 σd1) (r : Res X.kw H F1 H1 v sv) : ∃ F2, Nx X.kw F H σd σ F2 H1 σd1 ∧ Rp X.kw F2 H1 v sv.d ∧ ∀ a, F1 a → F2 a := by
  obtain ⟨F2, rp, up, dn⟩ := r.rp n.er.fd
  have pr : Pr F1 H1 F2 H1 := ⟨up, fun _ _ _ z => z, fun _ _ z => z⟩
  refine ⟨F2, ⟨⟨fun a z => up a (n.le.fr a z), n.le.kp, n.le.kr, fun a e nb z => ?_, n.le.al, fun z a f => ?_⟩, ⟨n.er.len, fun i sw hi => ?_, n.er.ap, fun a f => ?_⟩, n.sub, n.suR, n.lk, n.st⟩, rp, up⟩
  · rcases dn a z with z | ⟨z, _⟩
    · exact n.le.nf a e nb z
    · exact absurd z e
  · rcases dn a f with f | ⟨_, _, f⟩
    · exact n.er.fd a f
    · exact f
  · obtain ⟨w, q, s⟩ := n.er.at_ i sw hi
    refine ⟨w, q, ?_⟩
    by_cases hm : sw.md = .frz
    · obtain ⟨m, d'⟩ := sw
      cases hm
      exact Rp.mono pr _ _ s
    · rw [SR.own hm] at s ⊢
      obtain ⟨b, rfl, nb, cb⟩ := s
      refine ⟨b, rfl, fun z => ?_, cb.mono pr fun _ z => z⟩
      rcases dn b z with z | ⟨z, _⟩
      · exact nb z
      · exact er.ref_there (n.suR b ⟨i, sw, hi, hm, q⟩) z
  · rcases dn a f with f | ⟨_, _, f⟩
    · exact n.er.fd a f
    · exact f

/-- an operand of the mini language -/
def evA1 (C : Str → Option D) (cf : Str → List SV → RF) (e : ME) (σ : EnvD) : R (Opd × EnvD) := match isVar e with
  | some i => rdO i σ
  | none => (evV C cf e σ).bind fun p => .ok (.val p.1, p.2)
theorem Opds.old {K : KW} {B : Addr → Prop} {F2 : Addr → Prop} {H2 : Hp} (l : Le B F H F1 H1) : ∀ {vs : List V} {os : List Opd}, Opds K H1 F2 H2 σd σ vs os → Opds K H F2 H2 σd σ vs os
  | _, _, .nil => .nil
  | _, _, .cons a b c => .cons (a.old l) (b.old l) c
theorem Opds.get {K : KW} : ∀ {vs : List V} {os : List Opd} {k : Nat} {v : V} {o : Opd}, Opds K H F1 H1 σd σ vs os → vs[k]? = some v → os[k]? = some o → OpV K H F1 H1 σd σ v o
  | _, _, k, _, _, .nil, e, _ => by simp at e
  | _, _, 0, _, _, .cons a b c, e, g => by simp at e g; subst e; subst g; exact a
  | _, _, k + 1, _, _, .cons a b c, e, g => b.get (k := k) (by simpa using e) (by simpa using g)
theorem tAs_nil {Q : List V → Hp → Prop} (h : tAs X W (evAs C cf .nil) σ H Q) : Q [] H := by
  obtain ⟨F, σd, er, h⟩ := h
  exact h F H [] (Nx.refl er) .nil
theorem tAs_cons {a : ME} {es : MEs} {Q : List V → Hp → Prop} (h : tAs X W (evAs C cf (.cons a es)) σ H Q) :
    tO X W (evA1 C cf a) σ H fun x H1 => tAs X W (evAs C cf es) σ H1 fun xs H2 => Q (x :: xs) H2 := by
  obtain ⟨F, σd, er, h⟩ := h
  refine ⟨F, σd, er, ?_⟩
  rw [evAs] at h
  change (match ((evA1 C cf a σd).bind fun p => (evAs C cf es p.2).bind fun q => R.ok (p.1 :: q.1, q.2)) with
    | .ok p => ∀ F' H' vs, Nx X.kw F H σd σ F' H' p.2 → Opds X.kw H F' H' p.2 σ vs p.1 → Q vs H'
    | .exc c σd' => ∀ F' H' Ca, Nx X.kw F H σd σ F' H' σd' → X.mg c = some (.ref Ca) → W (.ref Ca) none σ H'
    | .bad => False) at h
  cases e1 : evA1 C cf a σd with
  | bad => rw [e1] at h; exact h
  | exc c s => rw [e1] at h; exact h
  | ok p =>
    rw [e1, R.bind_ok] at h
    intro F1 H1 v n1 r1
    refine ⟨F1, p.2, n1.er, ?_⟩
    cases e2 : evAs C cf es p.2 with
    | bad => rw [e2] at h; exact h
    | exc c s =>
      rw [e2] at h
      exact fun F' H' Ca n2 g => h F' H' Ca (n1.trans n2) g
    | ok q =>
      rw [e2, R.bind_ok] at h
      intro F2 H2 vs n2 r2
      refine h F2 H2 (v :: vs) (n1.trans n2) (.cons (r1.keep (fun a z => er.own_there (n1.subA a z)) n2 n1.er) (r2.old n1.le) fun ht k w o' hk ho ht' e => ?_)
      have g := r2.get hk ho
      obtain ⟨o, _⟩ := p
      cases o with
      | slot i => cases ht
      | val sv =>
        cases o' with
        | slot i => cases ht'
        | val sw =>
          obtain ⟨m, d⟩ := sv
          obtain ⟨m', d'⟩ := sw
          cases m <;> first | cases ht | skip
          cases m' <;> first | cases ht' | skip
          obtain ⟨b, rfl, _, _, ct⟩ := r1
          obtain ⟨b', rfl, _, z, _⟩ := g
          cases e
          obtain ⟨ob, q1, _, _⟩ := ct.ex
          rw [q1] at z; cases z
theorem opAs {o : Op} {es : MEs} {Q : VK} (h : tE X W (evV C cf (.op o es)) σ H Q) : tAs X W (evAs C cf es) σ H fun vs H1 => rO X o vs H1 Q := by
  obtain ⟨F, σd, er, h⟩ := h
  refine ⟨F, σd, er, ?_⟩
  rw [evV] at h
  cases e1 : evAs C cf es σd with
  | bad => rw [e1] at h; exact h
  | exc c s => rw [e1] at h; exact h
  | ok p =>
    rw [e1, R.bind_ok] at h
    intro F1 H1 vs n1 r1
    cases e2 : getOs p.2 p.1 with
    | none => rw [e2] at h; exact h.elim
    | some svs =>
      rw [e2, ofOpt_some, R.bind_ok] at h
      cases e3 : opD o (svs.map (·.d)) with
      | none => rw [e3] at h; exact h.elim
      | some sv =>
        rw [e3, ofOpt_some, R.bind_ok] at h
        refine ⟨F1, svs.map (·.d), sv, n1.er.fd, r1.rts n1.er e2, e3, fun F' H' v l rs => ?_⟩
        refine h F' H' v ⟨n1.le.trans l fun a z => z.elim, n1.er.le0 l, n1.sub, n1.suR, n1.lk, n1.st⟩ (Res.old rs n1.le)

/-- values that are kept -/
theorem tVs_nil {Q : List V → Hp → Prop} (h : tVs X W (evVs C cf .nil) σ H Q) : Q [] H := by
  obtain ⟨F, σd, er, h⟩ := h
  exact h F H [] (Nx.refl er) .nil
theorem tVs_cons {a : ME} {es : MEs} {Q : List V → Hp → Prop} (h : tVs X W (evVs C cf (.cons a es)) σ H Q) :
    tE X W (evV C cf a) σ H fun x H1 => tVs X W (evVs C cf es) σ H1 fun xs H2 => Q (x :: xs) H2 := by
  obtain ⟨F, σd, er, h⟩ := h
  refine ⟨F, σd, er, ?_⟩
  rw [evVs] at h
  cases e1 : evV C cf a σd with
  | bad => rw [e1] at h; exact h
  | exc c s => rw [e1] at h; exact h
  | ok p =>
    rw [e1, R.bind_ok] at h
    intro F1 H1 v n1 r1
    obtain ⟨F1', n1', rp, _⟩ := n1.fr er r1
    refine ⟨F1', p.2, n1'.er, ?_⟩
    cases e2 : evVs C cf es p.2 with
    | bad => rw [e2] at h; exact h
    | exc c s =>
      rw [e2] at h
      exact fun F' H' Ca n2 g => h F' H' Ca (n1'.trans n2) g
    | ok q =>
      rw [e2, R.bind_ok] at h
      intro F2 H2 vs n2 r2
      exact h F2 H2 (v :: vs) (n1'.trans n2) (.cons (Rp.mono (n2.le.pr n1'.er.bk) _ _ rp) r2)
end
end RH
set_option maxRecDepth 100000
set_option maxHeartbeats 4000000
/-! A call of a def: what is handed over, what comes back. -/
namespace RH
open PySem PySem.Spec L2
section
variable {K : KW} {F F1 F' : Addr → Prop} {H H1 H' : Hp} {σd σd1 : EnvD} {σ : L2.St}
theorem getOs_get : ∀ {os : List Opd} {svs : List SV} {k : Nat} {sv : SV}, getOs σd os = some svs → svs[k]? = some sv → ∃ o, os[k]? = some o ∧ getO σd o = some sv
  | [], svs, k, sv, g, e => by cases g; simp at e
  | o :: os, svs, k, sv, g, e => by
    rw [getOs] at g
    obtain ⟨x, h1, h2⟩ := Option.bind_eq_some_iff.mp g
    obtain ⟨xs, h3, h4⟩ := Option.map_eq_some_iff.mp h2
    subst h4
    cases k with
    | zero => simp at e; subst e; exact ⟨o, rfl, h1⟩
    | succ k => simpa using getOs_get (k := k) h3 (by simpa using e)
theorem getOs_len : ∀ {os : List Opd} {svs : List SV}, getOs σd os = some svs → svs.length = os.length
  | [], svs, g => by cases g; rfl
  | o :: os, svs, g => by
    rw [getOs] at g
    obtain ⟨x, h1, h2⟩ := Option.bind_eq_some_iff.mp g
    obtain ⟨xs, h3, h4⟩ := Option.map_eq_some_iff.mp h2
    subst h4
    exact congrArg (· + 1) (getOs_len h3)
theorem Opds.len : ∀ {vs : List V} {os : List Opd}, Opds K H F1 H1 σd σ vs os → vs.length = os.length
  | _, _, .nil => rfl
  | _, _, .cons _ b _ => congrArg (· + 1) b.len
theorem Opds.tmp {vs : List V} {os : List Opd} (r : Opds K H F1 H1 σd σ vs os) : ∀ {i j : Nat} {v w : V} {o o' : Opd}, i < j → vs[i]? = some v → vs[j]? = some w → os[i]? = some o → os[j]? = some o' → isTmp o = true → isTmp o' = true → w ≠ v := by
  induction r with
  | nil => intro i j v w o o' _ e; simp at e
  | cons a b d ih =>
    intro i j v w o o' h e1 e2 e3 e4 t1 t2
    cases j with
    | zero => exact absurd h (Nat.not_lt_zero _)
    | succ j =>
      cases i with
      | zero =>
        simp at e1 e3
        subst e1; subst e3
        exact d t1 j w o' (by simpa using e2) (by simpa using e4) t2
      | succ i => exact ih (Nat.lt_of_succ_lt_succ h) (by simpa using e1) (by simpa using e2) (by simpa using e3) (by simpa using e4) t1 t2
theorem ownSlots_mem : ∀ {os : List Opd} {j i : Nat} {sv : SV}, os[j]? = some (.slot i) → slotAt σd i = some sv → sv.md ≠ .frz → i ∈ ownSlots σd os
  | [], j, i, sv, e, _, _ => by simp at e
  | o :: os, 0, i, sv, e, h, m => by
    simp at e; subst e
    rw [ownSlots, h]
    obtain ⟨md, d⟩ := sv
    cases md with
    | frz => exact absurd rfl m
    | own => exact List.mem_append_left _ (List.mem_singleton.mpr rfl)
    | lck => exact List.mem_append_left _ (List.mem_singleton.mpr rfl)
  | o :: os, j + 1, i, sv, e, h, m => by
    have q : i ∈ ownSlots σd os := ownSlots_mem (os := os) (j := j) (by simpa using e) h m
    cases o with
    | val s => exact q
    | slot k => rw [ownSlots]; exact List.mem_append_right _ q
theorem ownSlots_inj (os : List Opd) : ∀ {i j k : Nat} {sv : SV}, (ownSlots σd os).Nodup → i < j → os[i]? = some (.slot k) → os[j]? = some (.slot k) → slotAt σd k = some sv → sv.md = .frz := by
  induction os with
  | nil => intro i j k sv _ _ e; simp at e
  | cons o os ih =>
    intro i j k sv nd hl e1 e2 h
    cases j with
    | zero => exact absurd hl (Nat.not_lt_zero _)
    | succ j =>
      cases i with
      | zero =>
        refine Classical.byContradiction fun m => ?_
        simp at e1; subst e1
        have q : k ∈ ownSlots σd os := ownSlots_mem (os := os) (j := j) (by simpa using e2) h m
        rw [ownSlots, h] at nd
        obtain ⟨md, d⟩ := sv
        cases md with
        | frz => exact m rfl
        | own => exact (List.nodup_append.mp nd).2.2 k (List.mem_singleton.mpr rfl) k q rfl
        | lck => exact (List.nodup_append.mp nd).2.2 k (List.mem_singleton.mpr rfl) k q rfl
      | succ i =>
        have nd' : (ownSlots σd os).Nodup := by
          cases o with
          | val s => exact nd
          | slot k => rw [ownSlots] at nd; exact (List.nodup_append.mp nd).2.1
        exact ih nd' (Nat.lt_of_succ_lt_succ hl) (by simpa using e1) (by simpa using e2) h
/-- the operands as arguments -/
theorem Opds.args {vs : List V} {os : List Opd} {svs : List SV} (r : Opds K H F1 H1 σd1 σ vs os) (er : ER K F1 H1 σd1 σ) (g : getOs σd1 os = some svs) (nd : (ownSlots σd1 os).Nodup)
    (there : ∀ a, RefA σd1 σ a → H a ≠ none) : Args K F1 H1 vs svs := by
  have one : ∀ (i : Nat) (a : Addr) (sv : SV), vs[i]? = some (.ref a) → svs[i]? = some sv → sv.md ≠ .frz → (∃ o, os[i]? = some o ∧ isTmp o = true ∧ H a = none) ∨ ∃ k, os[i]? = some (.slot k) ∧ slotAt σd1 k = some sv ∧ σ[k]? = some (some (.ref a)) := fun i a sv h1 h2 h3 => by
    obtain ⟨o, e1, e2⟩ := getOs_get g h2
    have ov := r.get h1 e1
    cases o with
    | slot k => exact .inr ⟨k, e1, e2, ov⟩
    | val s =>
      cases e2
      obtain ⟨m, d⟩ := sv
      cases m with
      | frz => exact absurd rfl h3
      | lck => exact ov.elim
      | own =>
        obtain ⟨b, q, _, z, _⟩ := ov
        cases q
        exact .inl ⟨_, e1, rfl, z⟩
  refine ⟨by rw [r.len, getOs_len g], fun i v sv h1 h2 => ?_, fun i j a sv sw h1 h2 h3 h4 m1 m2 => ?_⟩
  · obtain ⟨o, e1, e2⟩ := getOs_get g h2
    have ov := r.get h1 e1
    cases o with
    | slot k =>
      obtain ⟨w, q, s⟩ := er.at_ k sv e2
      have ov : σ[k]? = some (some v) := ov
      rw [ov] at q; cases q
      exact s
    | val s =>
      cases e2
      obtain ⟨m, d⟩ := sv
      cases m with
      | frz => exact ov
      | lck => exact ov.elim
      | own => obtain ⟨b, q, nf, _, ct⟩ := ov; exact ⟨b, q, nf, ct⟩
  · have sym : ∀ (i j : Nat) (sv sw : SV), i < j → vs[i]? = some (.ref a) → vs[j]? = some (.ref a) → svs[i]? = some sv → svs[j]? = some sw → sv.md ≠ .frz → sw.md ≠ .frz → False := fun i j sv sw hl h1 h2 h3 h4 m1 m2 => by
      rcases one i a sv h1 h3 m1 with ⟨o, e1, t1, z1⟩ | ⟨k, e1, s1, q1⟩
      · rcases one j a sw h2 h4 m2 with ⟨o', e2, t2, z2⟩ | ⟨k', e2, s2, q2⟩
        · exact r.tmp hl h1 h2 e1 e2 t1 t2 rfl
        · exact there a ⟨k', sw, s2, m2, q2⟩ z1
      · rcases one j a sw h2 h4 m2 with ⟨o', e2, t2, z2⟩ | ⟨k', e2, s2, q2⟩
        · exact there a ⟨k, sv, s1, m1, q1⟩ z2
        · have e := er.ap k k' sv sw a s1 s2 m1 m2 q1 q2
          subst e
          exact m1 (ownSlots_inj os nd hl e1 e2 s1)
    rcases Nat.lt_trichotomy i j with h | h | h
    · exact (sym i j sv sw h h1 h2 h3 h4 m1 m2).elim
    · exact h
    · exact (sym j i sw sv h h2 h1 h4 h3 m2 m1).elim

theorem setOwn_no {i : Nat} {o : Option SV} (h : ¬ ∃ d, slotAt σd i = some (ow d)) : setOwn σd i o = σd := by
  unfold setOwn
  split
  · rename_i d e; exact absurd ⟨d, e⟩ h
  · rfl
theorem setOwn_yes {i : Nat} {o : Option SV} {d : D} (h : slotAt σd i = some (ow d)) : setOwn σd i o = σd.set i o := by
  unfold setOwn
  rw [h]
theorem setOwn_len {i : Nat} {o : Option SV} : (setOwn σd i o).length = σd.length := by
  unfold setOwn
  split
  · rw [List.length_set]
  · rfl
theorem putOuts_len : ∀ (os : List Opd) (outs : EnvD) (σd : EnvD), (putOuts σd os outs).length = σd.length
  | [], _, _ => by simp [putOuts]
  | .val _ :: os, [], _ => by simp [putOuts]
  | .slot _ :: os, [], _ => by simp [putOuts]
  | .val _ :: os, _ :: outs, σd => by rw [putOuts]; exact putOuts_len os outs σd
  | .slot i :: os, o :: outs, σd => by
    rw [putOuts, putOuts_len, setOwn_len]
/-- a slot behind the call: one that was handed over holds what came back, another one what it held -/
theorem putOuts_at : ∀ (os : List Opd) (outs : EnvD) (σd : EnvD) (j : Nat) (sw : SV), (ownSlots σd os).Nodup → (∀ (k i : Nat) (d : D), os[k]? = some (Opd.slot i) → slotAt σd i = some (ow d) → k < outs.length) → slotAt (putOuts σd os outs) j = some sw →
    (∃ (k : Nat) (d : D), os[k]? = some (Opd.slot j) ∧ slotAt σd j = some (ow d) ∧ slotAt outs k = some sw) ∨ (slotAt σd j = some sw ∧ ∀ (k : Nat) (d : D), os[k]? = some (Opd.slot j) → slotAt σd j ≠ some (ow d))
  | [], outs, σd, j, sw, _, _, h => by
    rw [putOuts] at h
    · exact .inr ⟨h, fun k d e => by simp at e⟩
    · intro _ _ _ _ z; cases z
    · intro _ _ _ _ z; cases z
  | .val s :: os, [], σd, j, sw, nd, hl, h => by
    rw [putOuts] at h
    · refine .inr ⟨h, fun k d e z => ?_⟩
      exact absurd (hl k j d e z) (Nat.not_lt_zero _)
    · intro _ _ _ _ _ z; cases z
    · intro _ _ _ _ _ z; cases z
  | .slot s :: os, [], σd, j, sw, nd, hl, h => by
    rw [putOuts] at h
    · refine .inr ⟨h, fun k d e z => ?_⟩
      exact absurd (hl k j d e z) (Nat.not_lt_zero _)
    · intro _ _ _ _ _ z; cases z
    · intro _ _ _ _ _ z; cases z
  | .val s :: os, o :: outs, σd, j, sw, nd, hl, h => by
    rw [putOuts] at h
    rcases putOuts_at os outs σd j sw nd (fun k i d e z => Nat.lt_of_succ_lt_succ (hl (k + 1) i d (by simpa using e) z)) h with ⟨k, d, h1, h2, h3⟩ | ⟨h1, h2⟩
    · exact .inl ⟨k + 1, d, by simpa using h1, h2, by simpa [slotAt] using h3⟩
    · refine .inr ⟨h1, fun k d e => ?_⟩
      cases k with
      | zero => simp at e
      | succ k => exact h2 k d (by simpa using e)
  | .slot i :: os, o :: outs, σd, j, sw, nd, hl, h => by
    rw [putOuts] at h
    have nd' : (ownSlots σd os).Nodup := by rw [ownSlots] at nd; exact (List.nodup_append.mp nd).2.1
    by_cases hi : ∃ d, slotAt σd i = some (ow d)
    · obtain ⟨d, hi⟩ := hi
      rw [setOwn_yes hi] at h
      have hlen : i < σd.length := by
        rw [slotAt_some] at hi
        exact (List.getElem?_eq_some_iff.mp hi).1
      have ni : i ∉ ownSlots σd os := fun z => by
        rw [ownSlots, hi] at nd
        exact (List.nodup_append.mp nd).2.2 i (List.mem_singleton.mpr rfl) i z rfl
      have sa : ∀ k, k ≠ i → slotAt (σd.set i o) k = slotAt σd k := fun k hk => by rw [slotAt_set, if_neg (Ne.symm hk)]
      have own' : ownSlots (σd.set i o) os = ownSlots σd os ∨ True := .inr trivial
      have noslot : ∀ (k : Nat) (sv : SV), os[k]? = some (Opd.slot i) → slotAt σd i = some sv → sv.md = .frz := fun k sv e z => Classical.byContradiction fun m => ni (ownSlots_mem e z m)
      have no : ∀ k : Nat, os[k]? ≠ some (Opd.slot i) := fun k e => by
        have := noslot k _ e hi
        cases this
      have same : ownSlots (σd.set i o) os = ownSlots σd os := by
        have : ∀ (l : List Opd), (∀ k : Nat, l[k]? ≠ some (Opd.slot i)) → ownSlots (σd.set i o) l = ownSlots σd l := by
          intro l
          induction l with
          | nil => intro _; rfl
          | cons a l ih =>
            intro hn
            have ih := ih fun k => by simpa using hn (k + 1)
            cases a with
            | val s => exact ih
            | slot k =>
              have hk : k ≠ i := fun z => hn 0 (by simp [z])
              rw [ownSlots, ownSlots, ih, sa k hk]
        exact this os no
      rcases putOuts_at os outs (σd.set i o) j sw (by rw [same]; exact nd') (fun k i' d' e z => by
          have hk : i' ≠ i := fun z => no k (by rw [e, z])
          rw [sa i' hk] at z
          exact Nat.lt_of_succ_lt_succ (hl (k + 1) i' d' (by simpa using e) z)) h with ⟨k, d', h1, h2, h3⟩ | ⟨h1, h2⟩
      · have hk : j ≠ i := fun z => no k (by rw [h1, z])
        rw [sa j hk] at h2
        exact .inl ⟨k + 1, d', by simpa using h1, h2, by simpa [slotAt] using h3⟩
      · by_cases hj : j = i
        · subst hj
          rw [slotAt_set, if_pos rfl, if_pos hlen] at h1
          exact .inl ⟨0, d, rfl, hi, by simp [slotAt, h1]⟩
        · rw [sa j hj] at h1
          refine .inr ⟨h1, fun k d' e z => ?_⟩
          cases k with
          | zero => simp at e; exact hj e.symm
          | succ k =>
            have := h2 k d' (by simpa using e)
            rw [sa j hj] at this
            exact this z
    · rw [setOwn_no hi] at h
      rcases putOuts_at os outs σd j sw nd' (fun k i d e z => Nat.lt_of_succ_lt_succ (hl (k + 1) i d (by simpa using e) z)) h with ⟨k, d, h1, h2, h3⟩ | ⟨h1, h2⟩
      · exact .inl ⟨k + 1, d, by simpa using h1, h2, by simpa [slotAt] using h3⟩
      · refine .inr ⟨h1, fun k d e z => ?_⟩
        cases k with
        | zero => simp at e; subst e; exact hi ⟨d, z⟩
        | succ k => exact h2 k d (by simpa using e) z

theorem Outs.len {vs : List V} {svs : List SV} {outs : EnvD} (o : Outs K F' H' vs svs outs) (hl : vs.length = svs.length) {k : Nat} {d : D} (h : svs[k]? = some (ow d)) : k < outs.length := by
  have hk : k < vs.length := by rw [hl]; exact (List.getElem?_eq_some_iff.mp h).1
  obtain ⟨sv, h1, _⟩ := o k _ d (List.getElem?_eq_getElem hk) h
  rw [slotAt_some] at h1
  exact (List.getElem?_eq_some_iff.mp h1).1
theorem putOuts_lck : ∀ (os : List Opd) (outs : EnvD) (σd : EnvD) (j : Nat) (sw : SV), slotAt σd j = some sw → sw.md = .lck → slotAt (putOuts σd os outs) j = some sw
  | [], outs, σd, j, sw, h, m => by rw [putOuts] <;> first | exact h | (intros; contradiction)
  | .val s :: os, [], σd, j, sw, h, m => by rw [putOuts] <;> first | exact h | (intros; contradiction)
  | .slot s :: os, [], σd, j, sw, h, m => by rw [putOuts] <;> first | exact h | (intros; contradiction)
  | .val s :: os, o :: outs, σd, j, sw, h, m => by
    rw [putOuts]
    exact putOuts_lck os outs σd j sw h m
  | .slot i :: os, o :: outs, σd, j, sw, h, m => by
    rw [putOuts]
    refine putOuts_lck os outs _ j sw ?_ m
    by_cases hi : ∃ d, slotAt σd i = some (ow d)
    · obtain ⟨d, hi⟩ := hi
      rw [setOwn_yes hi, slotAt_set]
      by_cases e : i = j
      · subst e; rw [hi] at h; cases h; cases m
      · rw [if_neg e]; exact h
    · rw [setOwn_no hi]; exact h
theorem putOuts_st : ∀ (os : List Opd) (outs : EnvD) (σd : EnvD) (j : Nat) (sw : SV), (ownSlots σd os).Nodup → (∀ (k i : Nat) (d : D), os[k]? = some (Opd.slot i) → slotAt σd i = some (ow d) → ∃ sv, slotAt outs k = some sv ∧ sv.md ≠ .lck) → slotAt σd j = some sw → sw.md ≠ .lck →
    ∃ sv, slotAt (putOuts σd os outs) j = some sv ∧ sv.md ≠ .lck
  | [], outs, σd, j, sw, _, _, h, m => ⟨sw, by rw [putOuts] <;> first | exact h | (intros; contradiction), m⟩
  | .val s :: os, [], σd, j, sw, _, _, h, m => ⟨sw, by rw [putOuts] <;> first | exact h | (intros; contradiction), m⟩
  | .slot s :: os, [], σd, j, sw, _, _, h, m => ⟨sw, by rw [putOuts] <;> first | exact h | (intros; contradiction), m⟩
  | .val s :: os, o :: outs, σd, j, sw, nd, ho, h, m => by
    rw [putOuts]
    exact putOuts_st os outs σd j sw nd (fun k i d e z => by simpa [slotAt] using ho (k + 1) i d (by simpa using e) z) h m
  | .slot i :: os, o :: outs, σd, j, sw, nd, ho, h, m => by
    rw [putOuts]
    have nd' : (ownSlots σd os).Nodup := by rw [ownSlots] at nd; exact (List.nodup_append.mp nd).2.1
    by_cases hi : ∃ d, slotAt σd i = some (ow d)
    · obtain ⟨d, hi⟩ := hi
      rw [setOwn_yes hi]
      have hlen : i < σd.length := by
        rw [slotAt_some] at hi
        exact (List.getElem?_eq_some_iff.mp hi).1
      have ni : i ∉ ownSlots σd os := fun z => by
        rw [ownSlots, hi] at nd
        exact (List.nodup_append.mp nd).2.2 i (List.mem_singleton.mpr rfl) i z rfl
      have sa : ∀ k, k ≠ i → slotAt (σd.set i o) k = slotAt σd k := fun k hk => by rw [slotAt_set, if_neg (Ne.symm hk)]
      have no : ∀ k : Nat, os[k]? ≠ some (Opd.slot i) := fun k e => ni (ownSlots_mem e hi (by intro z; cases z))
      have same : ownSlots (σd.set i o) os = ownSlots σd os := by
        have : ∀ (l : List Opd), (∀ k : Nat, l[k]? ≠ some (Opd.slot i)) → ownSlots (σd.set i o) l = ownSlots σd l := by
          intro l
          induction l with
          | nil => intro _; rfl
          | cons a l ih =>
            intro hn
            have ih := ih fun k => by simpa using hn (k + 1)
            cases a with
            | val s => exact ih
            | slot k =>
              have hk : k ≠ i := fun z => hn 0 (by simp [z])
              rw [ownSlots, ownSlots, ih, sa k hk]
        exact this os no
      have q : ∃ sv, slotAt (σd.set i o) j = some sv ∧ sv.md ≠ .lck := by
        by_cases hj : j = i
        · subst hj
          obtain ⟨sv, q1, q2⟩ := ho 0 j d rfl hi
          exact ⟨sv, by rw [slotAt_set, if_pos rfl, if_pos hlen]; simpa [slotAt] using q1, q2⟩
        · exact ⟨sw, by rw [sa j hj]; exact h, m⟩
      obtain ⟨sv, q1, q2⟩ := q
      refine putOuts_st os outs _ j sv (by rw [same]; exact nd') (fun k i' d' e z => ?_) q1 q2
      have hk : i' ≠ i := fun z => no k (by rw [e, z])
      rw [sa i' hk] at z
      simpa [slotAt] using ho (k + 1) i' d' (by simpa using e) z
    · rw [setOwn_no hi]
      exact putOuts_st os outs σd j sw nd' (fun k i d e z => by simpa [slotAt] using ho (k + 1) i d (by simpa using e) z) h m
/-- behind the call -/
theorem Nx.call {vs : List V} {os : List Opd} {svs : List SV} {outs : EnvD} (er : ER K F H σd σ) (n : Nx K F H σd σ F1 H1 σd1) (r : Opds K H F1 H1 σd1 σ vs os) (g : getOs σd1 os = some svs) (nd : (ownSlots σd1 os).Nodup)
    (l : Le (ArgA vs svs) F1 H1 F' H') (o : Outs K F' H' vs svs outs) : Nx K F H σd σ F' H' (putOuts σd1 os outs) := by
  have there : ∀ a, RefA σd1 σ a → H a ≠ none := fun a z => er.ref_there (n.suR a z)
  have ag := r.args n.er g nd there
  have hlen : ∀ (k i : Nat) (d : D), os[k]? = some (Opd.slot i) → slotAt σd1 i = some (ow d) → svs[k]? = some (ow d) := fun k i d e z => by
    have hk : k < os.length := (List.getElem?_eq_some_iff.mp e).1
    have hs : k < svs.length := by rw [getOs_len g]; exact hk
    obtain ⟨o', e1, e2⟩ := getOs_get g (List.getElem?_eq_getElem hs)
    rw [e] at e1; cases e1
    have e2 : slotAt σd1 i = some svs[k] := e2
    rw [z] at e2
    rw [List.getElem?_eq_getElem hs, ← e2]
  have at_ : ∀ j sw, slotAt (putOuts σd1 os outs) j = some sw → (∃ (k : Nat) (d : D), os[k]? = some (Opd.slot j) ∧ slotAt σd1 j = some (ow d) ∧ slotAt outs k = some sw) ∨ (slotAt σd1 j = some sw ∧ ∀ (k : Nat) (d : D), os[k]? = some (Opd.slot j) → slotAt σd1 j ≠ some (ow d)) :=
    fun j sw h => putOuts_at os outs σd1 j sw nd (fun k i d e z => o.len ag.len (hlen k i d e z)) h
  have argA : ∀ a, ArgA vs svs a → (∃ (k i : Nat) (d : D), os[k]? = some (Opd.slot i) ∧ slotAt σd1 i = some (ow d) ∧ σ[i]? = some (some (.ref a))) ∨ H a = none := fun a ⟨k, d, h1, h2⟩ => by
    obtain ⟨o', e1, e2⟩ := getOs_get g h2
    have ov := r.get h1 e1
    cases o' with
    | slot i => exact .inl ⟨k, i, d, e1, e2, ov⟩
    | val s =>
      cases e2
      obtain ⟨b, q, _, z, _⟩ := ov
      cases q
      exact .inr z
  have bkA : Bk (ArgA vs svs) F1 H1 := by
    refine ⟨fun a ⟨k, d, h1, h2⟩ => ?_, fun a ⟨k, d, h1, h2⟩ => ?_⟩
    · obtain ⟨b, q, nf, _⟩ := ag.at_ k _ _ h1 h2
      cases q; exact nf
    · obtain ⟨b, q, _, ct⟩ := ag.at_ k _ _ h1 h2
      cases q
      obtain ⟨ob, z1, z2, _⟩ := ct.ex
      exact ⟨ob, z1, z2⟩
  have old : ∀ j sw, slotAt (putOuts σd1 os outs) j = some sw → sw.md ≠ .frz → ∃ sv, slotAt σd1 j = some sv ∧ sv.md ≠ .frz := fun j sw h m => by
    rcases at_ j sw h with ⟨k, d, _, h2, _⟩ | ⟨h1, _⟩
    · exact ⟨_, h2, by intro z; cases z⟩
    · exact ⟨sw, h1, m⟩
  refine ⟨n.le.trans l fun a z => ?_, ⟨by rw [putOuts_len]; exact n.er.len, fun j sw h => ?_, fun i j sv sw a hi hj mi mj ei ej => ?_, l.fd n.er.fd⟩, fun j d h1 => ?_, fun a ⟨j, sw, h1, h2, h3⟩ => ?_, fun j sw h1 h2 => putOuts_lck os outs σd1 j sw (n.lk j sw h1 h2) h2, fun j sw h1 h2 => ?_⟩
  · rcases argA a z with ⟨k, i, d, _, h2, h3⟩ | z
    · exact .inl (n.subA a ⟨i, d, h2, h3⟩)
    · exact .inr z
  · rcases at_ j sw h with ⟨k, d, h1, h2, h3⟩ | ⟨h1, h2⟩
    · have hs := hlen k j d h1 h2
      have hk : k < vs.length := by rw [ag.len]; exact (List.getElem?_eq_some_iff.mp hs).1
      obtain ⟨sv, q1, q2, q3⟩ := o k _ d (List.getElem?_eq_getElem hk) hs
      rw [h3] at q1; cases q1
      have ov : σ[j]? = some (some vs[k]) := r.get (List.getElem?_eq_getElem hk) h1
      exact ⟨_, ov, q3⟩
    · obtain ⟨v, q, s⟩ := n.er.at_ j sw h1
      refine ⟨v, q, s.le l bkA fun m a ea z => ?_⟩
      subst ea
      rcases argA a z with ⟨k, i, d, g1, g2, g3⟩ | z
      · have e := n.er.ap i j _ _ a g2 h1 (by intro z; cases z) m g3 q
        subst e
        exact h2 k d g1 g2
      · exact there a ⟨j, sw, h1, m, q⟩ z
  · obtain ⟨sv', q1, q2⟩ := old i sv hi mi
    obtain ⟨sw', q3, q4⟩ := old j sw hj mj
    exact n.er.ap i j sv' sw' a q1 q3 q2 q4 ei ej
  · rcases at_ j _ h1 with ⟨k, d', _, g2, _⟩ | ⟨g1, _⟩
    · exact n.sub j _ g2
    · exact n.sub j _ g1
  · obtain ⟨sv', q1, q2⟩ := old j sw h1 h2
    exact n.suR a ⟨j, sv', q1, q2, h3⟩
  · obtain ⟨sv, q1, q2⟩ := n.st j sw h1 h2
    refine putOuts_st os outs σd1 j sv nd (fun k i d e z => ?_) q1 q2
    have hs := hlen k i d e z
    have hk : k < vs.length := by rw [ag.len]; exact (List.getElem?_eq_some_iff.mp hs).1
    obtain ⟨sv', g1, g2, _⟩ := o k _ d (List.getElem?_eq_getElem hk) hs
    exact ⟨sv', g1, g2⟩
end
end RH
set_option maxRecDepth 100000
set_option maxHeartbeats 4000000
/-! Expressions: the model does what the meaning says. Part 1: names, constants, operations, tests. -/
namespace RH
open PySem PySem.Spec L2

section
variable {X : Cx}
theorem PEimp {e : Expr} {t t' : TE} (h : PE X e t) (i : ∀ σ H Q, t' σ H Q → t σ H Q) : PE X e t' := ⟨fun pins s σ H Q I q => h.run pins s σ H Q I (i σ H Q q)⟩
theorem PTimp {e : Expr} {t t' : TT} (h : PT X e t) (i : ∀ σ H Q, t' σ H Q → t σ H Q) : PT X e t' := ⟨fun pins s σ H Q I q => h.run pins s σ H Q I (i σ H Q q)⟩
theorem PAimp {e : List Expr} {t t' : TA} (h : PA X e t) (i : ∀ σ H Q, t' σ H Q → t σ H Q) : PA X e t' := ⟨fun pos pins s σ H Q I q => h.run pos pins s σ H Q I (i σ H Q q)⟩
theorem PWimp {e : Expr} {t t' : TT} (h : PW X e t) (i : ∀ σ H Q, t' σ H Q → t σ H Q) : PW X e t' := ⟨fun wh pins s σ H Q I q => h.run wh pins s σ H Q I (i σ H Q q)⟩
theorem PIimp {tg e : Expr} {t t' : TI} (h : PI X tg e t) (i : ∀ σ H Q, t' σ H Q → t σ H Q) : PI X tg e t' := ⟨fun pins s σ H Q I q => h.run pins s σ H Q I (i σ H Q q)⟩
end
theorem star_cons {e : Expr} {es : List Expr} {env : Env} (h : noStar e = true) : starEach (e :: es) env = (false, eval e env) :: starEach es env := by
  cases e <;> first | rfl | (simp [noStar] at h)
theorem star_any {pos : Pos} {env : Env} : ∀ {es : List Expr}, (∀ e ∈ es, noStar e = true) → (backTo pos (starEach es env)).any (·.1) = false
  | [], _ => rfl
  | e :: es, h => by
    rw [star_cons (h e List.mem_cons_self)]
    show (false || (backTo pos (starEach es env)).any (·.1)) = false
    rw [star_any fun x hx => h x (List.mem_cons_of_mem _ hx)]
    rfl
theorem star_all {pos : Pos} {env : Env} : ∀ {es : List Expr}, (∀ e ∈ es, noStar e = true) → (backTo pos (starEach es env)).all (fun x => !x.1) = true
  | [], _ => rfl
  | e :: es, h => by
    rw [star_cons (h e List.mem_cons_self)]
    show (!false && (backTo pos (starEach es env)).all (fun x => !x.1)) = true
    rw [star_all fun x hx => h x (List.mem_cons_of_mem _ hx)]
    rfl
/-- the value of a test -/
def evB (C : Str → Option D) (cf : Str → List SV → RF) (e : ME) (σ : EnvD) : R (Bool × EnvD) := (evV C cf e σ).bind fun p => (ofOpt (asB p.1)).bind fun t => .ok (t, p.2)
theorem asB_d {sv : SV} {t : Bool} (h : asB sv = some t) : sv.d = .bool t := by
  unfold asB at h
  split at h
  · rename_i b e; cases h; exact e
  · cases h
theorem Res.bool {K : KW} {H0 : Hp} {F : Addr → Prop} {H : Hp} {v : V} {sv : SV} {t : Bool} (r : Res K H0 F H v sv) (h : asB sv = some t) : v = .bl t := by
  have e := asB_d h
  have q := r.rt
  rw [e] at q
  exact q.bool

section
variable (C : Str → Option D) (Γ : Str → Option FD) (n : Nat)
/-- what is shown of an expression -/
def EOk (m : ME) : Prop := ∀ (c : CC) (e : Expr) (X : Cx) (W : WX), XC X W c C Γ n → mt c m e = true → PE X e (tE X W (evV C (callF C Γ n) m)) ∧ PT X e (tT X W (evB C (callF C Γ n) m))
def AllOk : MEs → Prop
  | .nil => True
  | .cons e es => EOk C Γ n e ∧ AllOk es
end
section
variable {C : Str → Option D} {Γ : Str → Option FD} {n : Nat} {X : Cx} {W : WX} {c : CC} {cf : Str → List SV → RF}
/-- a value's expression as a test -/
theorem pt_of {m : ME} {e : Expr} (h : PE X e (tE X W (evV C cf m))) (he : ∀ whole, isTrue e X.env whole = (do let v ← whole; standAt e.pos; holding [v] (truthy v))) : PT X e (tT X W (evB C cf m)) := by
  refine PTimp (pt_val h he) fun σ H Q q => ?_
  obtain ⟨F, σd, er, po⟩ := q
  refine ⟨F, σd, er, ?_⟩
  unfold evB at po
  cases e1 : evV C cf m σd with
  | bad => rw [e1] at po; exact po
  | exc c s => rw [e1] at po; exact po
  | ok p =>
    rw [e1, R.bind_ok] at po
    intro F1 H1 v n1 r1
    cases e2 : asB p.1 with
    | none => rw [e2] at po; exact po.elim
    | some t =>
      rw [e2, ofOpt_some, R.bind_ok] at po
      exact ⟨t, r1.bool e2, po F1 H1 n1⟩
theorem mt_isVar {m : ME} {i : Nat} {e : Expr} (h : mt c m e = true) (hv : isVar m = some i) : ∃ x p, e = .Name x p ∧ isSlot c i x = true ∧ m = .var i := by
  cases m <;> simp only [isVar, Option.some.injEq, reduceCtorEq] at hv
  subst hv
  unfold mt at h
  split at h
  · exact ⟨_, _, rfl, h, rfl⟩
  · cases h
/-- an operand -/
theorem pe_A1 (x : XC X W c C Γ n) {m : ME} {e : Expr} (ok : EOk C Γ n m) (h : mt c m e = true) : PE X e (tO X W (evA1 C (callF C Γ n) m)) := by
  cases hv : isVar m with
  | some i =>
    obtain ⟨y, p, rfl, hs, rfl⟩ := mt_isVar h hv
    exact pe_rdO x hs
  | none =>
    refine PEimp (ok c e X W x h).1 fun σ H Q q => ?_
    obtain ⟨F, σd, er, po⟩ := q
    refine ⟨F, σd, er, ?_⟩
    unfold evA1 at po
    rw [hv] at po
    dsimp only at po
    cases e1 : evV C (callF C Γ n) m σd with
    | bad => rw [e1] at po; exact po
    | exc c s => rw [e1] at po; exact po
    | ok p =>
      rw [e1, R.bind_ok] at po
      exact fun F1 H1 v n1 r1 => po F1 H1 v n1 r1
theorem mts_nil {es : List Expr} (h : mts c .nil es = true) : es = [] := by
  unfold mts at h
  split at h
  · rfl
  · cases h
theorem mts_cons {m : ME} {ms : MEs} {es : List Expr} (h : mts c (.cons m ms) es = true) : ∃ e r, es = e :: r ∧ mt c m e = true ∧ noStar e = true ∧ mts c ms r = true := by
  unfold mts at h
  split at h
  · simp only [Bool.and_eq_true] at h
    exact ⟨_, _, rfl, h.1.1, h.1.2, h.2⟩
  · cases h
theorem mts_noStar : ∀ {ms : MEs} {es : List Expr}, mts c ms es = true → ∀ e ∈ es, noStar e = true
  | .nil, es, h, e, he => by rw [mts_nil h] at he; cases he
  | .cons m ms, es, h, e, he => by
    obtain ⟨a, r, rfl, h1, h2, h3⟩ := mts_cons h
    rcases List.mem_cons.mp he with z | z
    · rw [z]; exact h2
    · exact mts_noStar h3 e z
theorem pa_As (x : XC X W c C Γ n) : ∀ {ms : MEs} {es : List Expr}, AllOk C Γ n ms → mts c ms es = true → PA X es (tAs X W (evAs C (callF C Γ n) ms))
  | .nil, es, _, h => by
    rw [mts_nil h]
    exact PAimp pa_nil fun σ H Q q => tAs_nil q
  | .cons m ms, es, ok, h => by
    obtain ⟨a, r, rfl, h1, h2, h3⟩ := mts_cons h
    exact PAimp (pa_cons (pe_A1 x ok.1 h1) (pa_As x ok.2 h3) (star_cons h2)) fun σ H Q q => tAs_cons q
theorem pa_Vs (x : XC X W c C Γ n) : ∀ {ms : MEs} {es : List Expr}, AllOk C Γ n ms → mts c ms es = true → PA X es (tVs X W (evVs C (callF C Γ n) ms))
  | .nil, es, _, h => by
    rw [mts_nil h]
    exact PAimp pa_nil fun σ H Q q => tVs_nil q
  | .cons m ms, es, ok, h => by
    obtain ⟨a, r, rfl, h1, h2, h3⟩ := mts_cons h
    exact PAimp (pa_cons (ok.1 c a X W x h1).1 (pa_Vs x ok.2 h3) (star_cons h2)) fun σ H Q q => tVs_cons q

/-- two operands of an operation -/
theorem op2 {o : Op} {a b : ME} {σ : L2.St} {H : Hp} {Q : VK} (h : tE X W (evV C cf (.op o (.cons a (.cons b .nil)))) σ H Q) :
    tO X W (evA1 C cf a) σ H fun x H1 => tO X W (evA1 C cf b) σ H1 fun y H2 => rO X o [x, y] H2 Q := by
  obtain ⟨F, σd, er, po⟩ := tAs_cons (opAs h)
  refine ⟨F, σd, er, ?_⟩
  revert po
  cases evA1 C cf a σd with
  | bad => exact id
  | exc c s => exact id
  | ok p =>
    intro po F1 H1 v n1 r1
    obtain ⟨F2, s2, er2, po2⟩ := tAs_cons (po F1 H1 v n1 r1)
    refine ⟨F2, s2, er2, ?_⟩
    revert po2
    cases evA1 C cf b s2 with
    | bad => exact id
    | exc c s => exact id
    | ok q => exact fun po2 F3 H3 w n3 r3 => tAs_nil (po2 F3 H3 w n3 r3)
theorem op1 {o : Op} {a : ME} {σ : L2.St} {H : Hp} {Q : VK} (h : tE X W (evV C cf (.op o (.cons a .nil))) σ H Q) :
    tO X W (evA1 C cf a) σ H fun x H1 => rO X o [x] H1 Q := by
  obtain ⟨F, σd, er, po⟩ := tAs_cons (opAs h)
  refine ⟨F, σd, er, ?_⟩
  revert po
  cases evA1 C cf a σd with
  | bad => exact id
  | exc c s => exact id
  | ok p => exact fun po F1 H1 v n1 r1 => tAs_nil (po F1 H1 v n1 r1)

/-- names, constants -/
theorem step_var (i : Nat) : EOk C Γ n (.var i) := fun c e X W x h => by
  unfold mt at h
  split at h
  · have q := pe_rdV (p := ‹Pos›) x h
    exact ⟨q, pt_of (m := .var i) q fun _ => rfl⟩
  · cases h
theorem step_cst (d : D) : EOk C Γ n (.cst d) := fun c e X W x h => by
  unfold mt at h
  split at h
  · rename_i k j p
    have hq : ∀ {v : V}, (∀ F H, Rp X.kw F H v d) → ∀ σ H Q, tE X W (evV C (callF C Γ n) (.cst d)) σ H Q → Q v H := fun {v} r σ H Q q => by
      obtain ⟨F, σd, er, po⟩ := q
      exact po F H v (Nx.refl er) (r F H)
    have go : PE X (.Constant k j p) (tE X W (evV C (callF C Γ n) (.cst d))) := by
      unfold mtC at h
      split at h
      · exact PEimp pe_non (hq fun _ _ => .non)
      · cases of_decide_eq_true h; exact PEimp pe_bl (hq fun _ _ => .bl _)
      · cases of_decide_eq_true h; exact PEimp pe_int (hq fun _ _ => .int _)
      · cases of_decide_eq_true h; exact PEimp pe_str (hq fun _ _ => .str _)
      · cases h
    exact ⟨go, pt_of (m := .cst d) go fun _ => rfl⟩
  · cases h
theorem step_glo (y : Str) : EOk C Γ n (.glo y) := fun c e X W x h => by
  unfold mt at h
  split at h
  · rename_i z p
    simp only [Bool.and_eq_true, decide_eq_true_eq] at h
    obtain ⟨rfl, h2⟩ := h
    obtain ⟨g1, g2⟩ := isGl_gl x h2
    have go : PE X (.Name y p) (tE X W (evV C (callF C Γ n) (.glo y))) := by
      cases hC : C y with
      | none =>
        refine ⟨fun pins s σ H Q I q => ?_⟩
        obtain ⟨F, σd, er, po⟩ := q
        rw [evV, hC] at po
        exact po.elim
      | some d =>
        obtain ⟨v, u, hm, rv, rp⟩ := x.tab.con y d hC
        refine PEimp (pe_glob g1 hm rv g2) fun σ H Q q => ?_
        obtain ⟨F, σd, er, po⟩ := q
        rw [evV, hC] at po
        exact po F H v (Nx.refl er) (rp F H)
    exact ⟨go, pt_of (m := .glo y) go fun _ => rfl⟩
  · cases h

/-! ### and, or, not, if -/
theorem tT_and {a b : ME} {σ : L2.St} {H : Hp} {Q : Bool → Hp → Prop} (h : tT X W (evB C cf (.and a b)) σ H Q) : tAnd (tT X W (evB C cf a)) (tT X W (evB C cf b)) σ H Q := by
  obtain ⟨F, σd, er, po⟩ := h
  refine ⟨F, σd, er, ?_⟩
  unfold evB at po ⊢
  rw [evV] at po
  cases e1 : evV C cf a σd with
  | bad => rw [e1] at po; exact po
  | exc c s => rw [e1] at po; exact po
  | ok p =>
    rw [e1, R.bind_ok] at po
    rw [R.bind_ok]
    cases e2 : asB p.1 with
    | none => rw [e2] at po; exact po
    | some t =>
      rw [e2, ofOpt_some, R.bind_ok] at po
      rw [ofOpt_some, R.bind_ok]
      intro F1 H1 n1
      cases t with
      | true =>
        rw [if_pos rfl] at po
        exact iteT ⟨F1, p.2, n1.er, PostT.on n1 po⟩
      | false =>
        refine iteF ?_
        rw [if_neg Bool.false_ne_true, R.bind_ok] at po
        exact po F1 H1 n1
theorem tT_or {a b : ME} {σ : L2.St} {H : Hp} {Q : Bool → Hp → Prop} (h : tT X W (evB C cf (.or a b)) σ H Q) : tOr (tT X W (evB C cf a)) (tT X W (evB C cf b)) σ H Q := by
  obtain ⟨F, σd, er, po⟩ := h
  refine ⟨F, σd, er, ?_⟩
  unfold evB at po ⊢
  rw [evV] at po
  cases e1 : evV C cf a σd with
  | bad => rw [e1] at po; exact po
  | exc c s => rw [e1] at po; exact po
  | ok p =>
    rw [e1, R.bind_ok] at po
    rw [R.bind_ok]
    cases e2 : asB p.1 with
    | none => rw [e2] at po; exact po
    | some t =>
      rw [e2, ofOpt_some, R.bind_ok] at po
      rw [ofOpt_some, R.bind_ok]
      intro F1 H1 n1
      cases t with
      | false =>
        rw [if_neg Bool.false_ne_true] at po
        exact iteF ⟨F1, p.2, n1.er, PostT.on n1 po⟩
      | true =>
        refine iteT ?_
        rw [if_pos rfl, R.bind_ok] at po
        exact po F1 H1 n1
/-- the value of and, or, by tests first -/
theorem tE_and {a b : ME} {σ : L2.St} {H : Hp} {Q : VK} (h : tE X W (evV C cf (.and a b)) σ H Q) : tAndV (tE X W (evV C cf a)) (tE X W (evV C cf b)) σ H Q := by
  obtain ⟨F, σd, er, po⟩ := h
  refine ⟨F, σd, er, ?_⟩
  rw [evV] at po
  refine PostE.bind po fun p F1 H1 v e1 n1 r1 po => ?_
  cases e2 : asB p.1 with
  | none => rw [e2] at po; exact po.elim
  | some t =>
    rw [e2, ofOpt_some, R.bind_ok] at po
    refine ⟨t, r1.bool e2, ?_⟩
    cases t with
    | true =>
      rw [if_pos rfl] at po
      exact iteT ⟨F1, p.2, n1.er, po.on er n1⟩
    | false =>
      rw [if_neg Bool.false_ne_true] at po
      exact iteF (po F1 H1 _ n1 (.bl _))
theorem tE_or {a b : ME} {σ : L2.St} {H : Hp} {Q : VK} (h : tE X W (evV C cf (.or a b)) σ H Q) : tOrV (tE X W (evV C cf a)) (tE X W (evV C cf b)) σ H Q := by
  obtain ⟨F, σd, er, po⟩ := h
  refine ⟨F, σd, er, ?_⟩
  rw [evV] at po
  refine PostE.bind po fun p F1 H1 v e1 n1 r1 po => ?_
  cases e2 : asB p.1 with
  | none => rw [e2] at po; exact po.elim
  | some t =>
    rw [e2, ofOpt_some, R.bind_ok] at po
    refine ⟨t, r1.bool e2, ?_⟩
    cases t with
    | false =>
      rw [if_neg Bool.false_ne_true] at po
      exact iteF ⟨F1, p.2, n1.er, po.on er n1⟩
    | true =>
      rw [if_pos rfl] at po
      exact iteT (po F1 H1 _ n1 (.bl _))
theorem step_and {a b : ME} (ha : EOk C Γ n a) (hb : EOk C Γ n b) : EOk C Γ n (.and a b) := fun c e X W x h => by
  unfold mt at h
  split at h
  · rename_i p q r pos
    simp only [Bool.and_eq_true] at h
    obtain ⟨h1, h2⟩ := h
    obtain ⟨a1, a2⟩ := ha c p X W x h1
    cases r with
    | nil =>
      obtain ⟨b1, b2⟩ := hb c q X W x h2
      exact ⟨PEimp (pe_and a1 (pe_one b1)) fun _ _ _ => tE_and, (PWimp (pw_and a2 (pw_and1 b2)) fun _ _ _ => tT_and).pt⟩
    | cons q2 r =>
      obtain ⟨b1, b2⟩ := hb c _ X W x h2
      refine ⟨PEimp (pe_and a1 b1) fun _ _ _ => tE_and, (PWimp (pw_and a2 ⟨fun wh pins s σ H Q I q => ?_⟩) fun _ _ _ => tT_and).pt⟩
      exact b2.run pins s σ H Q I q
  · cases h
theorem step_or {a b : ME} (ha : EOk C Γ n a) (hb : EOk C Γ n b) : EOk C Γ n (.or a b) := fun c e X W x h => by
  unfold mt at h
  split at h
  · rename_i p q r pos
    simp only [Bool.and_eq_true] at h
    obtain ⟨h1, h2⟩ := h
    obtain ⟨a1, a2⟩ := ha c p X W x h1
    cases r with
    | nil =>
      obtain ⟨b1, b2⟩ := hb c q X W x h2
      exact ⟨PEimp (pe_or a1 (pe_one b1)) fun _ _ _ => tE_or, (PWimp (pw_or a2 (pw_or1 b2)) fun _ _ _ => tT_or).pt⟩
    | cons q2 r =>
      obtain ⟨b1, b2⟩ := hb c _ X W x h2
      refine ⟨PEimp (pe_or a1 b1) fun _ _ _ => tE_or, (PWimp (pw_or a2 ⟨fun wh pins s σ H Q I q => ?_⟩) fun _ _ _ => tT_or).pt⟩
      exact b2.run pins s σ H Q I q
  · cases h
theorem step_not {a : ME} (ha : EOk C Γ n a) : EOk C Γ n (.not a) := fun c e X W x h => by
  unfold mt at h
  split at h
  · rename_i p pos
    obtain ⟨a1, a2⟩ := ha c p X W x h
    refine ⟨PEimp (pe_not a1) fun σ H Q q => ?_, PTimp (pt_not a2) fun σ H Q q => ?_⟩
    · obtain ⟨F, σd, er, po⟩ := q
      refine ⟨F, σd, er, ?_⟩
      rw [evV] at po
      refine PostE.bind po fun p F1 H1 v e1 n1 r1 po => ?_
      cases e2 : asB p.1 with
      | none => rw [e2] at po; exact po.elim
      | some t =>
        rw [e2, ofOpt_some, R.bind_ok] at po
        exact ⟨t, r1.bool e2, po F1 H1 _ n1 (.bl _)⟩
    · obtain ⟨F, σd, er, po⟩ := q
      refine ⟨F, σd, er, ?_⟩
      unfold evB at po ⊢
      rw [evV] at po
      cases e1 : evV C (callF C Γ n) a σd with
      | bad => rw [e1] at po; exact po
      | exc c s => rw [e1] at po; exact po
      | ok p =>
        rw [e1, R.bind_ok] at po
        rw [R.bind_ok]
        cases e2 : asB p.1 with
        | none => rw [e2] at po; exact po
        | some t =>
          rw [e2, ofOpt_some, R.bind_ok] at po
          rw [ofOpt_some, R.bind_ok]
          exact fun F1 H1 n1 => po F1 H1 n1
  · cases h
theorem pt_ifExp {t a b : Expr} {pos : Pos} {tc ta tb : TT} (hc : PT X t tc) (ha : PT X a ta) (hb : PT X b tb) : PT X (.IfExp t a b pos) (fun σ H Q => tc σ H fun k H1 => if k = true then ta σ H1 Q else tb σ H1 Q) := by
  refine ⟨fun pins s σ H Q I h => ?_⟩
  show wpAny (model X.prog X.w) X.A (do if ← isTrue t X.env (eval t X.env) then isTrue a X.env (eval a X.env) else isTrue b X.env (eval b X.env)) _ _ s
  refine wpAny_bind (thn (hc.run pins s σ H _ I h) fun k s1 ⟨H1, I1, q1⟩ => ?_)
  cases k with
  | true => rw [if_pos rfl] at q1 ⊢; exact ha.run pins s1 σ H1 Q I1 q1
  | false => rw [if_neg Bool.false_ne_true] at q1 ⊢; exact hb.run pins s1 σ H1 Q I1 q1
theorem step_ife {t a b : ME} (ht : EOk C Γ n t) (ha : EOk C Γ n a) (hb : EOk C Γ n b) : EOk C Γ n (.ife t a b) := fun c e X W x h => by
  unfold mt at h
  split at h
  · rename_i p q r pos
    simp only [Bool.and_eq_true] at h
    obtain ⟨⟨h1, h2⟩, h3⟩ := h
    obtain ⟨t1, t2⟩ := ht c p X W x h1
    obtain ⟨a1, a2⟩ := ha c q X W x h2
    obtain ⟨b1, b2⟩ := hb c r X W x h3
    refine ⟨PEimp (pe_ifExp t2 a1 b1) fun σ H Q q => ?_, PTimp (pt_ifExp t2 a2 b2) fun σ H Q q => ?_⟩
    · obtain ⟨F, σd, er, po⟩ := q
      refine ⟨F, σd, er, ?_⟩
      rw [evV] at po
      unfold evB
      cases e1 : evV C (callF C Γ n) t σd with
      | bad => rw [e1] at po; exact po
      | exc c s => rw [e1] at po; exact po
      | ok p =>
        rw [e1, R.bind_ok] at po
        rw [R.bind_ok]
        cases e2 : asB p.1 with
        | none => rw [e2] at po; exact po
        | some k =>
          rw [e2, ofOpt_some, R.bind_ok] at po
          rw [ofOpt_some, R.bind_ok]
          intro F1 H1 n1
          cases k with
          | true => rw [if_pos rfl] at po; exact iteT ⟨F1, p.2, n1.er, po.on er n1⟩
          | false => rw [if_neg Bool.false_ne_true] at po; exact iteF ⟨F1, p.2, n1.er, po.on er n1⟩
    · obtain ⟨F, σd, er, po⟩ := q
      refine ⟨F, σd, er, ?_⟩
      unfold evB at po ⊢
      rw [evV] at po
      cases e1 : evV C (callF C Γ n) t σd with
      | bad => rw [e1] at po; exact po
      | exc c s => rw [e1] at po; exact po
      | ok p =>
        rw [e1, R.bind_ok] at po
        rw [R.bind_ok]
        cases e2 : asB p.1 with
        | none => rw [e2] at po; exact po
        | some k =>
          rw [e2, ofOpt_some, R.bind_ok] at po
          rw [ofOpt_some, R.bind_ok]
          intro F1 H1 n1
          cases k with
          | true => rw [if_pos rfl] at po; exact iteT ⟨F1, p.2, n1.er, PostT.on n1 po⟩
          | false => rw [if_neg Bool.false_ne_true] at po; exact iteF ⟨F1, p.2, n1.er, PostT.on n1 po⟩
  · cases h
end
end RH
set_option maxRecDepth 100000
set_option maxHeartbeats 4000000
/-! sorted(set(a list of numbers)). -/
namespace RH
open PySem PySem.Spec PyProof.Rows L2

section
variable {P : Program} {w : World} {A : Around} {E : Value → Shared → Prop} {s : Shared}
theorem set_of_ints {l : Addr} {its : Array Value} (ks : List Int) {Q : Value → Shared → Prop} (hh : A.handled = none) (hl : s.heap.IsList l its) (hit : IntsAre its.toList ks) (few : ks.length + 1 < scanBound)
    (out : ∀ (h2 : Heap) (tk c : Nat), SetR w h2 s.heap.objs.size (fun j => decide (j ∈ ks)) c → c ≤ ks.length → (∀ b o, s.heap.get? b = some o → h2.get? b = some o) → Q (.ref s.heap.objs.size) { s with heap := h2, toks := tk }) :
    wpAny (model P w) A (call (.type "set") [.ref l]) Q E s := by
  have hsz : its.size = ks.length := by
    have q := IntsAre.length hit
    rwa [Array.length_toList] at q
  obtain ⟨c0, t0, m0⟩ := F.called_set.mro
  have g1 := F.called_set.made
  have g2 := F.called_set.sub
  refine wpAny_call (codeAny_of_tree ?_)
  show wpAny _ _ (callAny (.type "set") _) _ _ _
  refine wpAny_pure ⟨Code.quiet_builtin _ (by decide +kernel), codeAny_builtin F.entry_type_call ?_⟩ <;> rw [Around.under_plain (weight_type_call_type "set" [.ref l] []) rfl]
  have g3 := F.called_set.notType
  have g4 := F.called_set.canCreate
  have g5 := F.typeCall_set_1 (.ref l)
  repeat any_goals first | assumption | wp_step
  refine codeAny_mono (code_set_led1 (.ref l) (E := E) (Q₁ := fun o1 z1 => o1 = .ref s.heap.objs.size ∧ z1 = { s with heap := s.heap.push { cls := .type "set", dict := none, data := .set #[] 0 (.fresh 0 0 (!w.params.followText "set-order")) } }) ⟨rfl, rfl⟩) fun r1 z1 f1 => ?_
  cases r1 with
  | error e => exact f1
  | ok fl =>
    cases fl with
    | ret o1 =>
      obtain ⟨rfl, rfl⟩ := f1
      have new0 : (s.heap.push { cls := .type "set", dict := none, data := .set #[] 0 (.fresh 0 0 (!w.params.followText "set-order")) }).get? s.heap.objs.size = some { cls := .type "set", dict := none, data := .set #[] 0 (.fresh 0 0 (!w.params.followText "set-order")) } := Heap.get?_push_size _ rfl
      have ty0 : Shared.TypeIs { s with heap := s.heap.push { cls := .type "set", dict := none, data := .set #[] 0 (.fresh 0 0 (!w.params.followText "set-order")) } } (.ref s.heap.objs.size) "set" := ⟨_, new0, rfl⟩
      have i1 := F.called_set.init.lookup
      have i2 := F.called_set.init.bind (.ref s.heap.objs.size)
      repeat any_goals first | assumption | wp_step
      refine codeAny_mono (codeAny_call_builtin (R := wants (fun r2 z2 => r2 = .none ∧ ∃ h2 tk c, z2 = { s with heap := h2, toks := tk } ∧ SetR w h2 s.heap.objs.size (fun j => decide (j ∈ ks)) c ∧ c ≤ ks.length ∧ (∀ b o, s.heap.get? b = some o → h2.get? b = some o)) E) F.called_set.init.plain F.entry_set_init (check_set_init_1 ty0 ?_)) fun r2 z2 f2 => ?_
      · obtain ⟨ob, e0, e1, nl, e2⟩ := hl
        obtain ⟨k1, k2, k3, k4⟩ := ob
        simp only at e1 e2
        subst e1 e2
        have e3 : (s.heap.push { cls := .type "set", dict := none, data := .set #[] 0 (.fresh 0 0 (!w.params.followText "set-order")) }).get? l = some { cls := .type "list", dict := k2, data := .seq its nl, slots := k4 } := Heap.get?_push_of_some _ e0
        have s1 := F.sub_list_set
        have s2 := F.sub_list_frozenset
        have s3 : (Value.type "list" == Value.type "dict") = false := by decide
        have l1 : (s.heap.push { cls := .type "set", dict := none, data := .set #[] 0 (.fresh 0 0 (!w.params.followText "set-order")) }).IsList l its := ⟨_, e3, rfl, nl, rfl⟩
        unfold Builtin.«set.__init__» noKeywords Builtin.Frozenset.updateFrom
        generalize hIT : pyIter = IT
        wp_walk
        subst hIT
        refine wpAny_pyIter_list l1 (wpAny_bind (wpAny_runValue ?_))
        have lt0 : l < s.heap.objs.size := Heap.lt_size e0
        have hd3 : A.in1.in1.in1.handled = none := by simp [hh]
        have ne1 : l ≠ (s.heap.push { cls := .type "set", dict := none, data := .set #[] 0 (.fresh 0 0 (!w.params.followText "set-order")) }).objs.size := by
          rw [Heap.size_push] <;> exact Nat.ne_of_lt (Nat.lt_succ_of_lt lt0)
        have off : s.heap.objs.size ∉ [(s.heap.push { cls := .type "set", dict := none, data := .set #[] 0 (.fresh 0 0 (!w.params.followText "set-order")) }).objs.size, l] := by
          rw [Heap.size_push]
          simp only [List.mem_cons, List.mem_singleton, List.not_mem_nil, or_false, not_or]
          exact ⟨Nat.ne_of_lt (Nat.lt_succ_self _), Ne.symm (Nat.ne_of_lt lt0)⟩
        have vals : ∀ (i : Nat) (v : Value), its[i]? = some v → ∃ k t, ks[i]? = some k ∧ v = .int k t := fun i v hv => by
          have hi : i < ks.length := by rw [← hsz]; exact (Array.getElem?_eq_some_iff.mp hv).1
          obtain ⟨t, e⟩ := PyProof.Rows.IntsAre.int_at hit i v (by rw [Array.getElem?_toList] <;> exact hv)
          exact ⟨ks[i], t, List.getElem?_eq_getElem hi, by rw [e, List.getD_eq_getElem?_getD, List.getElem?_eq_getElem hi] <;> rfl⟩
        refine set_update_ints ((Walks.list hd3 _ l ne1 its).toS) s.heap.objs.size off ks hsz few vals (its.size - 0) 0 _ (by omega) (Nat.zero_le _) ⟨⟨_, Heap.get?_push_size _ rfl, rfl, rfl⟩, (l1.push _)⟩ ⟨0, Nat.le_refl 0, setR_new_at (Heap.get?_push_of_some _ new0)⟩ ?fin
        case fin =>
          intro z3 c3 mv hc3 S3
          obtain ⟨h3, y1, y2, tk3, y3⟩ := z3
          have v1 : y1 = s.gens := mv.gens
          have v2 : y2 = s.drawn := mv.drawn
          have v3 : y3 = s.os := mv.os
          subst v1 v2 v3
          show wpAny _ _ _ _ _ _
          refine wpAny_pure ?_
          show wpAny _ _ (ret Value.none) _ _ _
          rw [hsz] at hc3
          refine wpAny_pure ⟨rfl, h3, tk3, c3, rfl, S3, hc3, fun b o e => ?_⟩
          have b0 : b < s.heap.objs.size := Heap.lt_size e
          have b1 : b ≠ s.heap.objs.size := Nat.ne_of_lt b0
          have b2 : b ≠ (s.heap.push { cls := .type "set", dict := none, data := .set #[] 0 (.fresh 0 0 (!w.params.followText "set-order")) }).objs.size := by
            rw [Heap.size_push] <;> exact Nat.ne_of_lt (Nat.lt_succ_of_lt b0)
          exact mv.heap b o (by simp only [List.mem_cons, List.mem_singleton, List.not_mem_nil, or_false, not_or] <;> exact ⟨b1, b2⟩) (Heap.get?_push_of_some _ (Heap.get?_push_of_some _ e))
      · cases r2 with
        | error e => exact f2
        | ok fl2 =>
          cases fl2 with
          | ret r3 =>
            obtain ⟨rfl, h2, tk, c, rfl, S2, hc2, hk2⟩ := f2
            repeat any_goals first | assumption | wp_step
            exact out _ _ _ S2 hc2 hk2
          | _ => exact f2.elim
      | _ => exact f1.elim

section
variable {X : Cx}
theorem intsAre_of : ∀ {ns : List Int} {us : List Value}, Vals (ns.map V.int) us → IntsAre us ns
  | [], _, .nil => .nil
  | n :: ns, _, .cons r t => by
    obtain ⟨k, rfl⟩ := r
    exact .cons n k (intsAre_of t)
/-- sorted(set(a)) -/
def tSortSet (K : PySem.W.Frag) (ta : TE) : TE := fun σ H Q => ta σ H fun x H1 => ∃ (l : Addr) (ks : List Int), x = .ref l ∧ SqL K H1 l (ks.map V.int) ∧ ks.length < 64 ∧
  ∀ (ns : List Int) (p : Addr), ns.Pairwise (· < ·) → (∀ k : Int, k ∈ ns ↔ k ∈ ks) → H1 p = none → Q (.ref p) (upd H1 p (.lst (ns.map V.int)))
theorem pe_sortSet {a : Expr} {ta : TE} {p p2 q pos : Pos} (hg : Gl X "sorted") (hm : X.mg "sorted" = none) (hg2 : Gl X "set") (hm2 : X.mg "set" = none) (ha : PE X a ta) (hc : X.calm = true)
    (na : starEach [a] X.env = (false, eval a X.env) :: starEach [] X.env) : PE X (.Call (.Name "sorted" p) [.Call (.Name "set" p2) [a] [] q] [] pos) (tSortSet X.K ta) := by
  refine ⟨fun pins s σ H Q I h => ?_⟩
  refine Call_ (ld_blt I hg hm (by decide +kernel : bootBuiltins "sorted" = some (.builtin "sorted")) ?_)
  refine PyProof.Rows.callWith_builtin1 (PyProof.Rows.args_cons ?_ rfl) rfl rfl
  refine Call_ (ld_blt I hg2 hm2 boot_set ?_)
  refine PyProof.Rows.callWith_type1 (PyProof.Rows.args_cons (thn (ha.run pins s σ H _ I h) fun v s1 ⟨x, H1, I1, r1, q1⟩ => PyProof.Rows.args_nil ?_) na) na rfl
  obtain ⟨l, ks, rfl, hq, h64, q1⟩ := q1
  cases r1
  obtain ⟨its, r, pl, hz⟩ := I1.list hq
  refine set_of_ints ks (I1.ok.hd hc) pl.isList (by simpa using intsAre_of r) (by unfold scanBound <;> omega) fun h2 tk c S hc2 kp => ?_
  refine PyProof.Rows.args_nil ?_
  have I2 : Inv X pins σ H1 { s1 with heap := h2, toks := tk } := I1.kept fun b o e => kp b o e
  have S' : SetR X.w ({ s1 with heap := h2, toks := tk } : Shared).heap s1.heap.objs.size (fun j => decide (j ∈ ks)) c := S
  clear S kp
  generalize ({ s1 with heap := h2, toks := tk } : Shared) = z2 at I2 S' ⊢
  refine sorted_set S' (I2.ok.hd hc) (by omega) fun z3 p3 out c3 ns k3 gs os pl3 at3 hi hs hm hl => ?_
  have len3 : (ns.map V.int).length ≤ sizeLine := by rw [List.length_map, hl, sizeLine_eq] <;> omega
  have new3 : H1 p3 = none := I2.hok.fresh pl3
  have J : Inv X pins σ (upd H1 p3 (.lst (ns.map V.int))) { z2 with heap := z3.heap, gens := z3.gens, drawn := z3.drawn, toks := z3.toks } :=
    I2.call (ch := []) (Un.laid k3 pl3 new3) (I2.hok.laid k3 pl3 ⟨len3, out.toList, c3, vals_of_ints hi, at3⟩) (by rw [gs] <;> exact I2.bare) (fun _ z => nomatch z)
  have same : z3 = { z2 with heap := z3.heap, gens := z3.gens, drawn := z3.drawn, toks := z3.toks } := by
    cases z3
    cases z2
    cases os
    rfl
  rw [same]
  exact ⟨.ref p3, _, J, rfl, q1 ns p3 hs (fun k => by rw [hm k] <;> exact decide_eq_true_iff) new3⟩
end
end
end RH
set_option maxRecDepth 100000
set_option maxHeartbeats 4000000
/-! sorted(set(a list of unlike texts)). -/
namespace RH
open PySem PySem.Spec PyProof.Rows L2 PySem.Froz

/-- the set of the texts l at a; its table rises and can be walked -/
def SetT (P : Program) (w : World) (h : Heap) (a : Addr) (l : List Str) : Prop :=
  ∃ D : SD, h.get? a = some (sObj "set" D) ∧ TxOk P w D l ∧ (∀ e ∈ D.1.toList, ∃ k tk, e.2 = Value.str k tk) ∧ Ris D.2.2.place.toList ∧ (w.params.followText "set-order" = true ∨ D.2.2.led = true)
theorem addTx_good {D : SD} {h : Int} {k : Str} {tk : Tok} {c : Prop} (g : ∀ e ∈ D.1.toList, ∃ k tk, e.2 = Value.str k tk) (r : Ris D.2.2.place.toList) (hl : c ∨ D.2.2.led = true) :
    (∀ e ∈ (addTx h (.str k tk) D).1.toList, ∃ k tk, e.2 = Value.str k tk) ∧ Ris (addTx h (.str k tk) D).2.2.place.toList ∧ (c ∨ (addTx h (.str k tk) D).2.2.led = true) := by
  obtain ⟨es, ep, t⟩ := D
  have pm := layNew_perm t es h (.str k tk)
  have hr1 := layNew_ris t es h (.str k tk) r
  have hl1 := layNew_led t es h (.str k tk)
  unfold addTx
  dsimp only at *
  generalize layNew t es h (.str k tk) = Z at pm hr1 hl1 ⊢
  obtain ⟨es1, t1, wd, gave⟩ := Z
  dsimp only at *
  rw [Array.toList_push] at pm
  have g1 : ∀ e ∈ es1.toList, ∃ k tk, e.2 = Value.str k tk := fun e he => by
    rcases List.mem_append.mp (pm.mem_iff.mp he) with z | z
    · exact g e z
    · rw [List.mem_singleton.mp z]; exact ⟨k, tk, rfl⟩
  have hr2 : Ris (if t1.plain = true then { t1 with plain := false } else t1).place.toList := by split <;> exact hr1
  have hl2 : c ∨ (if t1.plain = true then { t1 with plain := false } else t1).led = true := by
    rw [← hl1] at hl
    split <;> exact hl
  generalize (if t1.plain = true then { t1 with plain := false } else t1) = t2 at hr2 hl2 ⊢
  unfold tailTx
  split
  · refine ⟨fun e he => g1 e ((relayAll_perm t2 es1 _).mem_iff.mp he), relayAll_ris _ _ _, hl2.imp id fun z => ?_⟩
    show (relayAll t2 es1 (SetTable.grown es1.size)).2.1.led = true
    rw [relayAll_led]; exact z
  · exact ⟨g1, hr2, hl2⟩
section
variable {P : Program} {w : World} {A : Around} {E : Value → Shared → Prop} {s : Shared}
theorem SetT.at {h h' : Heap} {a : Addr} {l : List Str} (x : SetT P w h a l) (k : ∀ o, h.get? a = some o → h'.get? a = some o) : SetT P w h' a l := by
  obtain ⟨D, h1, r⟩ := x
  exact ⟨D, k _ h1, r⟩
theorem setT_add {a : Addr} {l : List Str} {k : Str} {tk : Tok} {Q : Bool → Shared → Prop} (x : SetT P w s.heap a l) (hk : k ∉ l) (hb : l.length + 1 < scanBound)
    (hQ : ∀ h', Heap.SameBut a s.heap h' → SetT P w h' a (k :: l) → Q true { s with heap := h' }) : wpAny (model P w) A (setAddHashed a (.str k tk) (hashStr w k)) Q E s := by
  obtain ⟨D, h1, F, g, r, hl⟩ := x
  refine add_x h1 F hk hb (hQ _ (Heap.SameBut.update s.heap a _) ?_)
  obtain ⟨g2, r2, l2⟩ := addTx_good (h := hashStr w k) (k := k) (tk := tk) g r hl
  exact ⟨addTx (hashStr w k) (.str k tk) D, get_upd _ h1 rfl, add_ok tk F, g2, r2, l2⟩
theorem setT_new {a : Addr} {h : Heap} (ho : h.get? a = some { cls := .type "set", dict := none, data := .set #[] 0 (.fresh 0 0 (!w.params.followText "set-order")) }) : SetT P w h a [] :=
  ⟨(#[], 0, .fresh 0 0 (!w.params.followText "set-order")), ho, TxOk.nil (by rfl), (fun e he => by simp at he), List.Pairwise.nil, by
    show _ ∨ (!w.params.followText "set-order") = true
    cases w.params.followText "set-order"
    · exact .inr rfl
    · exact .inl rfl⟩
theorem set_update_txts {I : Addr} {fp wr : List Addr} {G : Array GenState → Array GenState → Prop} {n : Nat} {Pv : Nat → Value → Prop} {St : Nat → Shared → Prop} {R : Result → Shared → Prop}
    (W : WalksS P w A.in1 I fp wr G n Pv St) (S : Addr) (hSf : S ∉ fp) (ns : List Str) (hn : n = ns.length) (nd : ns.Nodup) (hb : ns.length + 1 < scanBound) (hval : ∀ i v, Pv i v → ∃ k t, ns[i]? = some k ∧ v = .str k t) :
    ∀ (k i : Nat) (s : Shared), n - i = k → i ≤ n → St i s → SetT P w s.heap S (ns.take i).reverse →
      (∀ s', Moved (S :: wr) G s s' → SetT P w s'.heap S ns.reverse → R (.ok (.ret .none)) s') →
      codeAny (model P w) A (.builtin "set.update.loop" ⟨[.ref S, .ref I], []⟩) R s := by
  have hSw : S ∉ wr := fun h => hSf (W.sub _ h)
  have hsub : ∀ b ∈ wr, b ∈ S :: wr := fun b hb => List.mem_cons_of_mem _ hb
  intro k
  induction k with
  | zero =>
    intro i s hk' hi hst hS hR
    have hin : i = n := by omega
    subst hin
    refine codeAny_builtin F.entry_set_update_loop ?_
    rw [Around.under_plainId F.plain_set_update_loop _]
    show wpAny _ A.in1 (pyNext (.ref I) >>= _) _ _ s
    refine wpAny_bind (W.done s _ _ hst fun s' hm => ?_)
    show wpAny _ A.in1 (ret Value.none) _ _ s'
    have e : ns.take i = ns := List.take_of_length_le (by omega)
    rw [e] at hS
    exact wpAny_pure (hR s' (hm.mono hsub) (hS.at fun o e => hm.heap S o hSw e))
  | succ k ih =>
    intro i s hk' hi hst hS hR
    have hlt : i < n := by omega
    refine codeAny_builtin F.entry_set_update_loop ?_
    rw [Around.under_plainId F.plain_set_update_loop _]
    show wpAny _ A.in1 (pyNext (.ref I) >>= _) _ _ s
    refine wpAny_bind (W.item i s _ _ hlt hst fun v s' hP hst' hm => ?_)
    obtain ⟨z, t, hz, rfl⟩ := hval i v hP
    have hS' : SetT P w s'.heap S (ns.take i).reverse := hS.at fun o e => hm.heap S o hSw e
    show wpAny _ A.in1 (holding [Value.str z t] (setAdd S (.str z t)) >>= _) _ _ s'
    refine wpAny_bind (wpAny_holding ?_)
    unfold setAdd
    refine wpAny_holding ?_
    refine wpAny_bind ((strKind P w).pyHash (k := z) (strKind_is _ _ _ _) ?_)
    have tk1 : ns.take (i + 1) = ns.take i ++ [z] := by rw [List.take_add_one, hz]; rfl
    have nz : z ∉ ns.take i := fun hm => by
      have h1 : (ns.take (i + 1)).Nodup := (List.take_sublist _ _).nodup nd
      rw [tk1] at h1
      exact (List.nodup_append.mp h1).2.2 z hm z List.mem_cons_self rfl
    refine setT_add (s := { s' with toks := s'.toks + 1 }) hS' (by simpa using nz) (by rw [List.length_reverse, List.length_take]; omega) fun h' hsb hS2 => ?_
    have hS3 : SetT P w h' S (ns.take (i + 1)).reverse := by
      rw [tk1, List.reverse_append]
      exact hS2
    refine wpAny_pure ⟨plainId_quiet F.plain_set_update_loop _, ih (i + 1) _ (by omega) hlt (W.frame _ s' _ _ hst' (Nat.le_succ _) fun b hb o e => ?_) hS3 fun s'' hm'' hS'' => ?_⟩
    · rw [hsb.2 b (fun h : b = S => hSf (by rw [← h]; exact hb))]; exact e
    · refine hR s'' (Moved.trans W.gtrans ((hm.mono hsub).then_heap (Nat.le_succ _) fun b o hb e => ?_) hm'') hS''
      rw [hsb.2 b (fun h : b = S => hb (by rw [h]; exact List.mem_cons_self))]; exact e
/-- texts as they stand -/
inductive StrsAre : List Value → List Str → Prop
  | nil : StrsAre [] []
  | cons {us : List Value} {ns : List Str} (k : Str) (t : Tok) : StrsAre us ns → StrsAre (.str k t :: us) (k :: ns)
theorem StrsAre.length : ∀ {us : List Value} {ns : List Str}, StrsAre us ns → us.length = ns.length
  | _, _, .nil => rfl
  | _, _, .cons _ _ h => by rw [List.length_cons, List.length_cons, h.length]
theorem StrsAre.at : ∀ {us : List Value} {ns : List Str}, StrsAre us ns → ∀ (i : Nat) (v : Value), us[i]? = some v → ∃ k t, ns[i]? = some k ∧ v = .str k t
  | _, _, .nil, i, v, h => by simp at h
  | _, _, .cons k t r, 0, v, h => by
    simp only [List.getElem?_cons_zero, Option.some.injEq] at h
    exact ⟨k, t, rfl, h.symm⟩
  | _, _, .cons k t r, i + 1, v, h => by
    obtain ⟨k', t', h1, h2⟩ := r.at i v (by simpa using h)
    exact ⟨k', t', by simpa using h1, h2⟩
theorem strsAre_of : ∀ {ns : List Str} {us : List Value}, Vals (ns.map V.str) us → StrsAre us ns
  | [], _, .nil => .nil
  | n :: ns, _, .cons r t => by
    obtain ⟨k, rfl⟩ := r
    exact .cons n k (strsAre_of t)
theorem set_of_txts {l : Addr} {its : Array Value} (ks : List Str) {Q : Value → Shared → Prop} (hh : A.handled = none) (hl : s.heap.IsList l its) (hit : StrsAre its.toList ks) (nd : ks.Nodup) (few : ks.length + 1 < scanBound)
    (out : ∀ (h2 : Heap) (tk : Nat), SetT P w h2 s.heap.objs.size ks.reverse → (∀ b o, s.heap.get? b = some o → h2.get? b = some o) → Q (.ref s.heap.objs.size) { s with heap := h2, toks := tk }) :
    wpAny (model P w) A (call (.type "set") [.ref l]) Q E s := by
  have hsz : its.size = ks.length := by
    have q := hit.length
    rwa [Array.length_toList] at q
  obtain ⟨c0, t0, m0⟩ := F.called_set.mro
  have g1 := F.called_set.made
  have g2 := F.called_set.sub
  refine wpAny_call (codeAny_of_tree ?_)
  show wpAny _ _ (callAny (.type "set") _) _ _ _
  refine wpAny_pure ⟨Code.quiet_builtin _ (by decide +kernel), codeAny_builtin F.entry_type_call ?_⟩ <;> rw [Around.under_plain (weight_type_call_type "set" [.ref l] []) rfl]
  have g3 := F.called_set.notType
  have g4 := F.called_set.canCreate
  have g5 := F.typeCall_set_1 (.ref l)
  repeat any_goals first | assumption | wp_step
  refine codeAny_mono (code_set_led1 (.ref l) (E := E) (Q₁ := fun o1 z1 => o1 = .ref s.heap.objs.size ∧ z1 = { s with heap := s.heap.push { cls := .type "set", dict := none, data := .set #[] 0 (.fresh 0 0 (!w.params.followText "set-order")) } }) ⟨rfl, rfl⟩) fun r1 z1 f1 => ?_
  cases r1 with
  | error e => exact f1
  | ok fl =>
    cases fl with
    | ret o1 =>
      obtain ⟨rfl, rfl⟩ := f1
      have new0 : (s.heap.push { cls := .type "set", dict := none, data := .set #[] 0 (.fresh 0 0 (!w.params.followText "set-order")) }).get? s.heap.objs.size = some { cls := .type "set", dict := none, data := .set #[] 0 (.fresh 0 0 (!w.params.followText "set-order")) } := Heap.get?_push_size _ rfl
      have ty0 : Shared.TypeIs { s with heap := s.heap.push { cls := .type "set", dict := none, data := .set #[] 0 (.fresh 0 0 (!w.params.followText "set-order")) } } (.ref s.heap.objs.size) "set" := ⟨_, new0, rfl⟩
      have i1 := F.called_set.init.lookup
      have i2 := F.called_set.init.bind (.ref s.heap.objs.size)
      repeat any_goals first | assumption | wp_step
      refine codeAny_mono (codeAny_call_builtin (R := wants (fun r2 z2 => r2 = .none ∧ ∃ h2 tk, z2 = { s with heap := h2, toks := tk } ∧ SetT P w h2 s.heap.objs.size ks.reverse ∧ (∀ b o, s.heap.get? b = some o → h2.get? b = some o)) E) F.called_set.init.plain F.entry_set_init (check_set_init_1 ty0 ?_)) fun r2 z2 f2 => ?_
      · obtain ⟨ob, e0, e1, nl, e2⟩ := hl
        obtain ⟨k1, k2, k3, k4⟩ := ob
        simp only at e1 e2
        subst e1 e2
        have e3 : (s.heap.push { cls := .type "set", dict := none, data := .set #[] 0 (.fresh 0 0 (!w.params.followText "set-order")) }).get? l = some { cls := .type "list", dict := k2, data := .seq its nl, slots := k4 } := Heap.get?_push_of_some _ e0
        have s1 := F.sub_list_set
        have s2 := F.sub_list_frozenset
        have s3 : (Value.type "list" == Value.type "dict") = false := by decide
        have l1 : (s.heap.push { cls := .type "set", dict := none, data := .set #[] 0 (.fresh 0 0 (!w.params.followText "set-order")) }).IsList l its := ⟨_, e3, rfl, nl, rfl⟩
        unfold Builtin.«set.__init__» noKeywords Builtin.Frozenset.updateFrom
        generalize hIT : pyIter = IT
        wp_walk
        subst hIT
        refine wpAny_pyIter_list l1 (wpAny_bind (wpAny_runValue ?_))
        have lt0 : l < s.heap.objs.size := Heap.lt_size e0
        have hd3 : A.in1.in1.in1.handled = none := by simp [hh]
        have ne1 : l ≠ (s.heap.push { cls := .type "set", dict := none, data := .set #[] 0 (.fresh 0 0 (!w.params.followText "set-order")) }).objs.size := by
          rw [Heap.size_push] <;> exact Nat.ne_of_lt (Nat.lt_succ_of_lt lt0)
        have off : s.heap.objs.size ∉ [(s.heap.push { cls := .type "set", dict := none, data := .set #[] 0 (.fresh 0 0 (!w.params.followText "set-order")) }).objs.size, l] := by
          rw [Heap.size_push]
          simp only [List.mem_cons, List.mem_singleton, List.not_mem_nil, or_false, not_or]
          exact ⟨Nat.ne_of_lt (Nat.lt_succ_self _), Ne.symm (Nat.ne_of_lt lt0)⟩
        have vals : ∀ (i : Nat) (v : Value), its[i]? = some v → ∃ k t, ks[i]? = some k ∧ v = .str k t := fun i v hv => hit.at i v (by rw [Array.getElem?_toList] <;> exact hv)
        refine set_update_txts ((Walks.list hd3 _ l ne1 its).toS) s.heap.objs.size off ks hsz nd few vals (its.size - 0) 0 _ (by omega) (Nat.zero_le _) ⟨⟨_, Heap.get?_push_size _ rfl, rfl, rfl⟩, (l1.push _)⟩ (setT_new (Heap.get?_push_of_some _ new0)) ?fin
        case fin =>
          intro z3 mv S3
          obtain ⟨h3, y1, y2, tk3, y3⟩ := z3
          have v1 : y1 = s.gens := mv.gens
          have v2 : y2 = s.drawn := mv.drawn
          have v3 : y3 = s.os := mv.os
          subst v1 v2 v3
          show wpAny _ _ _ _ _ _
          refine wpAny_pure ?_
          show wpAny _ _ (ret Value.none) _ _ _
          refine wpAny_pure ⟨rfl, h3, tk3, rfl, S3, fun b o e => ?_⟩
          have b0 : b < s.heap.objs.size := Heap.lt_size e
          have b1 : b ≠ s.heap.objs.size := Nat.ne_of_lt b0
          have b2 : b ≠ (s.heap.push { cls := .type "set", dict := none, data := .set #[] 0 (.fresh 0 0 (!w.params.followText "set-order")) }).objs.size := by
            rw [Heap.size_push] <;> exact Nat.ne_of_lt (Nat.lt_succ_of_lt b0)
          exact mv.heap b o (by simp only [List.mem_cons, List.mem_singleton, List.not_mem_nil, or_false, not_or] <;> exact ⟨b1, b2⟩) (Heap.get?_push_of_some _ (Heap.get?_push_of_some _ e))
      · cases r2 with
        | error e => exact f2
        | ok fl2 =>
          cases fl2 with
          | ret r3 =>
            obtain ⟨rfl, h2, tk, rfl, S2, hk2⟩ := f2
            repeat any_goals first | assumption | wp_step
            exact out _ _ S2 hk2
          | _ => exact f2.elim
      | _ => exact f1.elim
theorem sort_perm {l l' : List Str} (p : l.Perm l') : l.mergeSort leS = l'.mergeSort leS := by
  have tr : ∀ a b c : Str, leS a b = true → leS b c = true → leS a c = true := fun a b c h1 h2 => by
    unfold leS at *
    simp only [decide_eq_true_eq] at *
    exact List.le_trans h1 h2
  have to : ∀ a b : Str, (leS a b || leS b a) = true := fun a b => by
    unfold leS
    simp only [Bool.or_eq_true, decide_eq_true_eq]
    exact List.le_total _ _
  refine List.Perm.eq_of_pairwise (le := fun a b => leS a b = true) (fun a b _ _ h1 h2 => ?_) (List.pairwise_mergeSort tr to l) (List.pairwise_mergeSort tr to l') ((List.mergeSort_perm l leS).trans (p.trans (List.mergeSort_perm l' leS).symm))
  unfold leS at h1 h2
  simp only [decide_eq_true_eq] at h1 h2
  have := List.le_antisymm h1 h2
  cases a; cases b
  simp only [Str.mk.injEq]
  exact Array.toList_inj.mp this
theorem strs_of_vals : ∀ {vs : List Value}, (∀ v ∈ vs, ∃ k tk, v = Value.str k tk) → ∃ ks, StrsAre vs ks
  | [], _ => ⟨[], .nil⟩
  | v :: vs, h => by
    obtain ⟨k, tk, rfl⟩ := h v List.mem_cons_self
    obtain ⟨ks, r⟩ := strs_of_vals fun u hu => h u (List.mem_cons_of_mem _ hu)
    exact ⟨k :: ks, .cons k tk r⟩
theorem StrsAre.mem : ∀ {us : List Value} {ns : List Str}, StrsAre us ns → ∀ k, k ∈ ns ↔ ∃ t, Value.str k t ∈ us
  | _, _, .nil, k => by simp
  | _, _, .cons k0 t0 r, k => by
    rw [List.mem_cons, r.mem k]
    constructor
    · rintro (rfl | ⟨t, h⟩)
      · exact ⟨t0, List.mem_cons_self⟩
      · exact ⟨t, List.mem_cons_of_mem _ h⟩
    · rintro ⟨t, h⟩
      rcases List.mem_cons.mp h with h | h
      · cases h; exact .inl rfl
      · exact .inr ⟨t, h⟩
theorem StrsAre.each : ∀ {us : List Value} {ns : List Str}, StrsAre us ns → PySem.W.EachIs (fun v b => ∃ t, v = Value.str b t) us ns
  | _, _, .nil => .nil
  | _, _, .cons k t r => .cons ⟨t, rfl⟩ r.each
theorem each_vals : ∀ {us : List Value} {ns : List Str}, PySem.W.EachIs (fun v b => ∃ t, v = Value.str b t) us ns → Vals (ns.map V.str) us
  | _, _, .nil => .nil
  | _, _, .cons ⟨t, e⟩ r => .cons ⟨t, e⟩ (each_vals r)
theorem perm_of_mem {l l' : List Str} (nd : l.Nodup) (hm : ∀ k, k ∈ l ↔ k ∈ l') (hl : l'.length = l.length) : l.Perm l' := by
  have go : ∀ (l l' : List Str), l.Nodup → (∀ k ∈ l, k ∈ l') → l'.length ≤ l.length → l.Perm l' := fun l => by
    induction l with
    | nil =>
      intro l' _ _ h
      cases l' with
      | nil => exact .refl _
      | cons a r => simp at h
    | cons a r ih =>
      intro l' nd sub h
      have ha := sub a List.mem_cons_self
      obtain ⟨n1, n2⟩ := List.nodup_cons.mp nd
      have p1 := List.perm_cons_erase ha
      have := ih (l'.erase a) n2 (fun k hk => (List.mem_erase_of_ne (fun z => n1 (by rw [← z]; exact hk))).mpr (sub k (List.mem_cons_of_mem _ hk))) (by
        rw [List.length_erase_of_mem ha]
        rw [List.length_cons] at h
        omega)
      exact (this.cons a).trans p1.symm
  exact go l l' nd (fun k hk => (hm k).mp hk) (by omega)
theorem sorted_setT {a : Addr} {l : List Str} {Q : Value → Shared → Prop} (x : SetT P w s.heap a l) (nd : l.Nodup) (hh : A.handled = none) (hb : l.length < scanBound) (hu : A.units + 66 < cLine)
    (hQ : ∀ s' p (out : Array Value) (c : Nat), (∀ b o, s.heap.get? b = some o → s'.heap.get? b = some o) → s'.gens = s.gens → s'.os = s.os → s.heap.objs.size ≤ p →
      s'.heap.get? p = some (seqObj "list" out c) → Vals ((l.mergeSort leS).map V.str) out.toList → Q (.ref p) s') :
    wpAny (model P w) A (call (.builtin "sorted") [.ref a]) Q E s := by
  obtain ⟨⟨es, ep, t⟩, ho, T, g, hr, hl⟩ := x
  have ho : s.heap.get? a = some { cls := .type "set", data := .set es ep t } := ho
  have hn : es.size = l.length := T.sz
  refine Calls.call_function_entry kind_sorted plain_sorted entry_sorted (args_sorted1 _) ?_
  unfold Builtin.«sorted»
  refine wpAny_bind (m := checkCount "sorted" 1 1 _) (wpAny_pure ?_)
  refine wpAny_bind (collect_set (A := A.in1) hh ⟨_, ho, rfl, rfl⟩ T.fit (by rw [hn]; exact hb) hr hl fun s1 vs k1 hz g1 o1 pm => ?_)
  have hvl : vs.length = l.length := by rw [pm.length_eq, List.length_map, Array.length_toList]; exact hn
  obtain ⟨ks, hks⟩ := strs_of_vals (vs := vs) fun v hv => by
    obtain ⟨e, he, q⟩ := List.mem_map.mp (pm.mem_iff.mp hv)
    obtain ⟨k, tk, h1⟩ := g e he
    exact ⟨k, tk, by rw [← q]; exact h1⟩
  have hkl : ks.length = l.length := by rw [← hks.length]; exact hvl
  have pk : l.Perm ks := perm_of_mem nd (fun k => by
    rw [hks.mem k, T.mem k]
    constructor
    · rintro ⟨e, he, q⟩
      obtain ⟨k', tk, h1⟩ := g e he
      have h2 : (strKind P w).is k' (.str k' tk) = true := is_str k' tk
      rw [h1] at q
      have := (strKind P w).inj _ _ _ q h2
      subst this
      exact ⟨tk, pm.mem_iff.mpr (List.mem_map.mpr ⟨e, he, h1⟩)⟩
    · rintro ⟨tk, h⟩
      obtain ⟨e, he, q⟩ := List.mem_map.mp (pm.mem_iff.mp h)
      exact ⟨e, he, by rw [q]; exact is_str k tk⟩) hkl
  refine wpAny_bind (wpAny_newList ?_ (by rw [hvl, sizeLine_eq]; unfold scanBound at hb; omega))
  have hoL : (s1.heap.push (seqObj "list" vs.toArray 0)).get? s1.heap.objs.size = some (seqObj "list" vs.toArray 0) := Heap.get?_push_size _ rfl
  refine wpAny_bind (wpAny_holding (PySem.W.list_sort_data (enc := PyData.str) (R := fun v b => ∃ t, v = Value.str b t) (bs := ks) hoL hks.each (each_in hks.each fun v b _ ⟨t, e⟩ => ⟨[], by subst e; exact .str b t, by simp⟩) (PySem.W.AllAlike.of fun _ _ => rfl) (PySem.W.Sortable.others fun b => ⟨(fun z => by cases z), (fun xs z => by cases z)⟩)
    (by rw [hkl, sizeLine_eq]; unfold scanBound at hb; omega) (fun b _ => by
      show A.in1.units + 1 + 0 < cLine
      have : A.in1.units ≤ A.units + 8 := by first | exact Nat.le_refl _ | (simp [Around.in1]; done) | (simp; omega)
      omega) fun out hol eo => ?_))
  obtain ⟨c, hc⟩ := sortedHeap_at (vs := vs) (out := out.toArray) hoL
  refine wpAny_pure ⟨_, rfl, hQ _ s1.heap.objs.size out.toArray c (fun b u e => ?_) g1 o1 hz hc ?_⟩
  · have q := k1 b u e
    have hlt := Heap.lt_size q
    show (sortedHeap (s1.heap.push (seqObj "list" vs.toArray 0)) s1.heap.objs.size vs out.toArray).get? b = some u
    rw [sortedHeap_old (Nat.ne_of_lt hlt) (by rw [size_push']; exact Nat.lt_succ_of_lt hlt)]
    exact Heap.get?_push_of_some _ q
  · have e1 : (PySem.W.dataLe false PyData.str) = leS := by
      have := PySem.W.dataLe_str (fun b : Str => b)
      rw [show (PySem.W.dataLe false PyData.str) = PySem.W.dataLe false (fun b : Str => PyData.str b) from rfl, this]
      rfl
    rw [e1, ← sort_perm pk] at eo
    have := each_vals eo
    simpa using this
end
section
variable {X : Cx}
/-- sorted(set(a)), of numbers or of unlike texts -/
def tSortSet2 (K : PySem.W.Frag) (ta : TE) : TE := fun σ H Q => ta σ H fun x H1 => (∃ (l : Addr) (ks : List Int), x = .ref l ∧ SqL K H1 l (ks.map V.int) ∧ ks.length < 64 ∧
    ∀ (ns : List Int) (p : Addr), ns.Pairwise (· < ·) → (∀ k : Int, k ∈ ns ↔ k ∈ ks) → H1 p = none → Q (.ref p) (upd H1 p (.lst (ns.map V.int)))) ∨
  (∃ (l : Addr) (ks : List Str), x = .ref l ∧ SqL K H1 l (ks.map V.str) ∧ ks.length < 4000 ∧ ks.Nodup ∧ ∀ p : Addr, H1 p = none → Q (.ref p) (upd H1 p (.lst ((ks.mergeSort leS).map V.str))))
theorem pe_sortSet2 {a : Expr} {ta : TE} {p p2 q pos : Pos} (hg : Gl X "sorted") (hm : X.mg "sorted" = none) (hg2 : Gl X "set") (hm2 : X.mg "set" = none) (ha : PE X a ta) (hc : X.calm = true) (hu : X.A.units + 66 < cLine)
    (na : starEach [a] X.env = (false, eval a X.env) :: starEach [] X.env) : PE X (.Call (.Name "sorted" p) [.Call (.Name "set" p2) [a] [] q] [] pos) (tSortSet2 X.K ta) := by
  refine ⟨fun pins s σ H Q I h => ?_⟩
  refine Call_ (ld_blt I hg hm (by decide +kernel : bootBuiltins "sorted" = some (.builtin "sorted")) ?_)
  refine PyProof.Rows.callWith_builtin1 (PyProof.Rows.args_cons ?_ rfl) rfl rfl
  refine Call_ (ld_blt I hg2 hm2 boot_set ?_)
  refine PyProof.Rows.callWith_type1 (PyProof.Rows.args_cons (thn (ha.run pins s σ H _ I h) fun v s1 ⟨x, H1, I1, r1, q1⟩ => PyProof.Rows.args_nil ?_) na) na rfl
  rcases q1 with ⟨l, ks, rfl, hq, h64, q1⟩ | ⟨l, ks, rfl, hq, h64, nd, q1⟩
  · cases r1
    obtain ⟨its, r, pl, hz⟩ := I1.list hq
    refine set_of_ints ks (I1.ok.hd hc) pl.isList (by simpa using intsAre_of r) (by unfold scanBound <;> omega) fun h2 tk c S hc2 kp => ?_
    refine PyProof.Rows.args_nil ?_
    have I2 : Inv X pins σ H1 { s1 with heap := h2, toks := tk } := I1.kept fun b o e => kp b o e
    have S' : SetR X.w ({ s1 with heap := h2, toks := tk } : Shared).heap s1.heap.objs.size (fun j => decide (j ∈ ks)) c := S
    clear S kp
    generalize ({ s1 with heap := h2, toks := tk } : Shared) = z2 at I2 S' ⊢
    refine sorted_set S' (I2.ok.hd hc) (by omega) fun z3 p3 out c3 ns k3 gs os pl3 at3 hi hs hm hl => ?_
    have len3 : (ns.map V.int).length ≤ sizeLine := by rw [List.length_map, hl, sizeLine_eq] <;> omega
    have new3 : H1 p3 = none := I2.hok.fresh pl3
    have J : Inv X pins σ (upd H1 p3 (.lst (ns.map V.int))) { z2 with heap := z3.heap, gens := z3.gens, drawn := z3.drawn, toks := z3.toks } :=
      I2.call (ch := []) (Un.laid k3 pl3 new3) (I2.hok.laid k3 pl3 ⟨len3, out.toList, c3, vals_of_ints hi, at3⟩) (by rw [gs] <;> exact I2.bare) (fun _ z => nomatch z)
    have same : z3 = { z2 with heap := z3.heap, gens := z3.gens, drawn := z3.drawn, toks := z3.toks } := by
      cases z3
      cases z2
      cases os
      rfl
    rw [same]
    exact ⟨.ref p3, _, J, rfl, q1 ns p3 hs (fun k => by rw [hm k] <;> exact decide_eq_true_iff) new3⟩
  · cases r1
    obtain ⟨its, r, pl, hz⟩ := I1.list hq
    refine set_of_txts ks (I1.ok.hd hc) pl.isList (by simpa using strsAre_of r) nd (by unfold scanBound <;> omega) fun h2 tk S kp => ?_
    refine PyProof.Rows.args_nil ?_
    have I2 : Inv X pins σ H1 { s1 with heap := h2, toks := tk } := I1.kept fun b o e => kp b o e
    have S' : SetT X.prog X.w ({ s1 with heap := h2, toks := tk } : Shared).heap s1.heap.objs.size ks.reverse := S
    clear S kp
    generalize ({ s1 with heap := h2, toks := tk } : Shared) = z2 at I2 S' ⊢
    refine sorted_setT S' ((List.reverse_perm ks).nodup_iff.mpr nd) (I2.ok.hd hc) (by rw [List.length_reverse]; unfold scanBound; omega) hu fun z3 p3 out c3 k3 gs os pl3 at3 hv => ?_
    rw [sort_perm (List.reverse_perm ks)] at hv
    have len3 : ((ks.mergeSort leS).map V.str).length ≤ sizeLine := by rw [List.length_map, List.length_mergeSort, sizeLine_eq] <;> omega
    have new3 : H1 p3 = none := I2.hok.fresh pl3
    have J : Inv X pins σ (upd H1 p3 (.lst ((ks.mergeSort leS).map V.str))) { z2 with heap := z3.heap, gens := z3.gens, drawn := z3.drawn, toks := z3.toks } :=
      I2.call (ch := []) (Un.laid k3 pl3 new3) (I2.hok.laid k3 pl3 ⟨len3, out.toList, c3, hv, at3⟩) (by rw [gs] <;> exact I2.bare) (fun _ z => nomatch z)
    have same : z3 = { z2 with heap := z3.heap, gens := z3.gens, drawn := z3.drawn, toks := z3.toks } := by
      cases z3
      cases z2
      cases os
      rfl
    rw [same]
    exact ⟨.ref p3, _, J, rfl, q1 p3 new3⟩
end
end RH
set_option maxRecDepth 100000
set_option maxHeartbeats 4000000
/-! xs[a:b] = ys. -/
namespace RH
open PySem PySem.Spec PyProof.Rows L2

theorem bounds_clip (a c n : Nat) : sliceBounds (some (a : Int)) (some (c : Int)) none n = (((min a n : Nat) : Int), ((min c n : Nat) : Int), 1) := by
  have h1 : ¬ ((a : Int) < 0) := by omega
  have h2 : ¬ ((c : Int) < 0) := by omega
  simp only [sliceBounds, Option.getD_none, h1, h2, if_false, show (1 : Int) > 0 by decide, if_true]
  refine Prod.ext ?_ (Prod.ext ?_ rfl)
  · show max 0 (min (a : Int) n) = ((min a n : Nat) : Int)
    omega
  · show max 0 (min (c : Int) n) = ((min c n : Nat) : Int)
    omega
section
variable {prog : Program} {w : World} {A : Around} {E : Value → Shared → Prop} {s : Shared}
theorem set_cut {l b sl : Addr} {its new : Array Value} {n n2 : Nat} {vl vu : Value} {a c : Nat} {Q : Unit → Shared → Prop} (e : s.heap.get? l = some { cls := .type "list", data := .seq its n }) (e2 : s.heap.get? b = some { cls := .type "list", data := .seq new n2 }) (hne : l ≠ b)
    (hs : s.heap.IsSliceOf sl vl vu .none) (pl : IsPart vl (some (a : Int))) (pu : IsPart vu (some (c : Int))) (hac : a ≤ c) (few : its.size + new.size ≤ sizeLine)
    (out : Q () { s with heap := s.heap.update l (Obj.mapSeq fun xs => xs.extract 0 (min a its.size) ++ new ++ xs.extract (min c its.size) xs.size) }) :
    wpAny (model prog w) A (setItem (.ref l) (.ref sl) (.ref b)) Q E s := by
  have t1 : s.heap.IsList l its := PySem.IsL.isList e
  have t2 : s.heap.IsList b new := PySem.IsL.isList e2
  obtain ⟨os, q1, q2, q3⟩ := id hs
  have t3 : s.TypeIs (.ref sl) "slice" := ⟨os, q1, q2⟩
  have k1 : ¬ ((rawPart none == rawInt 0) = true) := Bool.false_ne_true
  have k2 : Builtin.List.listSameRef (.ref l) (.ref b) = false := beq_eq_false_iff_ne.mpr hne
  have k3 : (max ((min a its.size : Nat) : Int) ((min c its.size : Nat) : Int)).toNat = min c its.size := by omega
  have k4 : ((fun xs : Array Value => xs.extract 0 (min a its.size) ++ new ++ xs.extract (min c its.size) xs.size) its).size ≤ sizeLine + 1 := by
    simp only [Array.size_append, Array.size_extract] <;> omega
  unfold setItem
  try with_reducible refine wpAny_holding ?_
  first | refine wpAny_bind (wpAny_pure ?_) | skip
  refine wpAny_bind (wpAny_sequenceKey t1.typeIs (by decide) ?_)
  refine wpAny_bind (wpAny_callSpecial?_slot (name := Str.ofString "__setitem__") t1.typeIs slot_list_setitem (wpAny_call_entry slot_list_setitem t1.typeIs entry_list_setitem ?_ (args_list_setitem _ _ _)))
  show wpAny _ _ (Builtin.List.listSubscript? (.ref sl) >>= _) _ _ s <;> refine wpAny_bind ?_
  unfold Builtin.List.listSubscript?
  refine wpAny_bind (wpAny_specialOf t3 slice_no_index ?_)
  simp only [Option.isNone_none, if_true] <;> refine wpAny_pure ?_
  show wpAny _ _ (typeOf (.ref sl) >>= _) _ _ s <;> refine wpAny_bind (wpAny_typeOf t3 ?_)
  first
    | rw [if_neg (by decide)]
    | refine PySem.W.KFB.if_not (by decide) ?_
  rw [listSliceParts_eq]
  refine wpAny_bind (wpAny_bind (wpAny_field q1 q3 (x := .none) rfl (wpAny_bind (wpAny_listPart .none ?_)))) <;> rw [if_neg k1]
  refine wpAny_bind (wpAny_field q1 q3 (x := vl) rfl (wpAny_bind (wpAny_listPart pl ?_)))
  refine wpAny_bind (wpAny_field q1 q3 (x := vu) rfl (wpAny_bind (wpAny_listPart pu (wpAny_pure ?_))))
  first
    | simp only [k2, Bool.false_eq_true, if_false]
    | refine PySem.W.KFB.if_not k2 ?_
    | (dsimp only
       rw [if_neg (by rw [k2]; exact Bool.false_ne_true)])
  refine wpAny_bind (m := Builtin.List.listAllItems (.ref b) "must assign iterable to extended slice") ?_ <;> unfold Builtin.List.listAllItems
  refine wpAny_bind (wpAny_typeOf t2.typeIs ?_)
  first
    | refine PySem.W.KFB.if_so (by decide) ?_
    | rw [if_pos (by decide)]
    | simp only [beq_self_eq_true, Bool.true_or, if_true]
  unfold Builtin.List.listItems
  refine wpAny_bind (wpAny_seqItems e2 rfl (wpAny_pure ?_)) <;> refine wpAny_bind (wpAny_bind (wpAny_seqItems e rfl (wpAny_pure ?_)))
  refine wpAny_bind (wpAny_of_eq ((sliceIndices_raw (some (a : Int)) (some (c : Int)) none its.size (by simp)).trans (congrArg (pure : Int × Int × Int → Sem (Int × Int × Int)) (bounds_clip a c its.size))) ?_)
  show wpAny _ _ (if ((1 : Int) == 1) = true then _ else _) _ _ s <;> rw [if_pos (by decide)]
  refine wpAny_bind (wpAny_rule ?_)
  first
    | simp only [notLongL few, Bool.false_eq_true, if_false]
    | refine PySem.W.KFB.if_not (notLongL few) ?_
  first | refine wpAny_bind (wpAny_pure ?_) | skip
  show wpAny _ _ (updateSeq l (fun xs => xs.extract 0 ((min a its.size : Nat) : Int).toNat ++ new ++ xs.extract (max ((min a its.size : Nat) : Int) ((min c its.size : Nat) : Int)).toNat xs.size) >>= _) _ _ s
  rw [k3, Int.toNat_natCast]
  refine wpAny_bind (wpAny_updateSeq (hz := Nat.le_trans (Nat.le_add_right _ _) few) (_hz' := k4) e rfl ?_) <;> refine wpAny_bind (wpAny_letGo ?_)
  first
    | exact wpAny_bind (wpAny_pure (wpAny_pure ⟨.none, rfl, wpAny_pure out⟩))
    | exact wpAny_pure ⟨.none, rfl, wpAny_pure out⟩
end
section
variable {X : Cx}
/-- xs[a:c] = ys, 0 ≤ a ≤ c, ys another list -/
theorem set_cutR {pins : List (Addr × Obj)} {s : Shared} {σ : L2.St} {H : Hp} {l b sl : Addr} {xs ys : List V} {a c : Int} {vl vu : Value} {Q : Unit → Shared → Prop} (I : Inv X pins σ H s) (hH : H l = some (.lst xs)) (hB : Rd H b (.lst ys)) (hne : l ≠ b)
    (hs : s.heap.IsSliceOf sl vl vu .none) (pl : IsPart vl (some a)) (pu : IsPart vu (some c)) (h0 : 0 ≤ a) (hac : a ≤ c) (few : xs.length + ys.length ≤ sizeLine)
    (out : ∀ s', Inv X pins σ (upd H l (.lst (xs.take a.toNat ++ ys ++ xs.drop c.toNat))) s' → Q () s') : wpAny (model X.prog X.w) X.A (setItem (.ref l) (.ref sl) (.ref b)) Q X.xe s := by
  obtain ⟨z, its, n, r, hl, e⟩ := I.lstM hH
  obtain ⟨its2, n2, z2, r2, hl2, e2⟩ := rd_list I hB
  obtain ⟨i, rfl⟩ := Int.eq_ofNat_of_zero_le h0
  obtain ⟨j, rfl⟩ := Int.eq_ofNat_of_zero_le (Int.le_trans h0 hac)
  simp only [Int.toNat_natCast] at out
  have cut1 : xs.take i = xs.take (min i xs.length) := by
    rcases Nat.le_total i xs.length with q | q
    · rw [Nat.min_eq_left q]
    · rw [Nat.min_eq_right q, List.take_of_length_le q, List.take_length]
  have cut2 : xs.drop j = xs.drop (min j xs.length) := by
    rcases Nat.le_total j xs.length with q | q
    · rw [Nat.min_eq_left q]
    · rw [Nat.min_eq_right q, List.drop_of_length_le q, List.drop_length]
  rw [cut1, cut2] at out
  refine set_cut (a := i) (c := j) e e2 hne hs pl pu (by omega) (by rw [List.size_toArray, List.size_toArray] <;> omega) (out _ ?_)
  rw [List.size_toArray, ← hl]
  refine I.lset (its' := its.take (min i xs.length) ++ its2 ++ its.drop (min j xs.length)) (t' := s.toks) hH e ?_ (Vals.append (Vals.append (r.take _) r2) (r.drop _)) ?_
  · exact splice_eq its its2 _ _
  · rw [List.length_append, List.length_append, List.length_take, List.length_drop]
    omega
/-- the target o[lo:hi] -/
def gCut (to : TE) (tl th : TO) : TG := fun v σ H Q => to σ H fun o H1 => tl σ H1 fun x H2 => th σ H2 fun y H3 => ∃ (l b : Addr) (xs ys : List V) (a c : Int), o = .ref l ∧ v = .ref b ∧ x = some a ∧ y = some c ∧ H3 l = some (.lst xs) ∧ Rd H3 b (.lst ys) ∧ l ≠ b ∧ 0 ≤ a ∧ a ≤ c ∧ xs.length + ys.length ≤ sizeLine ∧
  Q σ (upd H3 l (.lst (xs.take a.toNat ++ ys ++ xs.drop c.toNat)))
theorem pg_cut {o : Expr} {lo hi : Option Expr} {to : TE} {tl th : TO} {p2 pos : Pos} (ho : PE X o to) (hl : PO X lo tl) (hu : PO X hi th) : PG X (.Subscript o (.Slice lo hi none p2) pos) (gCut to tl th) := by
  refine ⟨fun pins s σ H v u Q I r h => ?_⟩
  rw [show assign (.Subscript o (.Slice lo hi none p2) pos) X.env u = (do
      let ov ← holding [u] (eval o X.env)
      let iv ← holding [u, ov] (eval (.Slice lo hi none p2) X.env)
      standAt pos
      holding [u, ov, iv] (setItem ov iv u)
      release [iv, u, ov] []) from rfl]
  refine wpAny_bind (wpAny_holding (thn (ho.run pins s σ H _ I h) fun ov s1 ⟨x, H1, I1, r1, q1⟩ => ?_))
  refine wpAny_bind (wpAny_holding (wpAny_Slice (thn (hl.run pins s1 σ H1 _ I1 q1) fun vl s2 ⟨x1, H2, I2, pl, q2⟩ => thn (hu.run pins s2 σ H2 _ I2 q2) fun vu s3 ⟨x2, H3, I3, pu, q3⟩ => ?_)))
  rw [evalPart_none]
  refine wpAny_pure ?_
  have I4 : Inv X pins σ H3 { s3 with heap := s3.heap.push { cls := .type "slice", data := .fields #[vl, vu, .none] } } := I3.kept (t' := s3.toks) fun b ob q => Heap.get?_push_of_some _ q
  obtain ⟨l, b, xs, ys, a, c, rfl, rfl, rfl, rfl, g1, g2, g3, g4, g5, g6, q⟩ := q3
  cases r1
  cases r
  refine wpAny_bind (wpAny_standAt (wpAny_bind (wpAny_holding (set_cutR I4 g1 g2 g3 (Heap.IsSliceOf.new ..) pl pu g4 g5 g6 fun s5 I5 => ?_))))
  exact wpAny_release ⟨σ, _, I5, q⟩
end
end RH
set_option maxRecDepth 100000
set_option maxHeartbeats 4000000
/-! Expressions, part 2: operations. -/
namespace RH
open PySem PySem.Spec L2

section
variable {C : Str → Option D} {Γ : Str → Option FD} {n : Nat} {X : Cx} {W : WX} {c : CC} {cf : Str → List SV → RF}

theorem binOf_ok {op : Operator} {o : Op} (h : binOf op = some o) : OpR X (binaryOp op) (rb X o) := by
  cases op <;> simp only [binOf, Option.some.injEq, reduceCtorEq] at h <;> subst h
  · exact ok_add
  · exact ok_sub
  · exact ok_mul
  · exact ok_mod
  · exact ok_pow
  · exact ok_fdiv
theorem cmpOf_ok (hr : Room n X.A) {op : CmpOp} {o : Op} (h : cmpOf op = some o) : OpR X (compareOp op) (rb X o) := by
  have hu := hr.units
  have hu2 : X.A.units + 65 < cLine := by
    have := hr.un
    omega
  cases op <;> simp only [cmpOf, Option.some.injEq, reduceCtorEq] at h <;> subst h
  · exact ok_eq hu
  · exact ok_ne hu
  · exact ok_lt
  · exact ok_le
  · exact ok_gt
  · exact ok_ge
  · exact ok_isin hu2
  · exact ok_notin hu2
theorem no_call {f : Value} {o : Op} (h : ∀ ds, opD o ds = none) : CallR X f (rc X o) := by
  intro pins s σ H xs us Q I r q
  obtain ⟨F, ds, sv, _, _, e, _⟩ := q
  rw [h] at e; cases e
theorem bltOf_ok (hc : X.calm = true) (hu : X.A.units + 66 < cLine) {f : Str} {k : Nat} {o : Op} (h : bltOf f k = some o) : f ∈ blts ∧ f ≠ "__name__" ∧ ∃ id, bootBuiltins f = some (.builtin id) ∧ CallR X (.builtin id) (rc X o) := by
  unfold bltOf at h
  split at h
  · repeat' split at h
    all_goals first | (cases h; done) | skip
    all_goals (subst_vars; cases h)
    · exact ⟨by decide, by decide, "len", by decide +kernel, ok_len⟩
    · exact ⟨by decide, by decide, "abs", by decide +kernel, ok_abs⟩
    · exact ⟨by decide, by decide, "sum", by decide +kernel, ok_sum hc⟩
    · exact ⟨by decide, by decide, "all", by decide +kernel, ok_all hc⟩
    · exact ⟨by decide, by decide, "any", by decide +kernel, ok_any hc⟩
    · exact ⟨by decide, by decide, "sorted", by decide +kernel, ok_sorted hu⟩
    · exact ⟨by decide, by decide, "max", by decide +kernel, ok_maxL hc⟩
    · exact ⟨by decide, by decide, "min", by decide +kernel, ok_minL hc⟩
  · repeat' split at h
    all_goals first | (cases h; done) | skip
    all_goals (subst_vars; cases h)
    · exact ⟨by decide, by decide, "min", by decide +kernel, ok_min2 hc⟩
    · exact ⟨by decide, by decide, "max", by decide +kernel, ok_max2 hc⟩
    · exact ⟨by decide, by decide, "divmod", by decide +kernel, ok_divmod⟩
  · cases h
theorem tyOf_ok {f : Str} {k : Nat} {o : Op} (h : tyOf f k = some o) : f ∈ blts ∧ f ≠ "__name__" ∧ ∃ T, bootBuiltins f = some (.type T) ∧ CallR X (.type T) (rc X o) := by
  unfold tyOf at h
  split at h
  · repeat' split at h
    all_goals first | (cases h; done) | skip
    all_goals (subst_vars; cases h)
    · exact ⟨by decide, by decide, "list", by decide +kernel, ok_list⟩
    · exact ⟨by decide, by decide, "tuple", by decide +kernel, ok_tuple⟩
    · exact ⟨by decide, by decide, "int", by decide +kernel, ok_int⟩
    · exact ⟨by decide, by decide, "str", by decide +kernel, ok_str⟩
  · cases h
theorem plainIx_ok {b : Expr} (h : plainIx b = true) : PlainIx b := by
  cases b <;> first | (exact fun _ _ => rfl) | (simp [plainIx] at h)
theorem noSet_mark {op : CmpOp} {q : Expr} (h : (match q with | .Set .. => false | _ => true) = true) : behindInMarks op q = false := by
  cases q <;> first | rfl | (simp at h)

/-- isinstance -/
theorem Rt.tyX {K : KW} {F : Addr → Prop} {H : Hp} {v : V} {d : D} (h : Rt K F H v d) : (∃ t, TyX K H v (.type t) ∧ ∀ T : Ty, PySem.W.kitOne K (.type t) (.type (match T with | .int => "int" | .bool => "bool" | .str => "str" | .tuple => "tuple" | .list => "list")) = some (dTy d T)) ∨ ∃ a L, v = .ref a ∧ Rd H a (DN K.w a L) ∧ ∀ T : Ty, PySem.W.kitOne K (.type "dict") (.type (match T with | .int => "int" | .bool => "bool" | .str => "str" | .tuple => "tuple" | .list => "list")) = some (dTy d T) := by
  have tup : ∀ {a : Addr} {vs : List V}, SqT K H a vs → TyX K H (.ref a) (.type "tuple") := fun {a vs} s => by
    rcases s with (s | ⟨o, s⟩) | ⟨o, its, k, e, hc, _⟩
    · exact .base (.tup s)
    · exact .fTuple s
    · exact .kTuple e hc
  have lst : ∀ {a : Addr} {vs : List V}, Rd H a (.lst vs) → TyX K H (.ref a) (.type "list") := fun {a vs} s => by
    rcases s with s | ⟨o, s⟩
    · exact .base (.lst s)
    · exact .base (.frz s)
  have dct : ∀ {a : Addr} {vs : List (Key × V)}, Rd H a (.dK vs) → TyX K H (.ref a) (.type "dict") := fun {a vs} s => by
    rcases s with s | ⟨o, s⟩
    · exact .base (.dK s)
    · exact .fDict s
  cases d with
  | none => cases h.none_; exact .inl ⟨_, .base .non, fun T => by cases T <;> rfl⟩
  | bool b => cases h.bool; exact .inl ⟨_, .base (.bl b), fun T => by cases T <;> rfl⟩
  | int i => cases h.int; exact .inl ⟨_, .base (.int i), fun T => by cases T <;> rfl⟩
  | str x => cases h.str; exact .inl ⟨_, .base (.str x), fun T => by cases T <;> rfl⟩
  | tuple ds => obtain ⟨a, vs, rfl, s, _⟩ := h.tup; exact .inl ⟨_, tup s, fun T => by cases T <;> rfl⟩
  | list ds => obtain ⟨a, vs, rfl, s, _⟩ := h.lst; exact .inl ⟨_, lst s, fun T => by cases T <;> rfl⟩
  | dict ds =>
    obtain ⟨a, rfl, ⟨vs, s, _⟩ | ⟨L, s, _, _⟩⟩ := h.dct
    · exact .inl ⟨_, dct s, fun T => by cases T <;> rfl⟩
    · exact .inr ⟨a, L, rfl, s, fun T => by cases T <;> rfl⟩

theorem mts_two {a b : ME} {p q : Expr} (h : mts c (.cons a (.cons b .nil)) [p, q] = true) : mt c a p = true ∧ mt c b q = true := by
  obtain ⟨_, _, e1, h1, _, h2⟩ := mts_cons h
  cases e1
  obtain ⟨_, _, e2, h3, _, _⟩ := mts_cons h2
  cases e2
  exact ⟨h1, h3⟩
theorem tT_tE {m : ME} {σ : L2.St} {H : Hp} {Q : Bool → Hp → Prop} (q : tT X W (evB C cf m) σ H Q) : tE X W (evV C cf m) σ H fun x H' => ∃ k, x = .bl k ∧ Q k H' := by
  obtain ⟨F, σd, er, po⟩ := q
  refine ⟨F, σd, er, ?_⟩
  unfold evB at po
  cases e1 : evV C cf m σd with
  | bad => rw [e1] at po; exact po
  | exc c s => rw [e1] at po; exact po
  | ok p =>
    rw [e1, R.bind_ok] at po
    intro F1 H1 v n1 r1
    cases e2 : asB p.1 with
    | none => rw [e2] at po; exact po.elim
    | some t =>
      rw [e2, ofOpt_some, R.bind_ok] at po
      exact ⟨t, r1.bool e2, po F1 H1 n1⟩
/-- operands, the value of a constant behind them -/
theorem tO_cst {d : D} {v : V} (r : ∀ F H, Rp X.kw F H v d) {σ : L2.St} {H : Hp} {Q : VK} (h : tO X W (evA1 C cf (.cst d)) σ H Q) : Q v H := by
  obtain ⟨F, σd, er, po⟩ := h
  exact po F H v (Nx.refl er) (r F H)
theorem tO_mono {m : ME} {σ : L2.St} {H : Hp} {Q Q' : VK} (h : tO X W (evA1 C cf m) σ H Q) (i : ∀ v H, Q v H → Q' v H) : tO X W (evA1 C cf m) σ H Q' := by
  obtain ⟨F, σd, er, po⟩ := h
  refine ⟨F, σd, er, ?_⟩
  revert po
  cases evA1 C cf m σd with
  | bad => exact id
  | exc c s => exact id
  | ok p => exact fun po F1 H1 v n1 r1 => i _ _ (po F1 H1 v n1 r1)
/-- a bound of a slice -/
theorem slPart {K : KW} {F : Addr → Prop} {H : Hp} {v : V} {d : D} (h : Rt K F H v d) {i : Int} (e : d = .int i) : v = .int i := by
  subst e; exact h.int
/-- three operands -/
theorem op3 {o : Op} {a b d : ME} {σ : L2.St} {H : Hp} {Q : VK} (h : tE X W (evV C cf (.op o (.cons a (.cons b (.cons d .nil))))) σ H Q) :
    tO X W (evA1 C cf a) σ H fun x H1 => tO X W (evA1 C cf b) σ H1 fun y H2 => tO X W (evA1 C cf d) σ H2 fun w H3 => rO X o [x, y, w] H3 Q :=
  tO_mono (tAs_cons (opAs h)) fun _ _ h1 => tO_mono (tAs_cons h1) fun _ _ h2 => tO_mono (tAs_cons h2) fun _ _ h3 => tAs_nil h3
theorem cmp_both {a b : Expr} {op : CmpOp} {r : R2} {ta tb : TE} {m : ME} {pos : Pos} (ho : OpR X (compareOp op) r) (ha : PE X a ta) (hb : PE X b tb) (hm : behindInMarks op b = false)
    (key : ∀ σ H Q, tE X W (evV C cf m) σ H Q → tOp r ta tb σ H Q) : PE X (.Compare a [op] [b] pos) (tE X W (evV C cf m)) ∧ PT X (.Compare a [op] [b] pos) (tT X W (evB C cf m)) :=
  ⟨PEimp (pe_cmpR ho ha hb hm) key, PTimp (pt_cmpR ho ha hb hm) fun σ H Q q => key σ H _ (tT_tE q)⟩
theorem val_both {m : ME} {e : Expr} (h : PE X e (tE X W (evV C cf m))) (he : ∀ whole, isTrue e X.env whole = (do let v ← whole; standAt e.pos; holding [v] (truthy v))) :
    PE X e (tE X W (evV C cf m)) ∧ PT X e (tT X W (evB C cf m)) := ⟨h, pt_of h he⟩
theorem isi_dn : CallR X (.builtin "isinstance") (fun xs H Q => ∃ (a : Addr) (L : List (NestedKey × Addr × V)) (c : V) (u : Value) (b : Bool), xs = [.ref a, c] ∧ ClsV c u ∧ Rd H a (DN X.w a L) ∧ PySem.W.kitOne X.K (.type "dict") u = some b ∧ Q (.bl b) H) := by
  intro pins s σ H xs us Q I r h
  obtain ⟨a, L, c, u, b, rfl, k, ea, e, q⟩ := h
  obtain ⟨u1, u2, rfl, r1, r2⟩ := vals2 r
  have e2 := k.eq r2
  subst e2
  cases (show u1 = Value.ref a from r1)
  obtain ⟨_, _, xs, _, o, es, ep, h1, h2, _⟩ := dn_rd I ea
  exact PySem.W.kia_one PySem.W.kitx_dict I.kIn ⟨o, h1, h2.1⟩ e (fun z => nomatch z) fun tk => ⟨.bl b, H, I.tok tk, rfl, q⟩
theorem isi_call (t : Ty) : CallR X (.builtin "isinstance") (fun xs H Q => ∃ x, xs = [x, .ty (match t with | .int => "int" | .bool => "bool" | .str => "str" | .tuple => "tuple" | .list => "list")] ∧ rO X (.isinst t) [x] H Q) := by
  refine ct_eq (call_or call_isi isi_dn) fun xs H Q h => ?_
  obtain ⟨x, rfl, F, ds, sv, fd, rt, e0, q⟩ := h
  have e : dIsi t ds = some sv := e0
  clear e0
  match ds, e with
  | [d], e =>
    obtain ⟨_, z, h1⟩ := rt.one
    cases z; cases e
    rcases h1.tyX with ⟨ty, g1, g2⟩ | ⟨a, L, rfl, g1, g2⟩
    · exact .inl ⟨x, _, _, _, _, rfl, .ty _, g1, g2 t, wHere q (.bl _)⟩
    · exact .inr ⟨a, L, _, _, _, rfl, .ty _, g1, g2 t, wHere q (.bl _)⟩
theorem tyNm_boot (t : Ty) : bootBuiltins (tyNm t) = some (.type (match t with | .int => "int" | .bool => "bool" | .str => "str" | .tuple => "tuple" | .list => "list")) ∧ tyNm t ∈ blts ∧ tyNm t ≠ "__name__" := by
  cases t <;> exact ⟨by decide +kernel, by decide, by decide⟩
theorem rps_rg {K : KW} {F : Addr → Prop} {H : Hp} (a b : Int) : Rps K F H (rgV a b) (rgD a b) := by
  unfold rgV rgD
  generalize List.range (b - a).toNat = l
  induction l with
  | nil => exact .nil
  | cons x l ih => exact .cons (.int _) ih
theorem lrng_ok {F : Addr → Prop} {H : Hp} {a b : Int} {sv : SV} {Q : VK} (fd : ∀ a, F a → H a ≠ none) (e : dLrng a b = some sv) (q : Want X F H sv Q) : RgOk a b ∧ ∀ p, H p = none → Q (.ref p) (upd H p (.lst (rgV a b))) := by
  unfold dLrng at e
  obtain ⟨c, e⟩ := ite_none e
  cases e
  simp only [i62, Bool.and_eq_true, decide_eq_true_eq] at c
  obtain ⟨⟨⟨c1, c2⟩, c3, c4⟩, c5⟩ := c
  exact ⟨⟨c1, c2, c3, c4, by omega⟩, fun p hp => wLst fd q (rps_rg a b) hp⟩
theorem rps_strsE {K : KW} {F : Addr → Prop} {H : Hp} : ∀ (ns : List Str), Rps K F H (ns.map V.str) (ns.map PyData.str)
  | [] => .nil
  | n :: r => .cons (.str n) (rps_strsE r)
theorem rps_strs {K : KW} {F : Addr → Prop} {H : Hp} : ∀ {ds : List D} {vs : List V} {l : List Str}, Rps K F H vs ds → strs? ds = some l → vs = l.map V.str
  | [], _, l, h, e => by cases h; cases e; rfl
  | d :: ds, _, l, h, e => by
    cases d with
    | str x =>
      obtain ⟨l', e1, rfl⟩ := Option.map_eq_some_iff.mp (show (strs? ds).map (x :: ·) = some l from e)
      cases h with
      | cons a b => cases a; rw [rps_strs b e1]; rfl
    | _ => cases e
theorem rps_intsE {K : KW} {F : Addr → Prop} {H : Hp} : ∀ (ns : List Int), Rps K F H (ns.map V.int) (ns.map PyData.int)
  | [] => .nil
  | n :: r => .cons (.int n) (rps_intsE r)
theorem insI_mem {k j : Int} : ∀ {l : List Int}, j ∈ insI k l ↔ j = k ∨ j ∈ l
  | [] => by simp [insI]
  | x :: l => by
    unfold insI
    split
    · simp
    · split
      · rename_i e; subst e; simp
      · rw [List.mem_cons, insI_mem, List.mem_cons]
        constructor
        · rintro (a | a | a) <;> simp [a]
        · rintro (a | a | a) <;> simp [a]
theorem insI_lt {k : Int} : ∀ {l : List Int}, l.Pairwise (· < ·) → (insI k l).Pairwise (· < ·)
  | [], _ => by simp [insI]
  | x :: l, h => by
    obtain ⟨h1, h2⟩ := List.pairwise_cons.mp h
    unfold insI
    split
    · rename_i q
      exact List.pairwise_cons.mpr ⟨fun y hy => by
        rcases List.mem_cons.mp hy with e | e
        · rw [e]; exact q
        · exact Int.lt_trans q (h1 y e), h⟩
    · split
      · exact h
      · exact List.pairwise_cons.mpr ⟨fun y hy => by
          rcases insI_mem.mp hy with e | e
          · rw [e]; omega
          · exact h1 y e, insI_lt h2⟩
theorem isort_mem {j : Int} : ∀ {l : List Int}, j ∈ isort l ↔ j ∈ l
  | [] => by simp [isort]
  | x :: l => by
    show j ∈ insI x (isort l) ↔ _
    rw [insI_mem, isort_mem, List.mem_cons]
theorem isort_lt : ∀ {l : List Int}, (isort l).Pairwise (· < ·)
  | [] => .nil
  | x :: l => insI_lt (isort_lt (l := l))
theorem lt_ext : ∀ {ns ms : List Int}, ns.Pairwise (· < ·) → ms.Pairwise (· < ·) → (∀ k, k ∈ ns ↔ k ∈ ms) → ns = ms
  | [], [], _, _, _ => rfl
  | [], m :: ms, _, _, h => absurd ((h m).mpr List.mem_cons_self) (by simp)
  | n :: ns, [], _, _, h => absurd ((h n).mp List.mem_cons_self) (by simp)
  | n :: ns, m :: ms, a, b, h => by
    obtain ⟨a1, a2⟩ := List.pairwise_cons.mp a
    obtain ⟨b1, b2⟩ := List.pairwise_cons.mp b
    have e : n = m := by
      rcases List.mem_cons.mp ((h n).mp List.mem_cons_self) with z | z
      · exact z
      · rcases List.mem_cons.mp ((h m).mpr List.mem_cons_self) with y | y
        · exact y.symm
        · have := b1 n z
          have := a1 m y
          omega
    subst e
    rw [lt_ext a2 b2 fun k => ?_]
    constructor
    · intro hk
      rcases List.mem_cons.mp ((h k).mp (List.mem_cons_of_mem _ hk)) with z | z
      · have := a1 k hk; omega
      · exact z
    · intro hk
      rcases List.mem_cons.mp ((h k).mpr (List.mem_cons_of_mem _ hk)) with z | z
      · have := b1 k hk; omega
      · exact z
theorem isort_eq {ns ks : List Int} (h : ns.Pairwise (· < ·)) (m : ∀ k : Int, k ∈ ns ↔ k ∈ ks) : ns = isort ks := lt_ext h isort_lt fun k => (m k).trans isort_mem.symm
theorem step_op (o : Op) (es : MEs) (ok : AllOk C Γ n es) : EOk C Γ n (.op o es) := fun c e X W x h => by
  have hr := x.room
  have hu : X.A.units + 1 < cLine := hu_of hr
  unfold mt at h
  split at h
  -- is None
  · obtain ⟨oa, _⟩ := ok
    exact cmp_both (r := fun x y H Q => y = .non ∧ rO X .isN [x] H Q) ok_isN (pe_A1 x oa h) pe_non (nomark _) fun σ H Q q => tO_mono (op1 q) fun v H1 z => ⟨rfl, z⟩
  · obtain ⟨oa, _⟩ := ok
    exact cmp_both (r := fun x y H Q => y = .non ∧ rO X .notN [x] H Q) ok_notN (pe_A1 x oa h) pe_non (nomark _) fun σ H Q q => tO_mono (op1 q) fun v H1 z => ⟨rfl, z⟩
  -- is True
  · obtain ⟨oa, ob, _⟩ := ok
    simp only [Bool.and_eq_true] at h
    exact cmp_both ok_isB (pe_A1 x oa h.1) (pe_A1 x ob h.2) (nomark _) fun σ H Q q => op2 q
  · obtain ⟨oa, ob, _⟩ := ok
    simp only [Bool.and_eq_true] at h
    exact cmp_both ok_notB (pe_A1 x oa h.1) (pe_A1 x ob h.2) (nomark _) fun σ H Q q => op2 q
  -- minus
  · obtain ⟨oa, _⟩ := ok
    exact val_both (PEimp (pe_un ok_neg (pe_A1 x oa h)) fun σ H Q q => op1 q) fun _ => rfl
  -- isinstance
  · rename_i t a pf p ty pt pos
    obtain ⟨oa, _⟩ := ok
    simp only [Bool.and_eq_true, decide_eq_true_eq] at h
    obtain ⟨⟨⟨⟨h1, h2⟩, rfl⟩, h3⟩, h4⟩ := h
    obtain ⟨g1, g2⟩ := isGl_gl x h1
    obtain ⟨k1, k2⟩ := isGl_gl x h2
    obtain ⟨b1, b2, b3⟩ := tyNm_boot t
    refine val_both (PEimp (pe_callB (isi_call t) g1 (x.tab.blt _ (by decide)) (by decide +kernel) (pa_cons (pe_A1 x oa h3) (pa_cons (pe_bltn (v := .ty _) k1 (x.tab.blt _ b2) b1 rfl b3 k2) pa_nil) (star_cons h4)) (by decide) g2 (star_cons h4) rfl) fun σ H Q q => ?_) fun _ => rfl
    exact tO_mono (op1 q) fun v H1 z => ⟨v, rfl, z⟩
  -- list(range(b))
  · rename_i a pf pf2 p pos2 pos
    obtain ⟨oa, _⟩ := ok
    simp only [Bool.and_eq_true] at h
    obtain ⟨⟨⟨h1, h2⟩, h3⟩, h4⟩ := h
    obtain ⟨g1, _⟩ := isGl_gl x h1
    obtain ⟨k1, _⟩ := isGl_gl x h2
    refine val_both (PEimp (pe_listRg x.calm g1 (x.tab.blt _ (by decide)) (prg_1 k1 (x.tab.blt _ (by decide)) (pe_A1 x oa h3) (star_cons h4))) fun σ H Q q => ?_) fun _ => rfl
    refine tO_mono (op1 q) fun v H1 z => ?_
    obtain ⟨F, ds, sv, fd, rt, e0, q⟩ := z
    have e : dLrng1 ds = some sv := e0
    clear e0
    match ds, e with
    | [.int b], e =>
      obtain ⟨_, z, h1⟩ := rt.one
      cases z
      cases h1.int
      exact ⟨b, rfl, lrng_ok fd e q⟩
  -- list(range(a, b))
  · rename_i a b pf pf2 p1 p2 pos2 pos
    obtain ⟨oa, ob, _⟩ := ok
    simp only [Bool.and_eq_true] at h
    obtain ⟨⟨⟨⟨⟨h1, h2⟩, h3⟩, h4⟩, h5⟩, h6⟩ := h
    obtain ⟨g1, _⟩ := isGl_gl x h1
    obtain ⟨k1, _⟩ := isGl_gl x h2
    refine val_both (PEimp (pe_listRg x.calm g1 (x.tab.blt _ (by decide)) (prg_2 k1 (x.tab.blt _ (by decide)) (pe_A1 x oa h3) (pe_A1 x ob h4) (star_cons h5) (star_cons h6) (star_any fun q hq => by simp at hq; subst hq; exact h6))) fun σ H Q q => ?_) fun _ => rfl
    refine tO_mono (tAs_cons (opAs q)) fun v H1 z => tO_mono (tAs_cons z) fun v2 H2 z => ?_
    obtain ⟨F, ds, sv, fd, rt, e0, q⟩ := tAs_nil z
    have e : dLrng2 ds = some sv := e0
    clear e0
    match ds, e with
    | [.int b, .int d], e =>
      obtain ⟨_, _, z, h1, h2⟩ := rt.two
      cases z
      cases h1.int
      cases h2.int
      exact ⟨b, d, rfl, rfl, lrng_ok fd e q⟩
  -- sorted(set(a))
  · rename_i a pf pf2 p pos2 pos
    obtain ⟨oa, _⟩ := ok
    simp only [Bool.and_eq_true] at h
    obtain ⟨⟨⟨h1, h2⟩, h3⟩, h4⟩ := h
    obtain ⟨g1, _⟩ := isGl_gl x h1
    obtain ⟨k1, _⟩ := isGl_gl x h2
    refine val_both (PEimp (pe_sortSet2 g1 (x.tab.blt _ (by decide)) k1 (x.tab.blt _ (by decide)) (pe_A1 x oa h3) x.calm (by have := x.room.un; omega) (star_cons h4)) fun σ H Q q => ?_) fun _ => rfl
    refine tO_mono (op1 q) fun v H1 z => ?_
    obtain ⟨F, ds, sv, fd, rt, e0, q⟩ := z
    have e : dSortSet ds = some sv := e0
    clear e0
    match ds, e with
    | [.list l], e =>
      obtain ⟨_, z, h1⟩ := rt.one
      cases z
      obtain ⟨a, vs, rfl, t, r⟩ := h1.lst
      simp only [dSortSet] at e
      cases e1 : ints? l with
      | some ks =>
        rw [e1] at e
        dsimp only at e
        obtain ⟨h64, e2⟩ := ite_none e
        cases e2
        cases r.ints e1
        refine .inl ⟨a, ks, rfl, .inl t, h64, fun ns p hs hm hp => ?_⟩
        cases isort_eq hs hm
        exact wLst fd q (rps_intsE _) hp
      | none =>
        rw [e1] at e
        dsimp only at e
        obtain ⟨ks, e3, e2⟩ := Option.bind_eq_some_iff.mp e
        obtain ⟨⟨h64, nd⟩, e2⟩ := ite_none e2
        cases e2
        cases rps_strs r e3
        exact .inr ⟨a, ks, rfl, .inl t, h64, nd, fun p hp => wLst fd q (rps_strsE _) hp⟩
  -- reversed slice
  · obtain ⟨oa, _⟩ := ok
    refine val_both (PEimp (pe_revL (pe_A1 x oa h)) fun σ H Q q => tO_mono (op1 q) fun v H1 z => ?_) fun _ => rfl
    obtain ⟨F, ds, sv, fd, rt, e0, q⟩ := z
    have e : dRev ds = some sv := e0
    clear e0
    match ds, e with
    | [.list l], e =>
      obtain ⟨_, z, h1⟩ := rt.one
      cases z; cases e
      obtain ⟨a, vs, rfl, t, r⟩ := h1.lst
      exact ⟨a, vs, rfl, .inl t, fun p hp => wLst fd q r.reverse hp⟩
  -- items
  · obtain ⟨oa, ob, _⟩ := ok
    simp only [Bool.and_eq_true] at h
    exact val_both (PEimp (pe_ix (ok_ix hr.units) (pe_A1 x oa h.1.1) (pe_A1 x ob h.1.2) (plainIx_ok h.2)) fun σ H Q q => op2 q) fun _ => rfl
  -- operators
  · obtain ⟨oa, ob, _⟩ := ok
    simp only [Bool.and_eq_true, decide_eq_true_eq] at h
    exact val_both (PEimp (pe_op (binOf_ok h.1.1) (pe_A1 x oa h.1.2) (pe_A1 x ob h.2)) fun σ H Q q => op2 q) fun _ => rfl
  -- comparisons
  · obtain ⟨oa, ob, _⟩ := ok
    simp only [Bool.and_eq_true, decide_eq_true_eq] at h
    exact cmp_both (cmpOf_ok hr h.1.1.1) (pe_A1 x oa h.1.1.2) (pe_A1 x ob h.1.2) (noSet_mark h.2) fun σ H Q q => op2 q
  -- built-in functions and classes
  · rename_i f pf ps pos _ _ _ _
    simp only [Bool.and_eq_true, Bool.or_eq_true, decide_eq_true_eq] at h
    obtain ⟨⟨h1, h2⟩, h3⟩ := h
    obtain ⟨g1, g2⟩ := isGl_gl x h1
    have pa := pa_As (W := W) x ok h2
    have ns := mts_noStar h2
    cases ps with
    | nil => rcases h3 with h3 | h3 <;> (simp [bltOf, tyOf] at h3)
    | cons p ps =>
      have s1 := star_cons (es := ps) (env := X.env) (ns p List.mem_cons_self)
      have s2 := star_any (pos := pos) (env := X.env) fun q hq => ns q (List.mem_cons_of_mem _ hq)
      rcases h3 with h3 | h3
      · obtain ⟨b1, b2, id, b3, b4⟩ := bltOf_ok x.calm (by have := x.room.un; omega) h3
        exact val_both (PEimp (pe_callB b4 g1 (x.tab.blt _ b1) b3 pa b2 g2 s1 s2) fun σ H Q q => opAs q) fun _ => rfl
      · obtain ⟨b1, b2, T, b3, b4⟩ := tyOf_ok (X := X) h3
        exact val_both (PEimp (pe_callTy b4 g1 (x.tab.blt _ b1) b3 pa b2 g2 s1 s2) fun σ H Q q => opAs q) fun _ => rfl
  · cases h
end
end RH
set_option maxRecDepth 100000
set_option maxHeartbeats 4000000
/-! Expressions, part 3: displays, calls, methods, slices. -/
namespace RH
open PySem PySem.Spec L2

section
variable {C : Str → Option D} {Γ : Str → Option FD} {n : Nat} {X : Cx} {W : WX} {c : CC} {cf : Str → List SV → RF}

theorem last_nobehind {op op' : CmpOp} {b e : Expr} (h : op' ≠ .In) (h2 : op' ≠ .NotIn) : lastMarks [op, op'] [b, e] = false := nobehind e h h2
theorem tE_chain {o1 o2 : Op} {a b d : ME} {σ : L2.St} {H : Hp} {Q : VK} (h : tE X W (evV C cf (.chain o1 o2 a b d)) σ H Q) :
    tChain (rb X o1) (rb X o2) (tE X W (evV C cf a)) (tE X W (evV C cf b)) (tE X W (evV C cf d)) σ H Q := by
  obtain ⟨F, σd, er, po⟩ := h
  refine ⟨F, σd, er, ?_⟩
  rw [evV] at po
  refine PostE.bind po fun p F1 H1 v e1 n1 r1 po => ⟨F1, p.2, n1.er, ?_⟩
  refine PostE.bind (po.on er n1) fun q F2 H2 w e2 n2 r2 po => ?_
  have r1' := r1.keep (fun a z => er.own_there (n1.subA a z)) n2 n1.er
  cases e3 : opD o1 [p.1.d, q.1.d] with
  | none => rw [e3] at po; exact po.elim
  | some rr =>
    rw [e3, ofOpt_some, R.bind_ok] at po
    refine ⟨F2, _, rr, n2.er.fd, .cons r1'.rt (.cons r2.rt .nil), e3, fun F3 H3 z l3 rz => ?_⟩
    cases e4 : asB rr with
    | none => rw [e4] at po; exact po.elim
    | some t =>
      rw [e4, ofOpt_some, R.bind_ok] at po
      refine ⟨t, rz.bool e4, ?_⟩
      have n3 : Nx X.kw F1 H1 p.2 σ F3 H3 q.2 := ⟨n2.le.trans l3 fun a z => z.elim, n2.er.le0 l3, n2.sub, n2.suR, n2.lk, n2.st⟩
      have n3' : Nx X.kw F2 H2 q.2 σ F3 H3 q.2 := ⟨l3.more fun a z => z.elim, n2.er.le0 l3, fun _ d z => ⟨d, z⟩, fun a z => z, fun _ _ z _ => z, fun _ _ z m => ⟨_, z, m⟩⟩
      cases t with
      | false =>
        rw [if_neg Bool.false_ne_true] at po
        exact iteF (po F3 H3 _ n3 (.bl _))
      | true =>
        rw [if_pos rfl] at po
        refine iteT ⟨F3, q.2, n3.er, ?_⟩
        refine PostE.bind (po.on n1.er n3) fun u F4 H4 y e5 n4 r4 po => ?_
        cases e6 : opD o2 [q.1.d, u.1.d] with
        | none => rw [e6] at po; exact po.elim
        | some sv =>
          rw [e6, ofOpt_some, R.bind_ok] at po
          have r2' := (r2.keep (fun a z => n1.er.own_there (n2.subA a z)) (n3'.trans n4) n2.er)
          refine ⟨F4, _, sv, n4.er.fd, .cons r2'.rt (.cons r4.rt .nil), e6, fun F' H' v' l rs => ?_⟩
          exact po F' H' v' ⟨n4.le.trans l fun a z => z.elim, n4.er.le0 l, n4.sub, n4.suR, n4.lk, n4.st⟩ (Res.old rs n4.le)
theorem step_chain (o1 o2 : Op) {a b d : ME} (ha : EOk C Γ n a) (hb : EOk C Γ n b) (hd : EOk C Γ n d) : EOk C Γ n (.chain o1 o2 a b d) := fun c e X W x h => by
  unfold mt at h
  split at h
  · rename_i p op1 op2 q r pos
    simp only [Bool.and_eq_true, decide_eq_true_eq, Bool.not_eq_true', beq_eq_false_iff_ne, ne_eq] at h
    obtain ⟨⟨⟨⟨⟨⟨⟨⟨h1, h2⟩, h3⟩, h4⟩, h5⟩, _⟩, _⟩, h6⟩, h7⟩ := h
    have oc := cmpOf_ok (X := X) x.room h1
    have oc' := cmpOf_ok (X := X) x.room h2
    have hm : lastMarks [op1, op2] [q, r] = false := last_nobehind h6 h7
    refine ⟨PEimp (pe_chain oc oc' (ha c p X W x h3).1 (hb c q X W x h4).1 (hd c r X W x h5).1 hm) fun _ _ _ => tE_chain, PTimp (pt_chain oc oc' (ha c p X W x h3).1 (hb c q X W x h4).1 (hd c r X W x h5).1 hm) fun σ H Q q => tE_chain (tT_tE q)⟩
  · cases h

/-! ### displays -/
theorem tE_tup {es : MEs} {σ : L2.St} {H : Hp} {Q : VK} (h : tE X W (evV C cf (.tup es)) σ H Q) : tTup (tVs X W (evVs C cf es)) σ H Q := by
  obtain ⟨F, σd, er, po⟩ := h
  refine ⟨F, σd, er, ?_⟩
  rw [evV] at po
  cases e1 : evVs C cf es σd with
  | bad => rw [e1] at po; exact po
  | exc c s => rw [e1] at po; exact po
  | ok p =>
    rw [e1, R.bind_ok] at po
    intro F1 H1 vs n1 r1
    by_cases hz : p.1.length ≤ sizeLine
    · rw [if_pos hz] at po
      refine ⟨by rw [r1.length]; exact hz, fun q hq => ?_⟩
      refine wTup (X := X) (F := F1) (fun F' H' v l rs => ?_) r1 hq
      exact po F' H' v ⟨n1.le.trans l fun a z => z.elim, n1.er.le0 l, n1.sub, n1.suR, n1.lk, n1.st⟩ (Res.old rs n1.le)
    · rw [if_neg hz] at po; exact po.elim
theorem tE_lst {es : MEs} {σ : L2.St} {H : Hp} {Q : VK} (h : tE X W (evV C cf (.lst es)) σ H Q) : tLst (tVs X W (evVs C cf es)) σ H Q := by
  obtain ⟨F, σd, er, po⟩ := h
  refine ⟨F, σd, er, ?_⟩
  rw [evV] at po
  cases e1 : evVs C cf es σd with
  | bad => rw [e1] at po; exact po
  | exc c s => rw [e1] at po; exact po
  | ok p =>
    rw [e1, R.bind_ok] at po
    intro F1 H1 vs n1 r1
    by_cases hz : p.1.length ≤ sizeLine
    · rw [if_pos hz] at po
      refine ⟨by rw [r1.length]; exact hz, fun q hq => ?_⟩
      refine wLst (X := X) (F := F1) n1.er.fd (fun F' H' v l rs => ?_) r1 hq
      exact po F' H' v ⟨n1.le.trans l fun a z => z.elim, n1.er.le0 l, n1.sub, n1.suR, n1.lk, n1.st⟩ (Res.old rs n1.le)
    · rw [if_neg hz] at po; exact po.elim
theorem step_tup {es : MEs} (ok : AllOk C Γ n es) : EOk C Γ n (.tup es) := fun c e X W x h => by
  unfold mt at h
  split at h
  · exact val_both (PEimp (pe_tup (pa_Vs x ok h)) fun _ _ _ => tE_tup) fun _ => rfl
  · cases h
theorem step_lst {es : MEs} (ok : AllOk C Γ n es) : EOk C Γ n (.lst es) := fun c e X W x h => by
  unfold mt at h
  split at h
  · exact val_both (PEimp (pe_lst (pa_Vs x ok h)) fun _ _ _ => tE_lst) fun _ => rfl
  · cases h

/-! ### calls of the program's own defs -/
theorem pe_call0S {k : Nat} {f : Addr} {fd : FuncData} {ps : List Str} {sp : Sp} {E : L2.St → XK} {y : Str} {p pos : Pos} {CX : CXT} (F : FnOk X.prog X.w X.kw X.mg X.base CX k f fd ps sp) (hr : Room k X.A) (hg : Gl X y) (hm : X.mg y = some (.ref f))
    (hk : PySem.W.keepIn X.kw (.ref f) = true) (hb : Binds X.kw fd ps []) (hx : ∀ σ, PassesAt CX X σ (E σ)) (hdb : (y == ("__debug__" : Str)) = false) : PE X (.Call (.Name y p) [] [] pos) (fun σ H Q => sp [] H Q (E σ)) := by
  refine ⟨fun pins s σ H Q I h => ?_⟩
  refine wpAny_Call_Name_kw (ld_glob I hg hm ?_ hdb)
  exact PySem.W.callWith_K0 I.kIn hk (run_fnS (us := []) F hr hb (hx σ) I .nil h)
theorem Args.vlen {K : KW} {F : Addr → Prop} {H : Hp} {vs : List V} {svs : List SV} (a : Args K F H vs svs) : vs.length = svs.length := a.len
theorem callF_len {fd : FD} {f : Str} (h : Γ f = some fd) {svs : List SV} (hb : callF C Γ n f svs ≠ .bad) : svs.length = fd.np := by
  cases n with
  | zero => exact absurd rfl hb
  | succ n =>
    rw [callF, h] at hb
    dsimp only at hb
    unfold runD at hb
    split at hb
    · assumption
    · exact absurd rfl hb
theorem callF_some {f : Str} {svs : List SV} (hb : callF C Γ n f svs ≠ .bad) : ∃ fd, Γ f = some fd := by
  cases n with
  | zero => exact absurd rfl hb
  | succ n =>
    rw [callF] at hb
    cases h : Γ f with
    | none => rw [h] at hb; exact absurd rfl hb
    | some fd => exact ⟨fd, rfl⟩
theorem tE_call {f : Str} {fd : FD} (hf : Γ f = some fd) {es : MEs} {σ : L2.St} {H : Hp} {Q : VK} (h : tE X W (evV C (callF C Γ n) (.call f es)) σ H Q) :
    tAs X W (evAs C (callF C Γ n) es) σ H fun vs H1 => spF X.kw X.mg fd.np (callF C Γ n f) vs H1 Q (WE W σ) := by
  obtain ⟨F, σd, er, po⟩ := h
  refine ⟨F, σd, er, ?_⟩
  rw [evV] at po
  cases e1 : evAs C (callF C Γ n) es σd with
  | bad => rw [e1] at po; exact po
  | exc c s => rw [e1] at po; exact po
  | ok p =>
    rw [e1, R.bind_ok] at po
    intro F1 H1 vs n1 r1
    cases e2 : getOs p.2 p.1 with
    | none => rw [e2] at po; exact po.elim
    | some svs =>
      rw [e2, ofOpt_some, R.bind_ok] at po
      by_cases nd : (ownSlots p.2 p.1).Nodup
      · rw [if_pos nd] at po
        have ag := r1.args n1.er e2 nd fun a z => er.ref_there (n1.suR a z)
        have hb : callF C Γ n f svs ≠ .bad := fun z => by rw [z] at po; exact po.elim
        refine ⟨by rw [ag.len]; exact callF_len hf hb, F1, svs, n1.er.fd, ag, ?_⟩
        cases e3 : callF C Γ n f svs with
        | bad => exact absurd e3 hb
        | ok sv outs =>
          rw [e3] at po
          intro F' H' v l o rs
          exact po F' H' v (n1.call er r1 e2 nd l o) (Res.old rs n1.le)
        | exc c outs =>
          rw [e3] at po
          intro F' H' Ca l o g
          exact po F' H' Ca (n1.call er r1 e2 nd l o) g
      · rw [if_neg nd] at po; exact po.elim
theorem Nx.call' {F F1 F' : Addr → Prop} {H H1 H' : Hp} {σd σd1 : EnvD} {σ : L2.St} : True := trivial
/-! ### one more argument, by its name or by its default -/
def initT (X : Cx) (W : WX) (C : Str → Option D) (cf : Str → List SV → RF) : MEs → TA
  | .nil => tNil
  | .cons m ms => match ms with
    | .nil => tNil
    | _ => tCons (tO X W (evA1 C cf m)) (initT X W C cf ms)
def lastM : MEs → ME
  | .nil => .cst .none
  | .cons m ms => match ms with
    | .nil => m
    | _ => lastM ms
theorem tAs_split {cf : Str → List SV → RF} : ∀ (es : MEs) {σ : L2.St} {H : Hp} {Q : List V → Hp → Prop}, es ≠ .nil → tAs X W (evAs C cf es) σ H Q → initT X W C cf es σ H fun vs H1 => tO X W (evA1 C cf (lastM es)) σ H1 fun z H2 => Q (vs ++ [z]) H2
  | .nil, _, _, _, h, _ => absurd rfl h
  | .cons m .nil, _, _, _, _, h => tO_mono (tAs_cons h) fun _ _ h1 => tAs_nil h1
  | .cons m (.cons m2 ms), _, _, _, _, h => tO_mono (tAs_cons h) fun _ _ h1 => tAs_split (.cons m2 ms) (fun z => by cases z) h1
theorem mtKw_ok (x : XC X W c C Γ n) : ∀ {es : MEs} {ps : List Expr} {t : Expr ⊕ D}, AllOk C Γ n es → mtKw c es ps t = true → es ≠ .nil ∧ PA X ps (initT X W C (callF C Γ n) es) ∧ (∀ e ∈ ps, noStar e = true) ∧
    (∀ v, t = .inl v → PE X v (tO X W (evA1 C (callF C Γ n) (lastM es)))) ∧ ∀ d, t = .inr d → isCst (lastM es) d = true
  | .nil, _, _, _, h => by unfold mtKw at h; cases h
  | .cons m .nil, [], .inl v, ok, h => by
    unfold mtKw at h
    exact ⟨(fun z => by cases z), pa_nil, (fun _ z => nomatch z), (fun w e => by cases e; exact pe_A1 x ok.1 h), (fun _ e => nomatch e)⟩
  | .cons m .nil, [], .inr d, ok, h => by
    unfold mtKw at h
    exact ⟨(fun z => by cases z), pa_nil, (fun _ z => nomatch z), (fun _ e => nomatch e), (fun w e => by cases e; exact h)⟩
  | .cons m .nil, e :: r, t, ok, h => by
    unfold mtKw at h
    simp only [Bool.and_eq_true] at h
    have := h.2
    unfold mtKw at this
    cases this
  | .cons m (.cons m2 ms), e :: r, t, ok, h => by
    unfold mtKw at h
    simp only [Bool.and_eq_true] at h
    obtain ⟨⟨h1, h2⟩, h3⟩ := h
    obtain ⟨_, g2, g3, g4, g5⟩ := mtKw_ok x ok.2 h3
    exact ⟨(fun z => by cases z), pa_cons (pe_A1 x ok.1 h1) g2 (star_cons h2), (fun q hq => by
      rcases List.mem_cons.mp hq with rfl | hq
      · exact h2
      · exact g3 q hq), g4, g5⟩
  | .cons m (.cons m2 ms), [], t, ok, h => by
    unfold mtKw at h
    cases h
theorem pe_callNS {k n : Nat} {f : Addr} {fd : FuncData} {ps ks : List Str} {sp : Sp} {E : L2.St → XK} {y : Str} {p pos : Pos} {CX : CXT} {e : Expr} {es : List Expr} {kws : List Keyword} {t tk : TA} {g : List Value → List Value → List Value} {gV : List V → List V → List V}
    (F : FnOk X.prog X.w X.K X.mg X.base CX k f fd ps sp) (hr : Room k X.A) (hg : Gl X y) (hm : X.mg y = some (.ref f)) (hk : PySem.W.keepIn X.K (.ref f) = true) (hb : KBn X.K fd ps n ks g gV) (hx : ∀ σ, PassesAt CX X σ (E σ))
    (ha : PA X (e :: es) t) (hkw : PK X kws tk) (hall : (backToKw pos (keywordEach kws X.env)).all (·.1.isSome) = true) (hks : (backToKw pos (keywordEach kws X.env)).filterMap (·.1) = ks)
    (hdb : (y == ("__debug__" : Str)) = false) (he : starEach (e :: es) X.env = (false, eval e X.env) :: starEach es X.env)
    (hpl : ((backTo pos (starEach (e :: es) X.env)).any (·.1) || (backToKw pos (keywordEach kws X.env)).any (·.1.isNone)) = false) :
    PE X (.Call (.Name y p) (e :: es) kws pos) (fun σ H Q => t σ H fun vs H1 => tk σ H1 fun zs H2 => vs.length = n ∧ zs.length = ks.length ∧ sp (gV vs zs) H2 Q (E σ)) := by
  refine ⟨fun pins s σ H Q I h => ?_⟩
  refine wpAny_Call_Name_kw (ld_glob I hg hm ?_ hdb)
  refine PySem.W.callWith_KW (h₀ := X.base) I.ok.mod.kin hk hall (thn (ha.run pos pins s σ H _ I h) fun us s1 ⟨vs, H1, I1, r, q⟩ => ?_) hpl he
  refine thn (hkw.run pos pins s1 σ H1 _ I1 q) fun ws s2 ⟨zs, H2, I2, rz, l1, l2, q2⟩ => ⟨I2.kIn, ?_⟩
  rw [hks]
  have r2 := hb.rel r rz
  refine wpAny_call (codeAny_mono (F.run X.A X.stack s2 H2 ⟨us, ks.zip ws⟩ (g us ws) (gV vs zs) Q (E σ) hr I2.env0 (hb.to s2 us ws I2.kIn (r.length.symm.trans l1) (rz.length.symm.trans l2)) r2 q2) fun r s' hq => ?_)
  cases r with
  | error e => exact hx σ pins H2 s2 e s' I2 hq
  | ok fl =>
    cases fl with
    | ret u => exact I2.after hq
    | next => exact False.elim hq
    | brk => exact False.elim hq
    | cont => exact False.elim hq
theorem initT_mono {cf : Str → List SV → RF} : ∀ {es : MEs} {σ : L2.St} {H : Hp} {Q Q' : List V → Hp → Prop}, initT X W C cf es σ H Q → (∀ vs H, Q vs H → Q' vs H) → initT X W C cf es σ H Q'
  | .nil, _, _, _, _, h, i => i _ _ h
  | .cons m .nil, _, _, _, _, h, i => i _ _ h
  | .cons m (.cons m2 ms), _, _, _, _, h, i => tO_mono h fun _ _ h1 => initT_mono (es := .cons m2 ms) h1 fun _ _ h2 => i _ _ h2
theorem initT_len {cf : Str → List SV → RF} : ∀ {es : MEs} {ps : List Expr} {t : Expr ⊕ D}, mtKw c es ps t = true → ∀ {σ : L2.St} {H : Hp} {Q : List V → Hp → Prop}, initT X W C cf es σ H Q → initT X W C cf es σ H fun vs H1 => vs.length = ps.length ∧ Q vs H1
  | .nil, _, _, h => by unfold mtKw at h; cases h
  | .cons m .nil, [], _, _ => fun q => ⟨rfl, q⟩
  | .cons m .nil, e :: r, t, h => by
    unfold mtKw at h
    simp only [Bool.and_eq_true] at h
    have := h.2
    unfold mtKw at this
    cases this
  | .cons m (.cons m2 ms), e :: r, t, h => by
    unfold mtKw at h
    simp only [Bool.and_eq_true] at h
    exact fun q => tO_mono q fun _ _ q1 => initT_mono (initT_len h.2 q1) fun vs H1 ⟨a, b⟩ => ⟨by rw [List.length_cons, List.length_cons, a], b⟩
  | .cons m (.cons m2 ms), [], t, h => by
    unfold mtKw at h
    cases h
theorem cst_rp {m : ME} {d : D} {v : V} {K : KW} (h : isCst m d = true) (r : ∀ F H, Rp K F H v d) : ∃ d', m = .cst d' ∧ ∀ F H, Rp K F H v d' := by
  unfold isCst at h
  split at h
  · cases of_decide_eq_true h; exact ⟨_, rfl, r⟩
  · cases of_decide_eq_true h; exact ⟨_, rfl, r⟩
  · cases h
theorem step_call (f : Str) {es : MEs} (ok : AllOk C Γ n es) : EOk C Γ n (.call f es) := fun c e X W x h => by
  unfold mt at h
  split at h
  · rename_i g pf ps pos
    simp only [Bool.and_eq_true, decide_eq_true_eq] at h
    obtain ⟨⟨⟨rfl, h2⟩, h3⟩, h4⟩ := h
    obtain ⟨g1, g2⟩ := isGl_gl x h2
    obtain ⟨fd, hf⟩ := Option.isSome_iff_exists.mp (x.fs f (by simpa using h3))
    obtain ⟨a, fdd, pps, m1, m2, m3, m4⟩ := x.tab.fn f fd hf
    unfold BindsF at m3
    cases hk : kwOf f with
    | none =>
      rw [hk] at m3 h4
      dsimp only at m3 h4
      have pa := pa_As (W := W) x ok h4
      have ns := mts_noStar h4
      cases ps with
      | nil =>
        refine val_both (PEimp (pe_call0S m4 x.room g1 m1 m2 m3 (fun σ => passR x.tk x.fr σ) g2) fun σ H Q q => ?_) fun _ => rfl
        have q' := tE_call hf q
        cases es with
        | nil => exact tAs_nil q'
        | cons a b => unfold mts at h4; cases h4
      | cons p ps =>
        have s1 := star_cons (es := ps) (env := X.env) (ns p List.mem_cons_self)
        have s2 := star_any (pos := pos) (env := X.env) fun q hq => ns q (List.mem_cons_of_mem _ hq)
        exact val_both (PEimp (pe_callS m4 x.room g1 m1 m2 m3 (fun σ => passR x.tk x.fr σ) pa g2 s1 s2) fun σ H Q q => tE_call hf q) fun _ => rfl
    | some kd =>
      rw [hk] at m3 h4
      dsimp only at m3 h4
      simp only [Bool.and_eq_true, decide_eq_true_eq] at h4
      obtain ⟨⟨v, ds, vd, rv, bd⟩, _⟩ := m3
      obtain ⟨hne, pa, ns, _, hc⟩ := mtKw_ok (W := W) x ok h4.2
      obtain ⟨d', ed, rd⟩ := cst_rp (hc _ rfl) (rv X.w)
      cases ps with
      | nil => cases h4.1
      | cons p ps =>
        have s1 := star_cons (es := ps) (env := X.env) (ns p List.mem_cons_self)
        have s2 := star_any (pos := pos) (env := X.env) fun q hq => ns q (List.mem_cons_of_mem _ hq)
        refine val_both (PEimp (pe_callSD m4 x.room g1 m1 m2 bd vd (fun σ => passR x.tk x.fr σ) pa g2 s1 s2) fun σ H Q q => ?_) fun _ => rfl
        refine initT_mono (tAs_split es hne (tE_call hf q)) fun vs H1 h1 => ?_
        rw [ed] at h1
        exact tO_cst rd h1
  · rename_i g pf ps k v kp pos
    simp only [Bool.and_eq_true, decide_eq_true_eq] at h
    obtain ⟨⟨⟨rfl, h2⟩, h3⟩, h4⟩ := h
    obtain ⟨g1, g2⟩ := isGl_gl x h2
    obtain ⟨fd, hf⟩ := Option.isSome_iff_exists.mp (x.fs f (by simpa using h3))
    obtain ⟨a, fdd, pps, m1, m2, m3, m4⟩ := x.tab.fn f fd hf
    unfold BindsF at m3
    cases hk : kwOf f with
    | none => rw [hk] at h4; cases h4
    | some kd =>
      rw [hk] at m3 h4
      dsimp only at m3 h4
      simp only [Bool.and_eq_true, decide_eq_true_eq] at h4
      obtain ⟨⟨rfl, h5⟩, h6⟩ := h4
      obtain ⟨_, kb⟩ := m3
      obtain ⟨hne, pa, ns, hv, _⟩ := mtKw_ok (W := W) x ok h6
      cases ps with
      | nil => cases h5
      | cons p ps =>
        have s1 := star_cons (es := ps) (env := X.env) (ns p List.mem_cons_self)
        have s2 := star_any (pos := pos) (env := X.env) fun q hq => ns q hq
        refine val_both (PEimp (pe_callNS m4 x.room g1 m1 m2 kb (fun σ => passR x.tk x.fr σ) pa (pk_cons (hv v rfl) pk_nil) rfl rfl g2 s1 (by rw [s2]; rfl)) fun σ H Q q => ?_) fun _ => rfl
        refine initT_mono (initT_len h6 (tAs_split es hne (tE_call hf q))) fun vs H1 ⟨h1, h2⟩ => ?_
        exact tO_mono h2 fun z H2 h3 => ⟨by rw [h1]; exact h5, rfl, h3⟩
  · cases h

/-! ### slices -/
theorem tE_slice {a l h : ME} {σ : L2.St} {H : Hp} {Q : VK} (q : tE X W (evV C cf (.slice a l h)) σ H Q) :
    tSl (rSl X) (tO X W (evA1 C cf a)) (if isNoneM l then tNoPart else tPart (tE X W (evV C cf l))) (if isNoneM h then tNoPart else tPart (tE X W (evV C cf h))) σ H Q := by
  obtain ⟨F, σd, er, po⟩ := q
  refine ⟨F, σd, er, ?_⟩
  rw [evV] at po
  refine PostO.bind (r := evA1 C cf a σd) po fun p F1 H1 v e1 n1 r1 po => ?_
  have fin : ∀ {F3 : Addr → Prop} {H3 : Hp} {lo hi : Option Int} {s3 : EnvD}, Nx X.kw F1 H1 p.2 σ F3 H3 s3 → PostE X W F H σd σ ((ofOpt (getO s3 p.1)).bind fun s => (ofOpt (slD s.d lo hi)).bind fun z => R.ok (z, s3)) Q → rSl X v lo hi H3 Q := fun {F3 H3 lo hi s3} n3 po => by
    cases e4 : getO s3 p.1 with
    | none => rw [e4] at po; exact po.elim
    | some s =>
      rw [e4, ofOpt_some, R.bind_ok] at po
      cases e5 : slD s.d lo hi with
      | none => rw [e5] at po; exact po.elim
      | some sv =>
        rw [e5, ofOpt_some, R.bind_ok] at po
        have r3 := r1.keep (fun a z => er.own_there (n1.subA a z)) n3 n1.er
        refine ⟨F3, s.d, sv, n3.er.fd, r3.rt n3.er e4, e5, fun F' H' w l rs => ?_⟩
        have nn := n1.trans n3
        exact po F' H' w ⟨nn.le.trans l fun a z => z.elim, nn.er.le0 l, nn.sub, nn.suR, nn.lk, nn.st⟩ (Res.old rs nn.le)
  have part : ∀ {m : ME} {F2 : Addr → Prop} {H2 : Hp} {s2 : EnvD} {k : Option Int × EnvD → R (SV × EnvD)} {R' : Option Int → Hp → Prop}, Nx X.kw F1 H1 p.2 σ F2 H2 s2 →
      PostE X W F H σd σ ((if isNoneM m then (R.ok (none, s2) : R (Option Int × EnvD)) else (evV C cf m s2).bind fun q => (ofOpt (asI q.1)).bind fun i => R.ok (some i, q.2)).bind k) Q →
      (∀ (o : Option Int) F3 H3 s3, Nx X.kw F1 H1 p.2 σ F3 H3 s3 → PostE X W F H σd σ (k (o, s3)) Q → R' o H3) → (if isNoneM m then tNoPart else tPart (tE X W (evV C cf m))) σ H2 R' := fun {m F2 H2 s2 k R'} n2 po hk => by
    by_cases hm : isNoneM m = true
    · rw [if_pos hm] at po ⊢
      exact hk none F2 H2 s2 n2 po
    · rw [if_neg hm] at po ⊢
      refine ⟨F2, s2, n2.er, ?_⟩
      have nn := n1.trans n2
      cases e2 : evV C cf m s2 with
      | bad => rw [e2] at po; exact po
      | exc c s => rw [e2] at po; exact fun F' H' Ca n' g => po F' H' Ca (nn.trans n') g
      | ok q =>
        rw [e2, R.bind_ok] at po
        intro F3 H3 w n3 r3
        cases e3 : asI q.1 with
        | none => rw [e3] at po; exact po.elim
        | some i =>
          rw [e3, ofOpt_some, R.bind_ok, R.bind_ok] at po
          have ei : q.1.d = .int i := by
            unfold asI at e3
            split at e3
            · rename_i j e; cases e3; exact e
            · cases e3
          refine ⟨i, ?_, hk (some i) F3 H3 q.2 (n2.trans n3) po⟩
          have := r3.rt
          rw [ei] at this
          exact this.int
  refine part (Nx.refl n1.er) po fun lo F2 H2 s2 n2 po => ?_
  exact part n2 po fun hi F3 H3 s3 n3 po => fin n3 po
theorem step_slice {a l h : ME} (ha : EOk C Γ n a) (hl : EOk C Γ n l) (hh : EOk C Γ n h) : EOk C Γ n (.slice a l h) := fun c e X W x hm => by
  unfold mt at hm
  split at hm
  · rename_i p lo hi ps pos
    simp only [Bool.and_eq_true] at hm
    obtain ⟨⟨h1, h2⟩, h3⟩ := hm
    have part : ∀ {m : ME} {o : Option Expr}, EOk C Γ n m → (match o with | none => isNoneM m | some q => mt c m q && !isNoneM m) = true → PO X o (if isNoneM m then tNoPart else tPart (tE X W (evV C (callF C Γ n) m))) := fun {m o} ok hm => by
      cases o with
      | none => rw [if_pos hm]; exact po_none
      | some q =>
        simp only [Bool.and_eq_true, Bool.not_eq_true'] at hm
        rw [if_neg (by rw [hm.2]; exact Bool.false_ne_true)]
        exact po_some (ok c q X W x hm.1).1
    exact val_both (PEimp (pe_slice ok_sl (pe_A1 x ha h1) (part hl h2) (part hh h3)) fun _ _ _ => tE_slice) fun _ => rfl
  · cases hm
end
end RH
set_option maxRecDepth 100000
set_option maxHeartbeats 4000000
/-! Expressions, part 4: methods, dicts. -/
namespace RH
open PySem PySem.Spec L2

section
variable {K : KW} {F F1 F' : Addr → Prop} {H H1 H' : Hp} {σd σd1 : EnvD} {σ : L2.St}
/-- a slot's own thing is changed -/
theorem Nx.write {i : Nat} {a : Addr} {d d' : D} {o : HO} (er : ER K F H σd σ) (hs : slotAt σd i = some (ow d)) (hq : σ[i]? = some (some (.ref a))) (ct : Ct K F (upd H a o) a d') : Nx K F H σd σ F (upd H a o) (σd.set i (some (ow d'))) := by
  have hB : OwnA σd σ a := ⟨i, d, hs, hq⟩
  have hi : i < σd.length := by
    rw [slotAt_some] at hs
    exact (List.getElem?_eq_some_iff.mp hs).1
  have l : Le (OwnA σd σ) F H F (upd H a o) := Le.write hB
  have la : Le (fun b => b = a) F H F (upd H a o) := Le.write rfl
  have bka : Bk (fun b => b = a) F H := ⟨fun b z => by rw [z]; exact er.bk.nf a hB, fun b z => by rw [z]; exact er.bk.mu a hB⟩
  have sl : ∀ (j : Nat) (sw : SV), slotAt (σd.set i (some (ow d'))) j = some sw → (i = j ∧ sw = ow d') ∨ (i ≠ j ∧ slotAt σd j = some sw) := fun j sw hj => by
    rw [slotAt_set] at hj
    by_cases e : i = j
    · rw [if_pos e, if_pos hi] at hj
      exact .inl ⟨e, (Option.some.inj hj).symm⟩
    · rw [if_neg e] at hj
      exact .inr ⟨e, hj⟩
  refine ⟨l, ⟨by rw [List.length_set]; exact er.len, fun j sw hj => ?_, fun j k sw sx b hj hk mj mk ej ek => ?_, l.fd er.fd⟩, fun j e hj => ?_, fun b ⟨j, sw, hj, mj, ej⟩ => ?_, fun j sw hj mj => ?_, fun j sw hj mj => ?_⟩
  · rcases sl j sw hj with ⟨rfl, rfl⟩ | ⟨e, hj⟩
    · exact ⟨_, hq, a, rfl, er.bk.nf a hB, ct⟩
    · obtain ⟨w, qw, s⟩ := er.at_ j sw hj
      refine ⟨w, qw, s.le la bka fun m b eb z => ?_⟩
      subst eb; subst z
      exact e (er.ap i j _ _ _ hs hj (by intro z; cases z) m hq qw)
  · rcases sl j sw hj with ⟨rfl, rfl⟩ | ⟨e, hj⟩
    · rcases sl k sx hk with ⟨rfl, rfl⟩ | ⟨e', hk⟩
      · rfl
      · exact er.ap _ _ _ _ b hs hk (by intro z; cases z) mk ej ek
    · rcases sl k sx hk with ⟨rfl, rfl⟩ | ⟨e', hk⟩
      · exact er.ap _ _ _ _ b hj hs mj (by intro z; cases z) ej ek
      · exact er.ap _ _ _ _ b hj hk mj mk ej ek
  · rcases sl j _ hj with ⟨rfl, z⟩ | ⟨e', hj⟩
    · exact ⟨d, hs⟩
    · exact ⟨e, hj⟩
  · rcases sl j _ hj with ⟨rfl, rfl⟩ | ⟨e', hj⟩
    · exact ⟨_, _, hs, (by intro z; cases z), ej⟩
    · exact ⟨j, sw, hj, mj, ej⟩
  · rw [slotAt_set]
    by_cases e : i = j
    · subst e; rw [hs] at hj; cases hj; cases mj
    · rw [if_neg e]; exact hj
  · by_cases e : i = j
    · exact ⟨_, by rw [slotAt_set, if_pos e, if_pos hi], by intro z; cases z⟩
    · exact ⟨sw, by rw [slotAt_set, if_neg e]; exact hj, mj⟩
end

section
variable {C : Str → Option D} {Γ : Str → Option FD} {n : Nat} {X : Cx} {W : WX} {c : CC} {cf : Str → List SV → RF}
def rExtendR : V → List V → Hp → VK → Prop := fun x vs H Q => ∃ l b xs zs, x = .ref l ∧ vs = [.ref b] ∧ H l = some (.lst xs) ∧ Rd H b (.lst zs) ∧ xs.length + zs.length ≤ sizeLine ∧ Q .non (upd H l (.lst (xs ++ zs)))
open PyProof.Rows in
theorem mt_extendR : MtM X "list.extend" rExtendR := by
  intro pins s σ H x vs v us Q I rx rv h
  obtain ⟨l, b, xs, zs, rfl, rfl, hH, hB, hz, q⟩ := h
  cases rx
  obtain ⟨u, rfl, ru⟩ := rv.one
  cases ru
  obtain ⟨z, its, n, r, hl, e⟩ := I.lstM hH
  obtain ⟨its2, n2, z2, r2, hl2, e2⟩ := rd_list I hB
  have hsz : its.toArray.size + its2.toArray.size ≤ sizeLine := by rw [List.size_toArray, List.size_toArray]; omega
  have hlong : ¬ (!its.toArray.isEmpty && Builtin.List.listTooLong (its.toArray.size + its2.toArray.size)) = true := by
    rw [notLongL hsz, Bool.and_false]
    exact Bool.false_ne_true
  refine call_meets F.slot_list_extend ⟨_, e, rfl⟩ F.entry_list_extend (F.args_list_extend_2 _ _)
    (AutoSeq1.list_extend_list_list_0 l its.toArray n b its2.toArray n2 hlong (by rw [List.size_toArray]; omega) (by omega)) ⟨e, e2, ?_⟩
  refine ⟨.non, _, I.lset (its' := its ++ its2) hH e (by simp) (r.append r2) ?_, rfl, q⟩
  rw [List.length_append]
  omega
@[simp] theorem mn_append_extend : ((("append" : Str) = "extend") ) = False := eq_false (by decide)
@[simp] theorem mn_append_pop : ((("append" : Str) = "pop") ) = False := eq_false (by decide)
@[simp] theorem mn_append_clear : ((("append" : Str) = "clear") ) = False := eq_false (by decide)
@[simp] theorem mn_append_insert : ((("append" : Str) = "insert") ) = False := eq_false (by decide)
@[simp] theorem mn_extend_append : ((("extend" : Str) = "append") ) = False := eq_false (by decide)
@[simp] theorem mn_extend_pop : ((("extend" : Str) = "pop") ) = False := eq_false (by decide)
@[simp] theorem mn_extend_clear : ((("extend" : Str) = "clear") ) = False := eq_false (by decide)
@[simp] theorem mn_extend_insert : ((("extend" : Str) = "insert") ) = False := eq_false (by decide)
@[simp] theorem mn_pop_append : ((("pop" : Str) = "append") ) = False := eq_false (by decide)
@[simp] theorem mn_pop_extend : ((("pop" : Str) = "extend") ) = False := eq_false (by decide)
@[simp] theorem mn_pop_clear : ((("pop" : Str) = "clear") ) = False := eq_false (by decide)
@[simp] theorem mn_pop_insert : ((("pop" : Str) = "insert") ) = False := eq_false (by decide)
@[simp] theorem mn_clear_append : ((("clear" : Str) = "append") ) = False := eq_false (by decide)
@[simp] theorem mn_clear_extend : ((("clear" : Str) = "extend") ) = False := eq_false (by decide)
@[simp] theorem mn_clear_pop : ((("clear" : Str) = "pop") ) = False := eq_false (by decide)
@[simp] theorem mn_clear_insert : ((("clear" : Str) = "insert") ) = False := eq_false (by decide)
@[simp] theorem mn_insert_append : ((("insert" : Str) = "append") ) = False := eq_false (by decide)
@[simp] theorem mn_insert_extend : ((("insert" : Str) = "extend") ) = False := eq_false (by decide)
@[simp] theorem mn_insert_pop : ((("insert" : Str) = "pop") ) = False := eq_false (by decide)
@[simp] theorem mn_insert_clear : ((("insert" : Str) = "clear") ) = False := eq_false (by decide)
/-- what a list's method does -/
def rM (X : Cx) (m : Str) : V → List V → Hp → VK → Prop := fun x vs H Q => ∃ F a d ds r d', x = .ref a ∧ (∀ b, F b → H b ≠ none) ∧ ¬ F a ∧ Ct X.kw F H a d ∧ Rps X.kw F H vs ds ∧ methD m d ds = some (r, d') ∧
  ∀ o v, Ct X.kw F (upd H a o) a d' → Rp X.kw F (upd H a o) v r → Q v (upd H a o)
theorem prW {F : Addr → Prop} {H : Hp} {a : Addr} {o : HO} (nf : ¬ F a) (mu : ∃ u, H a = some u ∧ Mut (some u)) : Pr F H F (upd H a o) :=
  (Le.write (B := fun b => b = a) rfl).pr ⟨fun b z => by rw [z]; exact nf, fun b z => by rw [z]; exact mu⟩
theorem ok_meth1 {m : Str} {id : String} {r : V → List V → Hp → VK → Prop} (h : MtM X id r) (i : ∀ x vs H Q, rM X m x vs H Q → r x vs H Q) : MtR X id (rM X m) :=
  fun pins s σ H x xs v us Q I rx rv q => h pins s σ H x xs v us Q I rx rv (i x xs H Q q)
theorem mD_append {es ds : List D} {r d' : D} (e : methD "append" (.list es) ds = some (r, d')) : ∃ x, ds = [x] ∧ es.length < sizeLine ∧ r = .none ∧ d' = .list (es ++ [x]) := by
  unfold methD at e
  split at e
  · rename_i xs x q
    cases q
    rw [if_pos rfl] at e
    obtain ⟨h1, h2⟩ := ite_none e
    cases h2
    exact ⟨x, rfl, h1, rfl, rfl⟩
  · simp at e
  · simp at e
  · cases e
theorem mD_extend {es ds : List D} {r d' : D} (e : methD "extend" (.list es) ds = some (r, d')) : ∃ ys, ds = [.list ys] ∧ es.length + ys.length ≤ sizeLine ∧ r = .none ∧ d' = .list (es ++ ys) := by
  unfold methD at e
  split at e
  · rename_i xs x q
    cases q
    rw [if_neg (by decide), if_pos rfl] at e
    split at e
    · obtain ⟨h1, h2⟩ := ite_none e
      cases h2
      exact ⟨_, rfl, h1, rfl, rfl⟩
    · cases e
  · simp at e
  · simp at e
  · cases e
theorem mD_pop {es ds : List D} {r d' : D} (e : methD "pop" (.list es) ds = some (r, d')) : (ds = [] ∧ es[es.length - 1]? = some r ∧ d' = .list es.dropLast) ∨ ∃ i k, ds = [.int i] ∧ ixN es.length i = some k ∧ es[k]? = some r ∧ d' = .list (es.eraseIdx k) := by
  unfold methD at e
  split at e
  · rename_i xs x q
    cases q
    rw [if_neg (by decide), if_neg (by decide), if_pos rfl] at e
    split at e
    · obtain ⟨k, e0, e1⟩ := Option.bind_eq_some_iff.mp e
      obtain ⟨y, e2, e3⟩ := Option.map_eq_some_iff.mp e1
      cases e3
      exact .inr ⟨_, k, rfl, e0, e2, rfl⟩
    · cases e
  · rename_i xs q
    cases q
    rw [if_pos rfl] at e
    obtain ⟨y, e1, e2⟩ := Option.map_eq_some_iff.mp e
    cases e2
    exact .inl ⟨rfl, e1, rfl⟩
  · simp at e
  · cases e
theorem mD_clear {es ds : List D} {r d' : D} (e : methD "clear" (.list es) ds = some (r, d')) : ds = [] ∧ r = .none ∧ d' = .list [] := by
  unfold methD at e
  split at e
  · simp at e
  · rename_i xs q
    rw [if_neg (by decide), if_pos rfl] at e
    cases e
    exact ⟨rfl, rfl, rfl⟩
  · simp at e
  · cases e
theorem mD_insert {es ds : List D} {r d' : D} (e : methD "insert" (.list es) ds = some (r, d')) : ∃ i x, ds = [.int i, x] ∧ (0 ≤ i ∧ i ≤ (es.length : Int) ∧ es.length < sizeLine) ∧ r = .none ∧ d' = .list (es.take i.toNat ++ [x] ++ es.drop i.toNat) := by
  unfold methD at e
  split at e
  · simp at e
  · simp at e
  · rename_i xs i x q
    cases q
    rw [if_pos rfl] at e
    obtain ⟨h1, h2⟩ := ite_none e
    cases h2
    exact ⟨i, x, rfl, h1, rfl, rfl⟩
  · cases e
theorem mD_lst {m : Str} {kvs : List (D × D)} {ds : List D} : methD m (.dict kvs) ds = none := by
  unfold methD
  split <;> first | rfl | contradiction
theorem ok_append : MtR X "list.append" (rM X "append") := ok_meth1 mt_append fun x vs H Q h => by
  obtain ⟨F, a, d, ds, r, d', rfl, fd, nf, ct, rp, e, q⟩ := h
  cases ct with
  | @dct kvs es g rk => rw [mD_lst] at e; cases e
  | @dcn L es g n rk => rw [mD_lst] at e; cases e
  | @lst ws es g rk =>
    obtain ⟨x, rfl, hz, rfl, rfl⟩ := mD_append e
    cases rp with
    | @cons y _ _ _ r1 r2 =>
      cases r2
      have pr : ∀ o, Pr F H F (upd H a o) := fun o => prW nf ⟨_, g, trivial⟩
      exact ⟨a, ws, y, rfl, rfl, g, by rw [rk.length]; exact hz, q _ _ (.lst upd_same (Rps.mono (pr _) _ _ (rk.append (.one r1)))) .non⟩
theorem ok_extend : MtR X "list.extend" (rM X "extend") := ok_meth1 mt_extendR fun x vs H Q h => by
  obtain ⟨F, a, d, ds, r, d', rfl, fd, nf, ct, rp, e, q⟩ := h
  cases ct with
  | @dct kvs es g rk => rw [mD_lst] at e; cases e
  | @dcn L es g n rk => rw [mD_lst] at e; cases e
  | @lst ws es g rk =>
    obtain ⟨ys, rfl, hz, rfl, rfl⟩ := mD_extend e
    cases rp with
    | @cons y _ _ _ r1 r2 =>
      cases r2
      cases r1 with
      | @lst b us _ f1 rb rs =>
        have pr : ∀ o, Pr F H F (upd H a o) := fun o => prW nf ⟨_, g, trivial⟩
        exact ⟨a, b, ws, us, rfl, rfl, g, rb, by rw [rk.length, rs.length]; exact hz, q _ _ (.lst upd_same (Rps.mono (pr _) _ _ (rk.append rs))) .non⟩
theorem Rps.dropLast {K : KW} {F : Addr → Prop} {H : Hp} {vs : List V} {ds : List D} (h : Rps K F H vs ds) : Rps K F H vs.dropLast ds.dropLast := by
  rw [List.dropLast_eq_take, List.dropLast_eq_take, h.length]
  exact h.take _
theorem Rps.eraseIdx {K : KW} {F : Addr → Prop} {H : Hp} {vs : List V} {ds : List D} (h : Rps K F H vs ds) (k : Nat) : Rps K F H (vs.eraseIdx k) (ds.eraseIdx k) := by
  rw [List.eraseIdx_eq_take_drop_succ, List.eraseIdx_eq_take_drop_succ]
  exact (h.take _).append (h.drop _)
theorem ok_pop : MtR X "list.pop" (rM X "pop") := by
  intro pins s σ H x vs v us Q I rx rv h
  obtain ⟨F, a, d, ds, r, d', rfl, fd, nf, ct, rp, e, q⟩ := h
  cases ct with
  | @dct kvs es g rk => rw [mD_lst] at e; cases e
  | @dcn L es g n rk => rw [mD_lst] at e; cases e
  | @lst ws es g rk =>
    have pr : ∀ o, Pr F H F (upd H a o) := fun o => prW nf ⟨_, g, trivial⟩
    rcases mD_pop e with ⟨rfl, e1, rfl⟩ | ⟨i, k, rfl, e0, e1, rfl⟩
    · cases rp
      obtain ⟨w, g1, g2⟩ := rk.getD e1
      rw [← rk.length] at g1
      exact mt_pop pins s σ H _ _ v us Q I rx rv ⟨a, ws, w, rfl, rfl, g, g1, q _ _ (.lst upd_same (Rps.mono (pr _) _ _ rk.dropLast)) (Rp.mono (pr _) _ _ g2)⟩
    · obtain ⟨w, g1, g2⟩ := rk.getD e1
      obtain ⟨z1, z2, z3, z4⟩ := ixN_seq e0
      cases rp with
      | @cons y _ _ _ r1 r2 =>
        cases r2
        cases r1
        have hl : (ws.length : Int) ≤ 16777216 := by
          obtain ⟨hz, _⟩ := I.lstM g
          have := sizeLine_eq
          omega
        have el := rk.length
        exact mt_popAt pins s σ H _ _ v us Q I rx rv ⟨a, ws, i, k, w, rfl, rfl, g, by omega, by omega, by rw [el]; exact z1, g1, q _ _ (.lst upd_same (Rps.mono (pr _) _ _ (rk.eraseIdx k))) (Rp.mono (pr _) _ _ g2)⟩
theorem ok_clear : MtR X "list.clear" (rM X "clear") := ok_meth1 mt_clear fun x vs H Q h => by
  obtain ⟨F, a, d, ds, r, d', rfl, fd, nf, ct, rp, e, q⟩ := h
  cases ct with
  | @dct kvs es g rk => rw [mD_lst] at e; cases e
  | @dcn L es g n rk => rw [mD_lst] at e; cases e
  | @lst ws es g rk =>
    obtain ⟨rfl, rfl, rfl⟩ := mD_clear e
    cases rp
    exact ⟨a, ws, rfl, rfl, g, q _ _ (.lst upd_same .nil) .non⟩
theorem ok_insert : MtR X "list.insert" (rM X "insert") := ok_meth1 mt_insert fun x vs H Q h => by
  obtain ⟨F, a, d, ds, r, d', rfl, fd, nf, ct, rp, e, q⟩ := h
  cases ct with
  | @dct kvs es g rk => rw [mD_lst] at e; cases e
  | @dcn L es g n rk => rw [mD_lst] at e; cases e
  | @lst ws es g rk =>
    have pr : ∀ o, Pr F H F (upd H a o) := fun o => prW nf ⟨_, g, trivial⟩
    obtain ⟨i, x, rfl, ⟨h0, h1, h2⟩, rfl, rfl⟩ := mD_insert e
    cases rp with
    | @cons y1 _ _ _ r1 r2 =>
      cases r2 with
      | @cons y2 _ _ _ r2 r3 =>
        cases r3
        cases r1
        have el := rk.length
        have := sizeLine_eq
        exact ⟨a, ws, i, y2, rfl, rfl, g, by omega, h0, by omega, q _ _ (.lst upd_same (Rps.mono (pr _) _ _ (((rk.take _).append (.one r2)).append (rk.drop _)))) .non⟩
end
end RH
set_option maxRecDepth 100000
set_option maxHeartbeats 4000000
/-! Expressions, part 5: methods, dict.get, join, dict displays. -/
namespace RH
open PySem PySem.Spec L2

section
variable {C : Str → Option D} {Γ : Str → Option FD} {n : Nat} {X : Cx} {W : WX} {c : CC} {cf : Str → List SV → RF}
theorem isOwnL_ex {o : Option SV} (h : isOwnL o = true) : ∃ l, o = some (ow (.list l)) := by
  unfold isOwnL at h
  split at h
  · exact ⟨_, rfl⟩
  · cases h
theorem tE_meth {m : Str} {i : Nat} {es : MEs} {σ : L2.St} {H : Hp} {Q : VK} (h : tE X W (evV C cf (.meth m i es)) σ H Q) : tBM X.kw "list" (rM X m) (tVar i) (tVs X W (evVs C cf es)) σ H Q := by
  obtain ⟨F, σd, er, po⟩ := h
  rw [evV] at po
  by_cases ho : isOwnL (slotAt σd i) = true
  · rw [if_pos ho] at po
    obtain ⟨l, hs⟩ := isOwnL_ex ho
    obtain ⟨v, q, a, rfl, nf, ct⟩ := er.at_ i _ hs
    cases ct with
    | @lst ws _ g r =>
      refine ⟨_, q, .inl ⟨rfl, _, .inl (.inl g)⟩, F, σd, er, ?_⟩
      cases e1 : evVs C cf es σd with
      | bad => rw [e1] at po; exact po
      | exc c s => rw [e1] at po; exact po
      | ok p =>
        rw [e1, R.bind_ok] at po
        intro F1 H1 vs n1 rp
        cases hs1 : slotAt p.2 i with
        | none => rw [hs1] at po; exact po.elim
        | some sv1 =>
          obtain ⟨m1, d1⟩ := sv1
          cases m1 with
          | frz => rw [hs1] at po; exact po.elim
          | lck => rw [hs1] at po; exact po.elim
          | own =>
            rw [hs1] at po
            dsimp only at po
            cases e2 : methD m d1 p.1 with
            | none => rw [e2] at po; exact po.elim
            | some r =>
              rw [e2, ofOpt_some, R.bind_ok] at po
              obtain ⟨v1, q1, a1, e3, nf1, ct1⟩ := n1.er.at_ i _ hs1
              rw [q] at q1; cases q1; cases e3
              refine ⟨F1, a, d1, p.1, r.1, r.2, rfl, n1.er.fd, nf1, ct1, rp, e2, fun o v ct2 rp2 => ?_⟩
              exact po F1 _ v (n1.trans (Nx.write n1.er hs1 q ct2)) rp2
  · rw [if_neg ho] at po; exact po.elim
theorem isSlotE_ok {i : Nat} {o : Expr} (h : isSlotE c i o = true) : ∃ x p, o = .Name x p ∧ isSlot c i x = true := by
  unfold isSlotE at h
  split at h
  · exact ⟨_, _, rfl, h⟩
  · cases h
theorem mts_len : ∀ {ms : MEs} {es : List Expr}, mts c ms es = true → es = [] → ms = .nil
  | .nil, _, _, _ => rfl
  | .cons m ms, es, h, e => by
    obtain ⟨a, r, rfl, _⟩ := mts_cons h
    cases e
theorem step_meth (m : Str) (i : Nat) {es : MEs} (ok : AllOk C Γ n es) : EOk C Γ n (.meth m i es) := fun c e X W x h => by
  unfold mt at h
  split at h
  · rename_i o nm ap ps cp
    simp only [Bool.and_eq_true, decide_eq_true_eq] at h
    obtain ⟨⟨⟨⟨rfl, h2⟩, h3⟩, h4⟩, h5⟩ := h
    obtain ⟨y, pp, rfl, hsl⟩ := isSlotE_ok h2
    obtain ⟨v1, v2, v3, v4⟩ := isSlot_vis x hsl
    have pv := pe_var (pos := pp) v1 v2 v3 v4
    have pa := pa_Vs (W := W) x ok h3
    have ns := mts_noStar h3
    match ps, h3, h5, pa, ns with
    | [], h3, h5, pa, ns =>
      have en := mts_len h3 rfl
      subst en
      have h5' : decide (m = "pop") || decide (m = "clear") := h5
      simp only [Bool.or_eq_true, decide_eq_true_eq] at h5'
      have to0 : ∀ σ H Q, tE X W (evV C (callF C Γ n) (.meth m i .nil)) σ H Q → tBM0 X.kw "list" (rM X m) (tVar i) σ H Q := fun σ H Q q => by
        obtain ⟨v, q1, q2, q3⟩ := tE_meth q
        exact ⟨v, q1, q2, tVs_nil q3⟩
      rcases h5' with rfl | rfl
      · exact val_both (PEimp (pe_bm0 PySem.F.plainAttrs_list PySem.F.slot_list_pop PySem.F.type_list_pop ok_pop pv rfl h4) to0) fun _ => rfl
      · exact val_both (PEimp (pe_bm0 PySem.F.plainAttrs_list PySem.F.slot_list_clear PySem.F.type_list_clear ok_clear pv rfl h4) to0) fun _ => rfl
    | [p], h3, h5, pa, ns =>
      have h5' : (decide (m = "append") || decide (m = "extend") || decide (m = "pop")) = true := h5
      simp only [Bool.or_eq_true, decide_eq_true_eq] at h5'
      have s1 := star_cons (es := []) (env := X.env) (ns p List.mem_cons_self)
      have s2 : ((backTo cp (starEach [p] X.env)).all (fun x => !x.1) && (backToKw cp (keywordEach [] X.env)).all (fun x => x.1.isSome)
        && decide (([p] : List Expr).length + ([] : List Keyword).length + (if ([] : List Keyword).isEmpty then 0 else 1) < 30)) = true := by
        rw [star_all ns]; rfl
      rcases h5' with (rfl | rfl) | rfl
      · exact val_both (PEimp (pe_bm PySem.F.plainAttrs_list PySem.F.slot_list_append PySem.F.type_list_append ok_append pv pa rfl s2 h4 s1 rfl) fun _ _ _ => tE_meth) fun _ => rfl
      · exact val_both (PEimp (pe_bm PySem.F.plainAttrs_list PySem.F.slot_list_extend PySem.F.type_list_extend ok_extend pv pa rfl s2 h4 s1 rfl) fun _ _ _ => tE_meth) fun _ => rfl
      · exact val_both (PEimp (pe_bm PySem.F.plainAttrs_list PySem.F.slot_list_pop PySem.F.type_list_pop ok_pop pv pa rfl s2 h4 s1 rfl) fun _ _ _ => tE_meth) fun _ => rfl
    | [p, p'], h3, h5, pa, ns =>
      have h5' : decide (m = "insert") = true := h5
      simp only [decide_eq_true_eq] at h5'
      subst h5'
      have s1 := star_cons (es := [p']) (env := X.env) (ns p List.mem_cons_self)
      have s2 : ((backTo cp (starEach [p, p'] X.env)).all (fun x => !x.1) && (backToKw cp (keywordEach [] X.env)).all (fun x => x.1.isSome)
        && decide (([p, p'] : List Expr).length + ([] : List Keyword).length + (if ([] : List Keyword).isEmpty then 0 else 1) < 30)) = true := by
        rw [star_all ns]; rfl
      have s3 := star_any (pos := cp) (env := X.env) fun q hq => ns q (List.mem_cons_of_mem p hq)
      exact val_both (PEimp (pe_bm PySem.F.plainAttrs_list PySem.F.slot_list_insert PySem.F.type_list_insert ok_insert pv pa rfl s2 h4 s1 s3) fun _ _ _ => tE_meth) fun _ => rfl
    | p :: p' :: p'' :: r, h3, h5, pa, ns => cases h5
  · cases h

/-! ### d.get(k, x) -/
theorem key_val {K : KW} {F : Addr → Prop} {H : Hp} {v : V} {d : D} {k : Key} (r : Rt K F H v d) (h : key? d = some k) : v = kV k := by
  unfold key? at h
  split at h
  · cases h; exact r.int
  · cases h; exact r.str
  · cases h
theorem isDictD_ex {d : D} (h : isDictD d = true) : ∃ kvs, d = .dict kvs := by
  unfold isDictD at h
  split at h
  · exact ⟨_, rfl⟩
  · cases h
theorem dGet_ex {a b z : D} {sv : SV} (h : dGet [a, b, z] = some sv) : ∃ kvs o, a = .dict kvs ∧ dAt kvs b = some o ∧ sv = fz (o.getD z) := by
  cases a <;> first | (cases h; done) | skip
  obtain ⟨o, h1, h2⟩ := Option.map_eq_some_iff.mp h
  exact ⟨_, o, rfl, h1, h2.symm⟩
/-- a dict of either kind -/
def IsDU (X : Cx) (H : Hp) (a : Addr) : Prop := IsD H a ∨ ∃ L F, IsN X.w H a L ∧ KeysAt X.kw F H L
theorem isDU_at {pins : List (Addr × Obj)} {σ : L2.St} {H : Hp} {s : Shared} {a : Addr} (I : Inv X pins σ H s) (d : IsDU X H a) : s.TypeIs (.ref a) "dict" ∧ (∀ b, Value.ref a = .ref b → ∃ ob, s.heap.get? b = some ob ∧ ob.dict = none) ∧ (a == sysModules) = false := by
  rcases d with d | ⟨L, F, e, ka⟩
  · exact isD_at I d
  · obtain ⟨h1, _, xs, _, hm⟩ := dn_dict I e ka
    exact ⟨hm.typeIs, PyProof.Rows.dictOfH_noDict hm, h1⟩
def tGetU (X : Cx) (td ty tx : TE) : TE := fun σ H Q => td σ H fun x H1 => ∃ a, x = .ref a ∧ IsDU X H1 a ∧ ty σ H1 fun y H2 => tx σ H2 fun z H3 => (∃ o, DGet H3 a y o ∧ Q (o.getD z) H3) ∨
  ∃ L F d k, IsN X.w H3 a L ∧ KeysAt X.kw F H3 L ∧ Rp X.kw F H3 y d ∧ tk? d = some k ∧ Q ((nLook L k).getD z) H3
theorem pe_getU {o e f : Expr} {apos cpos : Pos} {td ty tx : TE} (hu : X.A.units + 64 < cLine) (ho : PE X o td) (he : PE X e ty) (hf : PE X f tx) (m : M2 X o "get" apos e f cpos) : PE X (.Call (.Attribute o "get" apos) [e, f] [] cpos) (tGetU X td ty tx) := by
  refine ⟨fun pins s σ H Q I h => ?_⟩
  refine wpAny_Call_method m.base m.few m.line PySem.F.plainAttrs_dict PySem.F.slot_dict_get PySem.F.type_dict_get (thn (ho.run pins s σ H _ I h) fun u s1 ⟨x, H1, I1, rx, a, ex, d, q1⟩ => ?_)
  subst ex
  obtain rfl : u = Value.ref a := rx
  obtain ⟨t1, t2, _⟩ := isDU_at I1 d
  refine ⟨t1, t2, ?_⟩ <;> rw [m.trees]
  refine Calls.callWith_builtin rfl (Calls.evalArgs_plain (Calls.spliced_cons (thn (he.run pins s1 σ H1 _ I1 q1) fun iv s2 ⟨y, H2, I2, ry, q2⟩ => Calls.spliced_cons (thn (hf.run pins s2 σ H2 _ I2 q2) fun fv s3 ⟨z, H3, I3, rz, q3⟩ => Calls.spliced_nil ?_))))
  rcases q3 with ⟨ov, g, q3⟩ | ⟨L, F, d, k, e1, ka, rk, tk, q3⟩
  · exact d_get2 (by omega) I3 g ry rz fun w' s4 I4 rw' => ⟨_, H3, I4, rw', q3⟩
  · obtain ⟨b, rfl, rfl, ki⟩ := key_is I3 tk rk ry
    exact dn_get2 (by omega) I3 e1 ka ki rz fun w' s4 I4 rw' => ⟨_, H3, I4, rw', q3⟩
theorem tE_getd {o k z : ME} {σ : L2.St} {H : Hp} {Q : VK} (h : tE X W (evV C cf (.getd o k z)) σ H Q) : tGetU X (tO X W (evA1 C cf o)) (tE X W (evV C cf k)) (tE X W (evV C cf z)) σ H Q := by
  obtain ⟨F, σd, er, po⟩ := h
  refine ⟨F, σd, er, ?_⟩
  rw [evV] at po
  refine PostO.bind (r := evA1 C cf o σd) po fun p F1 H1 v e1 n1 r1 po => ?_
  cases e2 : getO p.2 p.1 with
  | none => rw [e2] at po; exact po.elim
  | some s0 =>
    rw [e2, ofOpt_some, R.bind_ok] at po
    by_cases hd : isDictD s0.d = true
    · rw [if_pos hd] at po
      obtain ⟨kv0, hd'⟩ := isDictD_ex hd
      have rt := r1.rt n1.er e2
      rw [hd'] at rt
      obtain ⟨a, rfl, hdct⟩ := rt.dct
      have isd : IsDU X H1 a := by
        rcases hdct with ⟨kvs, rd, _⟩ | ⟨L, rd, _, rk⟩
        · exact .inl (.inl ⟨_, rd⟩)
        · exact .inr ⟨L, F1, .inl rd, rk.keys⟩
      refine ⟨a, rfl, isd, F1, p.2, n1.er, PostE.bind (po.on er n1) fun q F2 H2 w e3 n2 r2 po => ⟨F2, q.2, n2.er, PostE.bind (po.on n1.er n2) fun r F3 H3 y e4 n3 r3 po => ?_⟩⟩
      cases e5 : getO r.2 p.1 with
      | none => rw [e5] at po; exact po.elim
      | some s1 =>
        rw [e5, ofOpt_some, R.bind_ok] at po
        cases e6 : dGet [s1.d, q.1.d, r.1.d] with
        | none => rw [e6] at po; exact po.elim
        | some sv =>
          rw [e6, ofOpt_some, R.bind_ok] at po
          obtain ⟨kvs', oo, e7, e8, rfl⟩ := dGet_ex e6
          have rt1 := (r1.keep (fun a z => er.own_there (n1.subA a z)) (n2.trans n3) n1.er).rt n3.er e5
          rw [e7] at rt1
          rcases dAt_ex e8 with ⟨kk, k1, k2, rfl⟩ | ⟨kk, k1, k2, rfl⟩
          · obtain ⟨a', ks, ea, rd', rk⟩ := rt1.dctK k2
            cases ea
            have ek : w = kV kk := key_val r2.rt k1
            subst ek
            refine .inl ⟨_, .inl ⟨ks, kk, rd', rfl, rfl⟩, ?_⟩
            obtain ⟨l1, l2⟩ := rk.look (k := kk)
            cases e10 : dLook kvs' kk with
            | none =>
              rw [l2 e10]
              rw [e10] at po
              obtain ⟨F4, n4, rp, _⟩ := n3.fr n2.er r3
              exact po F4 H3 y n4 rp
            | some d' =>
              obtain ⟨v', g1, g2⟩ := l1 d' e10
              rw [g1]
              rw [e10] at po
              exact po F3 H3 v' n3 g2
          · obtain ⟨a', L, ea, rd', rk⟩ := rt1.dctT k2
            cases ea
            have rw2 : Rp X.kw F3 H3 w q.1.d := Rp.mono (n3.le.pr n2.er.bk) _ _ (r2.rt.tk k1)
            refine .inr ⟨L, F3, q.1.d, kk, rd', rk.keys, rw2, k1, ?_⟩
            obtain ⟨l1, l2⟩ := rk.look (k := kk)
            cases e10 : tLook kvs' kk with
            | none =>
              rw [l2 e10]
              rw [e10] at po
              obtain ⟨F4, n4, rp, _⟩ := n3.fr n2.er r3
              exact po F4 H3 y n4 rp
            | some d' =>
              obtain ⟨v', g1, g2⟩ := l1 d' e10
              rw [g1]
              rw [e10] at po
              exact po F3 H3 v' n3 g2
    · rw [if_neg hd] at po; exact po.elim
theorem noCall_base {p : Expr} {m : Str} {env : Env} (h : noCall p = true) (h2 : True) : attributeBase p m env (eval p env) = eval p env := by
  cases p <;> first | rfl | (simp [noCall] at h)
theorem step_getd {o k z : ME} (ho : EOk C Γ n o) (hk : EOk C Γ n k) (hz : EOk C Γ n z) : EOk C Γ n (.getd o k z) := fun c e X W x h => by
  unfold mt at h
  split at h
  · rename_i p nm ap q r cp
    simp only [Bool.and_eq_true, decide_eq_true_eq] at h
    obtain ⟨⟨⟨⟨⟨⟨⟨rfl, h2⟩, h3⟩, h4⟩, h5⟩, h6⟩, h7⟩, h8⟩ := h
    have ns : ∀ e ∈ [q, r], noStar e = true := fun e he => by
      rcases List.mem_cons.mp he with rfl | he
      · exact h7
      · rw [List.mem_singleton.mp he]; exact h8
    refine val_both (PEimp (pe_getU x.room.units (pe_A1 x ho h2) (hk c q X W x h3).1 (hz c r X W x h4).1 ⟨noCall_base h6 trivial, ?_, h5, ?_⟩) fun _ _ _ => tE_getd) fun _ => rfl
    · rw [star_all ns]; rfl
    · rw [star_cons h7, star_cons h8]; rfl
  · cases h

/-! ### sep.join(xs) -/
theorem strs_ex {K : KW} {F : Addr → Prop} {H : Hp} : ∀ {ds : List D} {vs : List V} {ys : List Str}, Rps K F H vs ds → strs? ds = some ys → vs = ys.map V.str
  | [], vs, ys, r, e => by cases r; cases e; rfl
  | d :: ds, vs, ys, r, e => by
    cases r with
    | cons a b =>
      cases d <;> first | (cases e; done) | skip
      obtain ⟨l, h1, h2⟩ := Option.map_eq_some_iff.mp e
      subst h2
      cases a
      rw [strs_ex b h1]
      rfl
theorem dJoin_ex {a b : D} {sv : SV} (h : dJoin [a, b] = some sv) : ∃ x xs ys, a = .str x ∧ b = .list xs ∧ strs? xs = some ys ∧ (ys.map (·.length)).sum + ys.length * x.length ≤ 16777216 ∧ sv = fz (.str (Txt.join x ys)) := by
  cases a <;> first | (cases h; done) | skip
  cases b <;> first | (cases h; done) | skip
  obtain ⟨ys, h1, h2⟩ := Option.bind_eq_some_iff.mp h
  obtain ⟨h3, h4⟩ := ite_none h2
  cases h4
  exact ⟨_, _, ys, rfl, rfl, h1, h3, rfl⟩
theorem isStrD_ex {d : D} (h : isStrD d = true) : ∃ x, d = .str x := by
  unfold isStrD at h
  split at h
  · exact ⟨_, rfl⟩
  · cases h
theorem tE_join {o a : ME} {σ : L2.St} {H : Hp} {Q : VK} (h : tE X W (evV C cf (.join o a)) σ H Q) :
    tM1 (fun x xs H Q => ∃ a p, ∃ ys : List Str, x = .str a ∧ xs = [.ref p] ∧ (SqL X.kw H p (ys.map V.str) ∨ SqT X.kw H p (ys.map V.str)) ∧
      (ys.map (·.length)).sum + ys.length * a.length ≤ 16777216 ∧ Q (.str (Txt.join a ys)) H) (tE X W (evV C cf o)) (tO X W (evA1 C cf a)) σ H Q := by
  obtain ⟨F, σd, er, po⟩ := h
  refine ⟨F, σd, er, ?_⟩
  rw [evV] at po
  refine PostE.bind po fun p F1 H1 v e1 n1 r1 po => ?_
  by_cases hd : isStrD p.1.d = true
  · rw [if_pos hd] at po
    obtain ⟨s, hs⟩ := isStrD_ex hd
    have ev : v = .str s := by
      have := r1.rt
      rw [hs] at this
      exact this.str
    subst ev
    refine ⟨⟨s, rfl⟩, F1, p.2, n1.er, PostO.bind (r := evA1 C cf a p.2) (po.on er n1) fun q F2 H2 w e2 n2 r2 po => ?_⟩
    cases e3 : getO q.2 q.1 with
    | none => rw [e3] at po; exact po.elim
    | some s1 =>
      rw [e3, ofOpt_some, R.bind_ok] at po
      cases e4 : dJoin [p.1.d, s1.d] with
      | none => rw [e4] at po; exact po.elim
      | some sv =>
        rw [e4, ofOpt_some, R.bind_ok] at po
        obtain ⟨y, xs, ys, g1, g2, g3, g4, rfl⟩ := dJoin_ex e4
        rw [hs] at g1
        cases g1
        have rt := r2.rt n2.er e3
        rw [g2] at rt
        obtain ⟨b, vs, rfl, rd, rs⟩ := rt.lst
        have := strs_ex rs g3
        subst this
        exact ⟨s, b, ys, rfl, rfl, .inl (.inl rd), g4, po F2 H2 _ n2 (.str _)⟩
  · rw [if_neg hd] at po; exact po.elim
theorem step_join {o a : ME} (ho : EOk C Γ n o) (ha : EOk C Γ n a) : EOk C Γ n (.join o a) := fun c e X W x h => by
  unfold mt at h
  split at h
  · rename_i p nm ap q cp
    simp only [Bool.and_eq_true, decide_eq_true_eq] at h
    obtain ⟨⟨⟨⟨⟨rfl, h2⟩, h3⟩, h4⟩, h5⟩, h6⟩ := h
    refine val_both (PEimp (pe_join (ho c p X W x h2).1 (pe_A1 x ha h3) ?_ (noCall_base h5 trivial) h4) fun _ _ _ => tE_join) fun _ => rfl
    rw [star_cons h6]; rfl
  · cases h

/-! ### {k: v, ..} -/
theorem RpK.put {K : KW} {F : Addr → Prop} {H : Hp} {k : Key} {v : V} {d : D} {kvs : List (Key × V)} {ds : List (D × D)} (h : RpK K F H kvs ds) (r : Rp K F H v d) : RpK K F H (putK kvs k v) (dPut ds k d) := by
  obtain ⟨l1, l2⟩ := h.look (k := k)
  have e : (kvs.any fun kv => decide (kv.1 = k)) = (dLook ds k).isSome := by
    rw [valV_any]
    cases q : dLook ds k with
    | none => rw [l2 q]; rfl
    | some d' => obtain ⟨v', g, _⟩ := l1 d' q; rw [g]; rfl
  unfold putK dPut
  rw [e]
  split
  · rename_i q0
    clear q0 e l1 l2
    induction ds generalizing kvs with
    | nil => cases h; exact .nil
    | cons p ds ih =>
      cases h with
      | @cons k' v' kd d' r' s' a b c =>
        have := ih c
        simp only [List.map_cons]
        by_cases q : k' = k
        · subst q
          rw [if_pos rfl, if_pos a]
          exact .cons a r this
        · rw [if_neg q, if_neg (by rw [a]; exact fun z => q (Option.some.inj z))]
          exact .cons a b this
  · have app : ∀ {ds : List (D × D)} {kvs : List (Key × V)}, RpK K F H kvs ds → RpK K F H (kvs ++ [(k, v)]) (ds ++ [(keyD k, d)]) := by
      intro ds
      induction ds with
      | nil => intro kvs h; cases h; exact .cons (by cases k <;> rfl) r .nil
      | cons p ds ih => intro kvs h; cases h with | cons a b c => exact .cons a b (ih c)
    exact app h
theorem RpK.merge {K : KW} {F : Addr → Prop} {H : Hp} : ∀ {ms : List (D × D)} {more : List (Key × V)} {kvs : List (Key × V)} {ds : List (D × D)}, RpK K F H more ms → RpK K F H kvs ds →
    RpK K F H (mergeK kvs more) (ms.foldl (fun acc p => match key? p.1 with | some k => dPut acc k p.2 | none => acc) ds)
  | [], more, kvs, ds, h, g => by cases h; exact g
  | (kd, d) :: ms, more, kvs, ds, h, g => by
    cases h with
    | @cons k' v' kd' d' r' s' a b c =>
      have := RpK.merge c (g.put b (k := k'))
      simp only [List.foldl_cons, a]
      exact this
def flatV : List (V × V) → List V
  | [] => []
  | (a, b) :: r => a :: b :: flatV r
def trsOf (X : Cx) (W : WX) (C : Str → Option D) (cf : Str → List SV → RF) : MEs → List (TE × TE)
  | .cons k (.cons v r) => (tE X W (evV C cf k), tE X W (evV C cf v)) :: trsOf X W C cf r
  | _ => []
theorem pairs_ex {K : KW} {F : Addr → Prop} {H : Hp} : ∀ {ps : List (V × V)} {ds : List D} {ms : List (D × D)}, Rps K F H (flatV ps) ds → pairsD ds = some ms → ∃ kvs : List (Key × V), ps = kvs.map (fun kv => (kV kv.1, kv.2)) ∧ RpK K F H kvs ms
  | [], ds, ms, r, e => by cases r; cases e; exact ⟨[], rfl, .nil⟩
  | (a, b) :: ps, ds, ms, r, e => by
    cases r with
    | cons r1 r =>
      cases r with
      | cons r2 r =>
        obtain ⟨k, h1, h2⟩ := Option.bind_eq_some_iff.mp e
        obtain ⟨ms', h3, h4⟩ := Option.map_eq_some_iff.mp h2
        subst h4
        obtain ⟨kvs, rfl, h5⟩ := pairs_ex r h3
        have ea : a = kV k := key_val (.rp r1) h1
        subst ea
        exact ⟨(k, b) :: kvs, rfl, .cons h1 r2 h5⟩
theorem tE_mono {m : EnvD → R (SV × EnvD)} {σ : L2.St} {H : Hp} {Q Q' : VK} (h : tE X W m σ H Q) (i : ∀ v H, Q v H → Q' v H) : tE X W m σ H Q' := by
  obtain ⟨F, σd, er, po⟩ := h
  refine ⟨F, σd, er, ?_⟩
  revert po
  cases m σd with
  | bad => exact id
  | exc c s => exact id
  | ok p => exact fun po F1 H1 v n1 r1 => i _ _ (po F1 H1 v n1 r1)
theorem mtD_nil {ks : List (Option Expr)} {vs : List Expr} (h : mtD c .nil ks vs = true) : ks = [] ∧ vs = [] := by
  unfold mtD at h
  split at h
  · exact ⟨rfl, rfl⟩
  · cases h
theorem mtD_cons {k : ME} {ms : MEs} {ks : List (Option Expr)} {vs : List Expr} (h : mtD c (.cons k ms) ks vs = true) : ∃ v ms' a r b s, ms = .cons v ms' ∧ ks = some a :: r ∧ vs = b :: s ∧ mt c k a = true ∧ mt c v b = true ∧ mtD c ms' r s = true := by
  cases ms with
  | nil => unfold mtD at h; cases h
  | cons v ms' =>
    unfold mtD at h
    split at h
    · simp only [Bool.and_eq_true] at h
      exact ⟨_, _, _, _, _, _, rfl, rfl, rfl, h.1.1, h.1.2, h.2⟩
    · cases h
theorem mtD_all (x : XC X W c C Γ n) (pos : Pos) : ∀ (ks : List (Option Expr)) (vs : List Expr) (ms : MEs), AllOk C Γ n ms → mtD c ms ks vs = true →
    PPs X pos ks vs (trsOf X W C (callF C Γ n) ms) ∧ ks.all (·.isSome) = true ∧ ks.length = vs.length ∧ (trsOf X W C (callF C Γ n) ms).length = ks.length ∧
      ∀ σ H Q, tVs X W (evVs C (callF C Γ n) ms) σ H Q → ∀ P : List (V × V) → Hp → Prop, (∀ ps H2, ps.length = ks.length → Q (flatV ps) H2 → P ps H2) → tPairs (trsOf X W C (callF C Γ n) ms) σ H P
  | ks, vs, .nil, _, h => by
    obtain ⟨rfl, rfl⟩ := mtD_nil h
    exact ⟨pps_nil, rfl, rfl, rfl, fun σ H Q q P i => i _ _ rfl (tVs_nil q)⟩
  | ks, vs, .cons k ms, ok, h => by
    obtain ⟨v, ms', a, r, b, s, rfl, rfl, rfl, h1, h2, h3⟩ := mtD_cons h
    obtain ⟨g1, g2, g3, g4, g5⟩ := mtD_all x pos r s ms' ok.2.2 h3
    refine ⟨pps_cons (ok.1 c a X W x h1).1 (ok.2.1 c b X W x h2).1 g1, by simpa using g2, by simpa using g3, by simpa [trsOf] using g4, fun σ H Q q P i => ?_⟩
    refine tE_mono (tVs_cons q) fun y H1 q1 => tE_mono (tVs_cons q1) fun w H2 q2 => ?_
    exact g5 σ H2 _ q2 _ fun ps H3 e q3 => i _ _ (congrArg (· + 1) e) q3
/-- a new thing stands at p, behind more -/
theorem Nx.newAt {K : KW} {F F1 : Addr → Prop} {H H1 : Hp} {σd σd1 : EnvD} {σ : L2.St} {p : Addr} {o o' : HO} (er : ER K F H σd σ) (hp : H p = none) (n1 : Nx K F (upd H p o) σd σ F1 H1 σd1) (m : H1 p = some o) (mu : Mut (some o)) :
    Nx K F H σd σ F1 (upd H1 p o') σd1 ∧ ¬ F1 p ∧ Pr F1 H1 F1 (upd H1 p o') := by
  have np : ¬ F p := fun z => er.fd p z hp
  have nr : ¬ RefA σd σ p := fun z => er.ref_there z hp
  have nf : ¬ F1 p := fun z => np (n1.le.nf p (by rw [upd_same]; exact fun q => nomatch q) (fun q => nr q.ref) z)
  have bk : Bk (fun b => b = p) F1 H1 := ⟨fun b z => by rw [z]; exact nf, fun b z => by rw [z]; exact ⟨o, m, mu⟩⟩
  have l : Le (fun b => b = p) F1 H1 F1 (upd H1 p o') := Le.write rfl
  refine ⟨⟨((Le.new (B := OwnA σd σ) (F := F) hp).trans n1.le fun a z => .inl z).trans l fun a z => .inr (by rw [z]; exact hp), n1.er.le l bk fun i sv a h1 h2 h3 z => ?_, n1.sub, n1.suR, n1.lk, n1.st⟩, nf, l.pr bk⟩
  subst z
  exact nr (n1.suR _ ⟨i, sv, h1, h2, h3⟩)
theorem dctD_ex {l : List D} {d : D} (h : dctD l = some d) : ∃ ms, pairsD l = some ms ∧ d = .dict (ms.foldl (fun acc p => match key? p.1 with | some k => dPut acc k p.2 | none => acc) []) := by
  obtain ⟨ms, h1, h2⟩ := Option.map_eq_some_iff.mp h
  exact ⟨ms, h1, h2.symm⟩
theorem step_dct {es : MEs} (ok : AllOk C Γ n es) : EOk C Γ n (.dct es) := fun c e X W x h => by
  unfold mt at h
  split at h
  · rename_i ks vs pos
    simp only [Bool.and_eq_true, decide_eq_true_eq] at h
    obtain ⟨h1, h2⟩ := h
    obtain ⟨g1, g2, g3, g4, g5⟩ := mtD_all x pos ks vs es ok h1
    have key : ∀ (σ : L2.St) (H : Hp) (Q : VK), tE X W (evV C (callF C Γ n) (.dct es)) σ H Q → ∀ p, H p = none → tVs X W (evVs C (callF C Γ n) es) σ (upd H p (.dK [])) fun xs H2 => H2 p = some (.dK []) ∧
        ∀ ps, flatV ps = xs → ∃ kvs : List (Key × V), ps = kvs.map (fun kv => (kV kv.1, kv.2)) ∧ Q (.ref p) (upd H2 p (.dK (mergeK [] kvs))) := fun σ H Q q p hp => by
      obtain ⟨F, σd, er, po⟩ := q
      have n0 : Le No F H F (upd H p (.dK [])) := Le.new hp
      have nn : Nx X.kw F H σd σ F (upd H p (.dK [])) σd := ⟨n0.more fun _ z => z.elim, er.le0 n0, fun _ d z => ⟨d, z⟩, fun _ z => z, fun _ _ z _ => z, fun _ _ z m => ⟨_, z, m⟩⟩
      refine ⟨F, σd, nn.er, ?_⟩
      rw [evV] at po
      cases e1 : evVs C (callF C Γ n) es σd with
      | bad => rw [e1] at po; exact po
      | exc c s => rw [e1] at po; exact fun F' H' Ca n' g => po F' H' Ca (nn.trans n') g
      | ok r =>
        rw [e1, R.bind_ok] at po
        intro F1 H1 xs n1 rp
        cases e2 : dctD r.1 with
        | none => rw [e2] at po; exact po.elim
        | some d =>
          rw [e2, ofOpt_some, R.bind_ok] at po
          have hp1 : H1 p = some (.dK []) := n1.le.kp p _ upd_same (fun z => er.own_there z hp) fun z => er.fd p z hp
          refine ⟨hp1, fun ps ef => ?_⟩
          obtain ⟨ms, e3, rfl⟩ := dctD_ex e2
          subst ef
          obtain ⟨kvs, rfl, rk⟩ := pairs_ex rp e3
          obtain ⟨m1, m2, m3⟩ := Nx.newAt (o' := .dK (mergeK [] kvs)) er hp n1 hp1 trivial
          refine ⟨kvs, rfl, po F1 _ _ m1 ⟨p, rfl, m2, hp, .dct upd_same (RpK.mono m3 _ _ (RpK.merge rk .nil))⟩⟩
    cases ks with
    | nil =>
      cases vs with
      | cons b s => simp at g3
      | nil =>
        refine val_both (PEimp pe_dnewK fun σ H Q q p hp => ?_) fun _ => rfl
        have en : es = .nil := by
          cases es with
          | nil => rfl
          | cons k ms => obtain ⟨_, _, _, _, _, _, _, z, _⟩ := mtD_cons h1; cases z
        subst en
        obtain ⟨_, q2⟩ := tVs_nil (key σ H Q q p hp)
        obtain ⟨kvs, e, q3⟩ := q2 [] rfl
        cases kvs with
        | cons a b => cases e
        | nil =>
          have : upd (upd H p (.dK [])) p (.dK (mergeK [] [])) = upd H p (.dK []) := by
            funext z
            by_cases hz : z = p
            · subst hz; rw [upd_same, upd_same]; rfl
            · rw [upd_ne hz]
          rw [this] at q3
          exact q3
    | cons k0 ks0 =>
      refine val_both (PEimp (pe_disp g1 g2 g3 (by simp) h2) fun σ H Q q p hp => ?_) fun _ => rfl
      refine g5 σ _ _ (key σ H Q q p hp) _ fun ps H2 el ⟨q1, q2⟩ => ⟨q1, ?_⟩
      obtain ⟨kvs, e, q3⟩ := q2 ps rfl
      refine ⟨kvs, e, ?_, q3⟩
      have : ps.length = kvs.length := by rw [e, List.length_map]
      omega
  · cases h
end
end RH
set_option maxRecDepth 100000
set_option maxHeartbeats 4000000
/-! Targets, and what loops go through. -/
namespace RH
open PySem PySem.Spec L2

section
variable {K : KW}
/-- behind statements: the slots' values may be others now; nw: new things of one's own may stand in slots; pn: slots that keep their values -/
structure Ns (K : KW) (nw : Prop) (pn : Nat → Prop) (F : Addr → Prop) (H : Hp) (σd : EnvD) (σ : L2.St) (F' : Addr → Prop) (H' : Hp) (σd' : EnvD) (σ' : L2.St) : Prop where
  le : Le (OwnA σd σ) F H F' H'
  er : ER K F' H' σd' σ'
  sub : ∀ (j : Nat) (d : D) (a : Addr), slotAt σd' j = some (ow d) → σ'[j]? = some (some (.ref a)) → (∃ d0, slotAt σd j = some (ow d0) ∧ σ[j]? = some (some (.ref a))) ∨ (nw ∧ H a = none)
  suR : ∀ a, RefA σd' σ' a → RefA σd σ a ∨ (nw ∧ H a = none)
  lk : ∀ (i : Nat) (sv : SV), slotAt σd i = some sv → sv.md = .lck → slotAt σd' i = some sv ∧ σ'[i]? = σ[i]?
  st : ∀ (i : Nat), pn i → σ'[i]? = σ[i]? ∧ ∀ sv, slotAt σd i = some sv → sv.md ≠ .lck → ∃ sv', slotAt σd' i = some sv' ∧ sv'.md ≠ .lck
  len : σ'.length = σ.length
variable {F F1 F2 : Addr → Prop} {H H1 H2 : Hp} {σd σd1 σd2 : EnvD} {σ σ1 σ2 : L2.St} {nw : Prop} {pn : Nat → Prop}
theorem Ns.subA (n : Ns K nw pn F H σd σ F1 H1 σd1 σ1) (a : Addr) (z : OwnA σd1 σ1 a) : OwnA σd σ a ∨ (nw ∧ H a = none) := let ⟨j, d, h1, h2⟩ := z; (n.sub j d a h1 h2).elim (fun ⟨d0, q1, q2⟩ => .inl ⟨j, d0, q1, q2⟩) .inr
theorem Ns.refl (e : ER K F H σd σ) : Ns K nw pn F H σd σ F H σd σ := ⟨Le.refl, e, fun _ d a z q => .inl ⟨d, z, q⟩, fun _ z => .inl z, fun _ _ z _ => ⟨z, rfl⟩, fun _ _ => ⟨rfl, fun _ z m => ⟨_, z, m⟩⟩, rfl⟩
theorem Nx.ns (n : Nx K F H σd σ F1 H1 σd1) : Ns K nw pn F H σd σ F1 H1 σd1 σ := ⟨n.le, n.er, fun j d a z q => let ⟨d0, q0⟩ := n.sub j d z; .inl ⟨d0, q0, q⟩, fun a z => .inl (n.suR a z), fun i sv z m => ⟨n.lk i sv z m, rfl⟩, fun i _ => ⟨rfl, n.st i⟩, rfl⟩
theorem Le.none_back {B F F' : Addr → Prop} {H H' : Hp} (l : Le B F H F' H') {a : Addr} (h : H' a = none) : H a = none := by
  cases q : H a with
  | none => rfl
  | some o => exact absurd h (l.al a (by rw [q]; exact fun z => nomatch z))
theorem Ns.trans (a : Ns K nw pn F H σd σ F1 H1 σd1 σ1) (b : Ns K nw pn F1 H1 σd1 σ1 F2 H2 σd2 σ2) : Ns K nw pn F H σd σ F2 H2 σd2 σ2 where
  le := a.le.trans b.le fun c z => (a.subA c z).elim .inl fun q => .inr q.2
  er := b.er
  sub := fun j d c z q => (b.sub j d c z q).elim (fun ⟨d0, q1, q2⟩ => a.sub j d0 c q1 q2) fun q => .inr ⟨q.1, a.le.none_back q.2⟩
  suR := fun c z => (b.suR c z).elim (a.suR c) fun q => .inr ⟨q.1, a.le.none_back q.2⟩
  lk := fun i sv z m => let ⟨h1, h2⟩ := a.lk i sv z m; let ⟨g1, g2⟩ := b.lk i sv h1 m; ⟨g1, g2.trans h2⟩
  st := fun i p => let ⟨h1, h2⟩ := a.st i p; let ⟨g1, g2⟩ := b.st i p; ⟨g1.trans h1, fun sv z m => let ⟨sv', z', m'⟩ := h2 sv z m; g2 sv' z' m'⟩
  len := b.len.trans a.len
theorem Ns.nx (a : Ns K nw pn F H σd σ F1 H1 σd1 σ1) (b : Nx K F1 H1 σd1 σ1 F2 H2 σd2) : Ns K nw pn F H σd σ F2 H2 σd2 σ1 := a.trans b.ns
theorem Le.ns (er : ER K F H σd σ) (l : Le No F H F1 H1) : Ns K nw pn F H σd σ F1 H1 σd σ :=
  ⟨l.more fun _ z => z.elim, er.le0 l, fun _ d _ z q => .inl ⟨d, z, q⟩, fun _ z => .inl z, fun _ _ z _ => ⟨z, rfl⟩, fun _ _ => ⟨rfl, fun _ z m => ⟨_, z, m⟩⟩, rfl⟩

/-! ### targets -/
/-- the slots at p are stored with data, the others stay -/
structure Bd (p : List Nat) (σd : EnvD) (σ : L2.St) (σd' : EnvD) (σ' : L2.St) : Prop where
  len : σ'.length = σ.length
  off : ∀ j, j ∉ p → σ'[j]? = σ[j]? ∧ slotAt σd' j = slotAt σd j
  on : ∀ j sv, j ∈ p → slotAt σd' j = some sv → sv.md = .frz
theorem Bd.ns {p : List Nat} (b : Bd p σd σ σd1 σ1) (er : ER K F H σd1 σ1) (hl : ∀ i ∈ p, ∀ sv, slotAt σd i = some sv → sv.md ≠ .lck) (hp : ∀ i ∈ p, ¬ pn i) : Ns K nw pn F H σd σ F H σd1 σ1 where
  le := Le.refl
  er := er
  sub := fun i d a h1 h2 => by
    by_cases hi : i ∈ p
    · have := b.on i _ hi h1; cases this
    · obtain ⟨g1, g2⟩ := b.off i hi
      exact .inl ⟨d, by rw [← g2]; exact h1, by rw [← g1]; exact h2⟩
  suR := fun a ⟨i, sv, h1, m, h2⟩ => by
    by_cases hi : i ∈ p
    · exact absurd (b.on i _ hi h1) m
    · obtain ⟨g1, g2⟩ := b.off i hi
      exact .inl ⟨i, sv, by rw [← g2]; exact h1, m, by rw [← g1]; exact h2⟩
  lk := fun i sv z m => by
    by_cases hi : i ∈ p
    · exact absurd m (hl i hi sv z)
    · obtain ⟨g1, g2⟩ := b.off i hi
      exact ⟨by rw [g2]; exact z, g1⟩
  st := fun i q => by
    have hi : i ∉ p := fun z => hp i z q
    obtain ⟨g1, g2⟩ := b.off i hi
    exact ⟨g1, fun sv z m => ⟨sv, by rw [g2]; exact z, m⟩⟩
  len := b.len
/-- data is stored -/
theorem ER.setf (er : ER K F H σd σ) {i : Nat} {v : V} {d : D} (r : Rp K F H v d) : ER K F H (σd.set i (some (fz d))) (σ.set i (some v)) := by
  have sl : ∀ (j : Nat) (sw : SV), slotAt (σd.set i (some (fz d))) j = some sw → (i = j ∧ sw = fz d ∧ i < σd.length) ∨ (i ≠ j ∧ slotAt σd j = some sw) := fun j sw hj => by
    rw [slotAt_set] at hj
    by_cases e : i = j
    · rw [if_pos e] at hj
      by_cases hi : i < σd.length
      · rw [if_pos hi] at hj
        exact .inl ⟨e, (Option.some.inj hj).symm, hi⟩
      · rw [if_neg hi] at hj; cases hj
    · rw [if_neg e] at hj
      exact .inr ⟨e, hj⟩
  refine ⟨by rw [List.length_set, List.length_set]; exact er.len, fun j sw hj => ?_, fun j k sw sx b hj hk mj mk ej ek => ?_, er.fd⟩
  · rcases sl j sw hj with ⟨rfl, rfl, hi⟩ | ⟨e, hj⟩
    · exact ⟨v, by rw [List.getElem?_set_self (by rw [← er.len]; exact hi)], r⟩
    · obtain ⟨w, q, s⟩ := er.at_ j sw hj
      exact ⟨w, by rw [List.getElem?_set_ne e]; exact q, s⟩
  · rcases sl j sw hj with ⟨rfl, rfl, _⟩ | ⟨e, hj⟩
    · exact absurd rfl mj
    · rcases sl k sx hk with ⟨rfl, rfl, _⟩ | ⟨e', hk⟩
      · exact absurd rfl mk
      · rw [List.getElem?_set_ne e] at ej
        rw [List.getElem?_set_ne e'] at ek
        exact er.ap j k sw sx b hj hk mj mk ej ek
def tG (K : KW) (p : MP) : TG := fun v σ H Q => ∃ F σd d σd', ER K F H σd σ ∧ Rp K F H v d ∧ bindP p d σd = some σd' ∧ ∀ σ', ER K F H σd' σ' → Bd (pat p) σd σ σd' σ' → Q σ' H
def tGs (K : KW) (ps : List MP) : TGs := fun vs σ H Q => ∃ F σd ds σd', ER K F H σd σ ∧ Rps K F H vs ds ∧ bindPs ps ds σd = some σd' ∧ ∀ σ', ER K F H σd' σ' → Bd (pat.patAll ps) σd σ σd' σ' → Q σ' H
end
section
variable {X : Cx} {N : List Str}
/-- a name that may be stored -/
def Sto (X : Cx) (i : Nat) (x : Str) : Prop := X.N[i]? = some x ∧ Loc X.env.scope x ∧ (X.fn x = true ∨ X.env.scope.names.lookup x = some .local)
/-- a target, of names -/
inductive TgP (X : Cx) : MP → Expr → Prop
  | name {i : Nat} {x : Str} {p : Pos} : Sto X i x → TgP X (.name i) (.Name x p)
  | tup0 {k : Nat} {p : Pos} : TgP X (.tup []) (.Tuple [] k p)
  | tup {m : MP} {ms : List MP} {e : Expr} {es : List Expr} {k : Nat} {p : Pos} : TgP X m e → TgP X (.tup ms) (.Tuple es k p) → TgP X (.tup (m :: ms)) (.Tuple (e :: es) k p)
theorem TgP.asg {m : MP} {e : Expr} (h : TgP X m e) (es : List Expr) (env : Env) : assignEach (e :: es) env = (false, assign e env) :: assignEach es env := by
  cases h <;> rfl
theorem bd_refl {p : List Nat} {σd : EnvD} {σ : L2.St} (h : p = []) : Bd p σd σ σd σ := by
  subst h
  exact ⟨rfl, fun _ _ => ⟨rfl, rfl⟩, fun _ _ z => by cases z⟩
theorem Bd.trans {p q : List Nat} {σd σd1 σd2 : EnvD} {σ σ1 σ2 : L2.St} (a : Bd p σd σ σd1 σ1) (b : Bd q σd1 σ1 σd2 σ2) : Bd (p ++ q) σd σ σd2 σ2 where
  len := b.len.trans a.len
  off := fun j h => by
    rw [List.mem_append, not_or] at h
    obtain ⟨h1, h2⟩ := a.off j h.1
    obtain ⟨g1, g2⟩ := b.off j h.2
    exact ⟨g1.trans h1, g2.trans h2⟩
  on := fun j sv h e => by
    by_cases hq : j ∈ q
    · exact b.on j sv hq e
    · rw [(b.off j hq).2] at e
      exact a.on j sv ((List.mem_append.mp h).resolve_right hq) e
theorem TgP.run (hN : X.N.Nodup) (hc : X.calm = true) {m : MP} {e : Expr} (h : TgP X m e) : PG X e (tG X.kw m) ∧ ∀ ms es k p, m = .tup ms → e = .Tuple es k p → PGs X es (tGs X.kw ms) ∧ (assignEach es X.env).length = ms.length ∧ (assignEach es X.env).findIdx? (·.1) = none := by
  have fin : ∀ {ms : List MP} {es : List Expr} {k : Nat} {p : Pos}, PGs X es (tGs X.kw ms) ∧ (assignEach es X.env).length = ms.length ∧ (assignEach es X.env).findIdx? (·.1) = none → PG X (.Tuple es k p) (tG X.kw (.tup ms)) := fun {ms es k p} ⟨h1, h2, h3⟩ => by
    have g := pg_tup (k := k) (pos := p) hc h1 rfl h3
    refine ⟨fun pins s σ H v u Q I r q => g.run pins s σ H v u Q I r ?_⟩
    obtain ⟨F, σd, d, σd', er, rp, eb, q⟩ := q
    cases d <;> first | (cases eb; done) | skip
    rename_i ds
    cases rp with
    | @tup a vs _ t rs =>
      refine ⟨a, vs, rfl, t, ?_, F, σd, ds, σd', er, rs, eb, q⟩
      rw [h2, rs.length]
      have : ∀ (ps : List MP) (ds : List D) (s : EnvD), (bindPs ps ds s).isSome = true → ds.length = ps.length := by
        intro ps
        induction ps with
        | nil => intro ds s h; cases ds with
          | nil => rfl
          | cons a b => cases h
        | cons a b ih => intro ds s h; cases ds with
          | nil => cases h
          | cons d ds =>
            rw [bindPs] at h
            cases q : bindP a d s with
            | none => rw [q] at h; cases h
            | some s' => rw [q] at h; exact congrArg (· + 1) (ih ds s' h)
      have eb' : bindPs ms ds σd = some σd' := eb
      exact this ms ds σd (by rw [eb']; rfl)
  induction h with
  | @name i x p st =>
    obtain ⟨h1, h2, h3⟩ := st
    refine ⟨⟨fun pins s σ H v u Q I r q => (pg_name hN h1 h2 h3).run pins s σ H v u Q I r ?_⟩, fun ms es k p z => by cases z⟩
    obtain ⟨F, σd, d, σd', er, rp, eb, q⟩ := q
    cases eb
    refine q _ (er.setf rp) ⟨List.length_set, fun j hj => ?_, fun j sv hj e => ?_⟩
    · have hj : i ≠ j := fun z => hj (by simp [pat, z])
      exact ⟨List.getElem?_set_ne hj, by rw [slotAt_set, if_neg hj]⟩
    · have hj : j = i := by simpa [pat] using hj
      subst hj
      rw [slotAt_set, if_pos rfl] at e
      split at e
      · cases e; rfl
      · cases e
  | @tup0 k p =>
    have h : PGs X [] (tGs X.kw []) ∧ (assignEach [] X.env).length = ([] : List MP).length ∧ (assignEach [] X.env).findIdx? (·.1) = none := by
      refine ⟨⟨fun pins s σ H vs us Q I r q => pgs_nil.run pins s σ H vs us Q I r ?_⟩, rfl, rfl⟩
      obtain ⟨F, σd, ds, σd', er, rs, eb, q⟩ := q
      cases ds with
      | cons a b => cases eb
      | nil =>
        cases rs; cases eb
        exact ⟨rfl, q σ er (bd_refl rfl)⟩
    exact ⟨fin h, fun ms es k p z1 z2 => by cases z1; cases z2; exact h⟩
  | @tup m ms e es k p hm hms ih1 ih2 =>
    obtain ⟨g1, g2, g3⟩ := ih2.2 ms es k p rfl rfl
    have ea := hm.asg es X.env
    have h : PGs X (e :: es) (tGs X.kw (m :: ms)) ∧ (assignEach (e :: es) X.env).length = (m :: ms).length ∧ (assignEach (e :: es) X.env).findIdx? (·.1) = none := by
      refine ⟨⟨fun pins s σ H vs us Q I r q => (pgs_cons ih1.1 g1 (by rw [ea]; rfl)).run pins s σ H vs us Q I r ?_⟩, by rw [ea]; exact congrArg (· + 1) g2, by rw [ea]; simpa [List.findIdx?_cons] using g3⟩
      obtain ⟨F, σd, ds, σd', er, rs, eb, q⟩ := q
      cases ds with
      | nil => cases eb
      | cons d ds =>
        cases rs with
        | @cons v _ vs _ r1 r2 =>
          rw [bindPs] at eb
          cases e1 : bindP m d σd with
          | none => rw [e1] at eb; cases eb
          | some σd1 =>
            rw [e1] at eb
            refine ⟨v, vs, rfl, F, σd, d, σd1, er, r1, e1, fun σ1 er1 b1 => ⟨F, σd1, ds, σd', er1, r2, eb, fun σ2 er2 b2 => ?_⟩⟩
            exact q σ2 er2 (b1.trans b2)
    exact ⟨fin h, fun ms' es' k' p' z1 z2 => by cases z1; cases z2; exact h⟩

/-! ### what loops go through -/
/-- the turns give the items, as long as the source stands -/
structure ItOk (K : KW) (J : It) (items : List D) (ok : (Addr → Prop) → Hp → Prop) : Prop where
  step : ∀ (i : Nat) (d : D) (F : Addr → Prop) (H : Hp), (∀ a, F a → H a ≠ none) → ok F H → items[i]? = some d → J.go i H ∧ ∀ x H', J.yld i H x H' → Le No F H F H' ∧ Rp K F H' x d
  stop : ∀ (i : Nat) (F : Addr → Prop) (H : Hp), ok F H → items.length ≤ i → J.stop i H
/-- the source stands for good, or is lent -/
def SrcL (K : KW) (F : Addr → Prop) (H : Hp) (σd : EnvD) (σ : L2.St) (held : List Nat) (ok : (Addr → Prop) → Hp → Prop) : Prop :=
  (∀ F' H', Pr F H F' H' → ok F' H') ∨ ∃ i d v, held = [i] ∧ slotAt σd i = some ⟨.lck, d⟩ ∧ σ[i]? = some (some v) ∧ ∀ F H, Rt K F H v d → ok F H
def Lent (σd : EnvD) (l : List Nat) : Prop := l = [] ∨ ∃ i d, l = [i] ∧ slotAt σd i = some (ow d)
def tI (X : Cx) (W : WX) (m : EnvD → R (Src × EnvD)) : TI := fun σ H R => ∃ F σd, ER X.kw F H σd σ ∧ (match m σd with
  | .ok p => ∀ F' H' J ok, Nx X.kw F H σd σ F' H' p.2 → Lent p.2 p.1.lent → ItOk X.kw J p.1.items ok → SrcL X.kw F' H' (lendAll p.2 p.1.lent) σ p.1.held ok → R J H'
  | .exc c σd' => ∀ F' H' Ca, Nx X.kw F H σd σ F' H' σd' → X.mg c = some (.ref Ca) → W (.ref Ca) none σ H'
  | .bad => False)
theorem SqL.inj {K : KW} {X : Cx} : True := trivial
theorem itok_list {K : KW} {a : Addr} {ds : List D} : ItOk K (Itl K a) ds (fun F H => Rt K F H (.ref a) (.list ds)) where
  step := fun i d F H fd r e => by
    obtain ⟨a', vs, z, rd, rs⟩ := r.lst
    cases z
    obtain ⟨v, e1, r1⟩ := rs.getD e
    refine ⟨⟨vs, v, .inl rd, e1⟩, fun x H' y => ?_⟩
    obtain ⟨rfl, y⟩ := y
    have := y vs (.inl rd)
    rw [e1] at this; cases this
    exact ⟨Le.refl, r1⟩
  stop := fun i F H r e => by
    obtain ⟨a', vs, z, rd, rs⟩ := r.lst
    cases z
    exact ⟨vs, .inl rd, by rw [rs.length]; exact e⟩
theorem itok_tup {K : KW} {a : Addr} {ds : List D} : ItOk K (Itt K a) ds (fun F H => Rt K F H (.ref a) (.tuple ds)) where
  step := fun i d F H fd r e => by
    obtain ⟨a', vs, z, rd, rs⟩ := r.tup
    cases z
    obtain ⟨v, e1, r1⟩ := rs.getD e
    refine ⟨⟨vs, v, rd, e1⟩, fun x H' y => ?_⟩
    obtain ⟨rfl, y⟩ := y
    have := y vs rd
    rw [e1] at this; cases this
    exact ⟨Le.refl, r1⟩
  stop := fun i F H r e => by
    obtain ⟨a', vs, z, rd, rs⟩ := r.tup
    cases z
    exact ⟨vs, rd, by rw [rs.length]; exact e⟩
theorem itok_str {K : KW} {z : Str} : ItOk K (Its z) (z.cps.toList.map fun c => .str ⟨#[c]⟩) (fun _ _ => True) where
  step := fun i d F H fd r e => by
    rw [List.getElem?_map] at e
    obtain ⟨c, e1, rfl⟩ := Option.map_eq_some_iff.mp e
    have hi : i < z.cps.size := by
      have := (List.getElem?_eq_some_iff.mp e1).1
      simpa using this
    refine ⟨hi, fun x H' y => ?_⟩
    obtain ⟨rfl, c', e2, rfl⟩ := y
    have : c = c' := by
      have e1' : z.cps[i]? = some c := by simpa using e1
      rw [e1'] at e2; cases e2; rfl
    subst this
    exact ⟨Le.refl, .str _⟩
  stop := fun i F H r e => by
    show z.cps.size ≤ i
    simpa using e
theorem rangeD_get {lo : Int} {n : Nat} {st : Int} {i : Nat} {d : D} (e : (rangeD lo n st)[i]? = some d) : i < n ∧ d = .int (lo + (i : Int) * st) := by
  unfold rangeD at e
  rw [List.getElem?_map] at e
  obtain ⟨c, e1, rfl⟩ := Option.map_eq_some_iff.mp e
  obtain ⟨h, e2⟩ := List.getElem?_eq_some_iff.mp e1
  rw [List.length_range] at h
  rw [List.getElem_range] at e2
  subst e2
  exact ⟨h, rfl⟩
theorem rangeD_len {lo : Int} {n : Nat} {st : Int} : (rangeD lo n st).length = n := by unfold rangeD; rw [List.length_map, List.length_range]
theorem itok_rng {K : KW} {lo : Int} {n : Nat} : ItOk K (Itr lo n) (rangeD lo n 1) (fun _ _ => True) where
  step := fun i d F H fd r e => by
    obtain ⟨h, rfl⟩ := rangeD_get e
    refine ⟨h, fun x H' y => ?_⟩
    obtain ⟨rfl, rfl⟩ := y
    rw [Int.mul_one]
    exact ⟨Le.refl, .int _⟩
  stop := fun i F H r e => by rw [rangeD_len] at e; exact e
theorem itok_rngc {K : KW} {lo c : Int} {n : Nat} : ItOk K (Itc lo c n) (rangeD lo n c) (fun _ _ => True) where
  step := fun i d F H fd r e => by
    obtain ⟨h, rfl⟩ := rangeD_get e
    refine ⟨h, fun x H' y => ?_⟩
    obtain ⟨rfl, rfl⟩ := y
    exact ⟨Le.refl, .int _⟩
  stop := fun i F H r e => by rw [rangeD_len] at e; exact e
theorem enumD_get : ∀ {xs : List D} {n i : Nat} {d : D}, (enumD n xs)[i]? = some d → ∃ x, xs[i]? = some x ∧ d = .tuple [.int ((n + i : Nat) : Int), x]
  | [], n, i, d, e => by simp [enumD] at e
  | x :: xs, n, 0, d, e => by simp [enumD] at e; exact ⟨x, rfl, e.symm⟩
  | x :: xs, n, i + 1, d, e => by
    obtain ⟨y, h1, h2⟩ := enumD_get (xs := xs) (n := n + 1) (i := i) (by simpa [enumD] using e)
    refine ⟨y, by simpa using h1, ?_⟩
    rw [h2]
    congr 4
    omega
theorem enumD_len : ∀ {xs : List D} {n : Nat}, (enumD n xs).length = xs.length
  | [], _ => rfl
  | x :: xs, n => congrArg (· + 1) (enumD_len (xs := xs) (n := n + 1))
theorem itok_enum {K : KW} {a : Addr} {ds : List D} : ItOk K (Ite K a) (enumD 0 ds) (fun F H => Rt K F H (.ref a) (.list ds)) where
  step := fun i d F H fd r e => by
    obtain ⟨a', vs, z, rd, rs⟩ := r.lst
    cases z
    obtain ⟨x0, e0, rfl⟩ := enumD_get e
    obtain ⟨v, e1, r1⟩ := rs.getD e0
    refine ⟨⟨vs, v, .inl rd, e1⟩, fun x H' y => ?_⟩
    obtain ⟨T, x', rfl, hT, rfl, y⟩ := y
    have := y vs (.inl rd)
    rw [e1] at this; cases this
    have l : Le No F H F (upd H T (.tup [.int ((i : Nat) : Int), v])) := Le.new hT
    refine ⟨l, .tup (.inl (.inl upd_same)) (.cons ?_ (.one (Rp.mono (l.pr bk_no) _ _ r1)))⟩
    rw [Nat.zero_add]
    exact .int _
  stop := fun i F H r e => by
    obtain ⟨a', vs, z, rd, rs⟩ := r.lst
    cases z
    exact ⟨vs, .inl rd, by rw [rs.length]; rw [enumD_len] at e; exact e⟩
theorem zipD_get : ∀ {xs ys : List D} {i : Nat} {d : D}, (zipD xs ys)[i]? = some d → ∃ x y, xs[i]? = some x ∧ ys[i]? = some y ∧ d = .tuple [x, y]
  | [], ys, i, d, e => by simp [zipD] at e
  | x :: xs, [], i, d, e => by simp [zipD] at e
  | x :: xs, y :: ys, 0, d, e => by simp [zipD] at e; exact ⟨x, y, rfl, rfl, e.symm⟩
  | x :: xs, y :: ys, i + 1, d, e => by simpa using zipD_get (xs := xs) (ys := ys) (i := i) (by simpa [zipD] using e)
theorem zipD_stop : ∀ {xs ys : List D} {i : Nat}, (zipD xs ys).length ≤ i → xs.length ≤ i ∨ ys.length ≤ i
  | [], ys, i, e => .inl (Nat.zero_le _)
  | x :: xs, [], i, e => .inr (Nat.zero_le _)
  | x :: xs, y :: ys, 0, e => by simp [zipD] at e
  | x :: xs, y :: ys, i + 1, e => by
    rcases zipD_stop (xs := xs) (ys := ys) (i := i) (by simpa [zipD] using e) with h | h
    · exact .inl (by simpa using h)
    · exact .inr (by simpa using h)
theorem itok_zip {K : KW} {a b : Addr} {ds es : List D} : ItOk K (Itz K a b) (zipD ds es) (fun F H => Rt K F H (.ref a) (.list ds) ∧ Rt K F H (.ref b) (.list es)) where
  step := fun i d F H fd r e => by
    obtain ⟨a', vs, z, rd, rs⟩ := r.1.lst
    obtain ⟨b', ws, z', rd', rs'⟩ := r.2.lst
    cases z; cases z'
    obtain ⟨x0, y0, e0, g0, rfl⟩ := zipD_get e
    obtain ⟨v, e1, r1⟩ := rs.getD e0
    obtain ⟨w, g1, t1⟩ := rs'.getD g0
    refine ⟨⟨vs, ws, v, w, .inl rd, .inl rd', e1, g1⟩, fun x H' y => ?_⟩
    obtain ⟨T, x', y', rfl, hT, rfl, y1, y2⟩ := y
    have z1 := y1 vs (.inl rd)
    have z2 := y2 ws (.inl rd')
    rw [e1] at z1; cases z1
    rw [g1] at z2; cases z2
    have l : Le No F H F (upd H T (.tup [v, w])) := Le.new hT
    exact ⟨l, .tup (.inl (.inl upd_same)) (.cons (Rp.mono (l.pr bk_no) _ _ r1) (.one (Rp.mono (l.pr bk_no) _ _ t1)))⟩
  stop := fun i F H r e => by
    obtain ⟨a', vs, z, rd, rs⟩ := r.1.lst
    obtain ⟨b', ws, z', rd', rs'⟩ := r.2.lst
    cases z; cases z'
    exact ⟨vs, ws, .inl rd, .inl rd', by rw [rs.length, rs'.length]; exact zipD_stop e⟩
end
end RH
set_option maxRecDepth 100000
set_option maxHeartbeats 4000000
/-! What loops go through: the model's iterators. -/
namespace RH
open PySem PySem.Spec L2

section
variable {C : Str → Option D} {Γ : Str → Option FD} {n : Nat} {X : Cx} {W : WX} {c : CC} {cf : Str → List SV → RF}
def IOk (C : Str → Option D) (Γ : Str → Option FD) (n : Nat) (it : MI) : Prop := ∀ (c : CC) (e tg : Expr) (X : Cx) (W : WX), XC X W c C Γ n → mtI c it e = true → tgOk it tg = true →
  PI X tg e (tI X W (evI C (callF C Γ n) it)) ∧ ∀ env x, foldedSetIterable e env x = pure x
def PostI (X : Cx) (W : WX) (F : Addr → Prop) (H : Hp) (σd : EnvD) (σ : L2.St) (r : R (Src × EnvD)) (R' : It → Hp → Prop) : Prop := match r with
  | .ok p => ∀ F' H' J ok, Nx X.kw F H σd σ F' H' p.2 → Lent p.2 p.1.lent → ItOk X.kw J p.1.items ok → SrcL X.kw F' H' (lendAll p.2 p.1.lent) σ p.1.held ok → R' J H'
  | .exc c σd' => ∀ F' H' Ca, Nx X.kw F H σd σ F' H' σd' → X.mg c = some (.ref Ca) → W (.ref Ca) none σ H'
  | .bad => False
section
variable {F : Addr → Prop} {H : Hp} {σd : EnvD} {σ : L2.St} {R' : It → Hp → Prop}
theorem PostI.bindE {r : R (SV × EnvD)} {f : SV × EnvD → R (Src × EnvD)} {Q' : VK} (h : PostI X W F H σd σ (r.bind f) R')
    (g : ∀ p F1 H1 v, r = .ok p → Nx X.kw F H σd σ F1 H1 p.2 → Res X.kw H F1 H1 v p.1 → PostI X W F H σd σ (f p) R' → Q' v H1) : PostE X W F H σd σ r Q' := by
  cases r with
  | ok p => exact fun F1 H1 v n rs => g p F1 H1 v rfl n rs h
  | exc c s => exact h
  | bad => exact h
theorem PostI.bindO {r : R (Opd × EnvD)} {f : Opd × EnvD → R (Src × EnvD)} {Q' : VK} (h : PostI X W F H σd σ (r.bind f) R')
    (g : ∀ p F1 H1 v, r = .ok p → Nx X.kw F H σd σ F1 H1 p.2 → OpV X.kw H F1 H1 p.2 σ v p.1 → PostI X W F H σd σ (f p) R' → Q' v H1) : PostO X W F H σd σ r Q' := by
  cases r with
  | ok p => exact fun F1 H1 v n rs => g p F1 H1 v rfl n rs h
  | exc c s => exact h
  | bad => exact h
theorem PostI.on {F1 : Addr → Prop} {H1 : Hp} {σd1 : EnvD} {r : R (Src × EnvD)} (n : Nx X.kw F H σd σ F1 H1 σd1) (h : PostI X W F H σd σ r R') : PostI X W F1 H1 σd1 σ r R' := by
  cases r with
  | ok p => exact fun F' H' J ok n' l i s => h F' H' J ok (n.trans n') l i s
  | exc c s => exact fun F' H' Ca n' g => h F' H' Ca (n.trans n') g
  | bad => exact h
theorem src_op {F1 : Addr → Prop} {H1 : Hp} {σd1 : EnvD} {v : V} {o : Opd} {sv : SV} (er : ER X.kw F H σd σ) (n1 : Nx X.kw F H σd σ F1 H1 σd1) (r1 : OpV X.kw H F1 H1 σd1 σ v o) (g : getO σd1 o = some sv) :
    ∃ F2, Nx X.kw F H σd σ F2 H1 σd1 ∧ Lent σd1 (lend σd1 o) ∧ SrcL X.kw F2 H1 (lendAll σd1 (lend σd1 o)) σ (heldO o) (fun F H => Rt X.kw F H v sv.d) ∧ Rt X.kw F2 H1 v sv.d := by
  cases o with
  | val s =>
    cases g
    obtain ⟨F2, n2, rp, _⟩ := n1.fr er r1
    exact ⟨F2, n2, .inl rfl, .inl fun F' H' p => .rp (Rp.mono p _ _ rp), .rp rp⟩
  | slot i =>
    have hs : slotAt σd1 i = some sv := g
    have hq : σ[i]? = some (some v) := r1
    obtain ⟨w, q, s⟩ := n1.er.at_ i sv hs
    rw [hq] at q; cases q
    obtain ⟨m, d⟩ := sv
    have hi : i < σd1.length := by
      rw [slotAt_some] at hs
      exact (List.getElem?_eq_some_iff.mp hs).1
    cases m with
    | frz =>
      refine ⟨F1, n1, ?_, .inl fun F' H' p => .rp (Rp.mono p _ _ s), .rp s⟩
      simp only [lend, hs]
      exact .inl rfl
    | own =>
      have el : lend σd1 (.slot i) = [i] := by simp only [lend, hs]
      rw [el]
      have e2 : lendAll σd1 [i] = σd1.set i (some ⟨.lck, d⟩) := by
        show setMd .lck σd1 i = _
        unfold setMd; rw [hs]
      refine ⟨F1, n1, .inr ⟨i, d, rfl, hs⟩, .inr ⟨i, d, v, rfl, ?_, hq, fun _ _ z => z⟩, s.rt⟩
      rw [e2, slotAt_set, if_pos rfl, if_pos hi]
    | lck =>
      have el : lend σd1 (.slot i) = [] := by simp only [lend, hs]
      rw [el]
      exact ⟨F1, n1, .inl rfl, .inr ⟨i, d, v, rfl, hs, hq, fun _ _ z => z⟩, s.rt⟩
end

/-- any sequence -/
def iSeq (K : KW) (te : TE) : TI := fun σ H R => te σ H fun x H1 => (∃ a xs, x = .ref a ∧ SqL K H1 a xs ∧ R (Itl K a) H1) ∨ (∃ a xs, x = .ref a ∧ SqT K H1 a xs ∧ R (Itt K a) H1) ∨ ∃ z, x = .str z ∧ R (Its z) H1
open PyProof.Rows in
theorem pi_seq {tg l : Expr} {tl : TE} (hl : PE X l tl) : PI X tg l (iSeq X.kw tl) := by
  refine ⟨fun pins s σ H R I h => ?_⟩
  refine thn (hl.run pins s σ H _ I h) fun v s1 ⟨x, H1, I1, r1, q1⟩ => ?_
  rcases q1 with ⟨a, xs, e, hq, q⟩ | ⟨a, xs, e, hq, q⟩ | ⟨x, e, q⟩
  · subst e
    cases r1
    obtain ⟨its, rv, p, hz⟩ := I1.list hq
    refine wpAny_pyIter_list p.isList ?_
    refine ⟨s1.heap.objs.size, [s1.heap.objs.size], _, _, H1, rfl, I1.kept (t' := s1.toks) fun b o e => Heap.get?_push_of_some _ e, turn_list a _, ⟨_, Heap.get?_push_size _ rfl, rfl, rfl⟩, fun b hb => ?_, q⟩
    have e : b = s1.heap.objs.size := by simpa using hb
    subst e
    exact I1.fpOk (Nat.le_refl _) (I1.hok.fresh (Nat.le_refl _))
  · subst e
    cases r1
    obtain ⟨its, rv, p, hz⟩ := I1.tuple hq
    refine wpAny_pyIter_tuple (show s1.heap.IsTuple a its.toArray from p) ?_
    refine ⟨s1.heap.objs.size, [s1.heap.objs.size], _, _, H1, rfl, I1.kept (t' := s1.toks) fun b o e => Heap.get?_push_of_some _ e, turn_tuple a _, ⟨_, Heap.get?_push_size _ rfl, rfl, rfl⟩, fun b hb => ?_, q⟩
    have e : b = s1.heap.objs.size := by simpa using hb
    subst e
    exact I1.fpOk (Nat.le_refl _) (I1.hok.fresh (Nat.le_refl _))
  · subst e
    obtain ⟨t, rfl⟩ := r1
    cases ha : x.cps.all (· < 128)
    · exact wpAny_pyIter_wide ha (pi_one (tk := s1.toks) I1 _ (turn_str _ x t "str_iterator" (.inr rfl)) ⟨_, Heap.get?_push_size _ rfl, rfl, rfl⟩ q)
    · exact wpAny_pyIter_ascii ha (pi_one (tk := s1.toks) I1 _ (turn_str _ x t "str_ascii_iterator" (.inl rfl)) ⟨_, Heap.get?_push_size _ rfl, rfl, rfl⟩ q)
theorem tI_seq {a : ME} {σ : L2.St} {H : Hp} {R' : It → Hp → Prop} (h : tI X W (evI C cf (.seq a)) σ H R') : iSeq X.kw (tO X W (evA1 C cf a)) σ H R' := by
  obtain ⟨F, σd, er, po⟩ := h
  refine ⟨F, σd, er, ?_⟩
  rw [evI] at po
  change PostI X W F H σd σ ((evA1 C cf a σd).bind _) R' at po
  refine PostI.bindO po fun p F1 H1 v e1 n1 r1 po => ?_
  cases e2 : getO p.2 p.1 with
  | none => rw [e2] at po; exact po.elim
  | some sv =>
    rw [e2, ofOpt_some, R.bind_ok] at po
    cases e3 : seqItems sv.d with
    | none => rw [e3] at po; exact po.elim
    | some xs =>
      rw [e3, ofOpt_some, R.bind_ok] at po
      obtain ⟨F2, n2, l2, s2, rt⟩ := src_op er n1 r1 e2
      unfold seqItems at e3
      split at e3
      · rename_i ds ed
        cases e3
        rw [ed] at rt s2
        obtain ⟨b, vs, rfl, rd, rs⟩ := rt.lst
        exact .inl ⟨b, vs, rfl, .inl rd, po F2 H1 _ _ n2 l2 itok_list s2⟩
      · rename_i ds ed
        cases e3
        rw [ed] at rt s2
        obtain ⟨b, vs, rfl, rd, rs⟩ := rt.tup
        exact .inr (.inl ⟨b, vs, rfl, rd, po F2 H1 _ _ n2 l2 itok_tup s2⟩)
      · rename_i z ed
        cases e3
        rw [ed] at rt
        cases rt.str
        exact .inr (.inr ⟨z, rfl, po F2 H1 _ _ n2 l2 itok_str (.inl fun _ _ _ => trivial)⟩)
      · cases e3
theorem step_seq {a : ME} (ha : EOk C Γ n a) : IOk C Γ n (.seq a) := fun c e tg X W x h ht => by
  unfold mtI at h
  simp only [Bool.and_eq_true] at h
  refine ⟨PIimp (pi_seq (pe_A1 x ha h.1)) fun _ _ _ => tI_seq, fun env y => ?_⟩
  have h2 := h.2
  cases e <;> first | rfl | (simp at h2)
theorem i62_ok {i : Int} (h : i62 i = true) : -(2 ^ 62) ≤ i ∧ i < 2 ^ 62 := by
  unfold i62 at h
  simpa using h
theorem step_rng1 {b : ME} (hb : EOk C Γ n b) : IOk C Γ n (.rng1 b) := fun c e tg X W x h ht => by
  unfold mtI at h
  split at h
  · rename_i pf p pos
    simp only [Bool.and_eq_true] at h
    obtain ⟨⟨h1, h2⟩, h3⟩ := h
    obtain ⟨g1, g2⟩ := isGl_gl x h1
    refine ⟨PIimp (pi_range1 g1 (x.tab.blt _ (by decide)) (pa_cons (hb c p X W x h2).1 pa_nil (star_cons h3)) (star_cons h3)) fun σ H R' q => ?_, fun _ _ => rfl⟩
    obtain ⟨F, σd, er, po⟩ := q
    refine ⟨F, σd, er, ?_⟩
    rw [evI] at po
    change PostI X W F H σd σ ((evV C (callF C Γ n) b σd).bind _) R' at po
    refine PostI.bindE po fun p F1 H1 v e1 n1 r1 po => ?_
    split at po
    · rename_i j ej
      have rt := r1.rt
      rw [ej] at rt
      cases rt.int
      by_cases hj : i62 j = true
      · rw [if_pos hj] at po
        obtain ⟨j1, j2⟩ := i62_ok hj
        exact ⟨j, rfl, j1, j2, po F1 H1 _ _ n1 (.inl rfl) itok_rng (.inl fun _ _ _ => trivial)⟩
      · rw [if_neg hj] at po; exact po.elim
    · exact po.elim
  · cases h
theorem step_rng2 {a b : ME} (ha : EOk C Γ n a) (hb : EOk C Γ n b) : IOk C Γ n (.rng2 a b) := fun c e tg X W x h ht => by
  unfold mtI at h
  split at h
  · rename_i pf p q pos
    simp only [Bool.and_eq_true] at h
    obtain ⟨⟨⟨⟨h1, h2⟩, h3⟩, h4⟩, h5⟩ := h
    obtain ⟨g1, g2⟩ := isGl_gl x h1
    refine ⟨PIimp (pi_range2 g1 (x.tab.blt _ (by decide)) (pa_cons (ha c p X W x h2).1 (pa_cons (hb c q X W x h3).1 pa_nil (star_cons h5)) (star_cons h4)) (by rw [star_cons h4, star_cons h5]; rfl) (star_cons h5)) fun σ H R' q => ?_, fun _ _ => rfl⟩
    obtain ⟨F, σd, er, po⟩ := q
    refine ⟨F, σd, er, ?_⟩
    rw [evI] at po
    change PostI X W F H σd σ ((evV C (callF C Γ n) a σd).bind _) R' at po
    refine PostI.bindE po fun p F1 H1 v e1 n1 r1 po => ⟨F1, p.2, n1.er, PostI.bindE (po.on n1) fun q F2 H2 w e2 n2 r2 po => ?_⟩
    split at po
    · rename_i i j ei ej
      have rt := r1.rt
      rw [ei] at rt
      cases rt.int
      have rt := r2.rt
      rw [ej] at rt
      cases rt.int
      by_cases hj : (i62 i && i62 j) = true
      · rw [if_pos hj] at po
        simp only [Bool.and_eq_true] at hj
        obtain ⟨i1, i2⟩ := i62_ok hj.1
        obtain ⟨j1, j2⟩ := i62_ok hj.2
        exact ⟨i, j, rfl, ⟨i1, i2, j1, j2⟩, po F2 H2 _ _ n2 (.inl rfl) itok_rng (.inl fun _ _ _ => trivial)⟩
      · rw [if_neg hj] at po; exact po.elim
    · exact po.elim
  · cases h
theorem step_rng3 {a b d : ME} (ha : EOk C Γ n a) (hb : EOk C Γ n b) (hd : EOk C Γ n d) : IOk C Γ n (.rng3 a b d) := fun c e tg X W x h ht => by
  unfold mtI at h
  split at h
  · rename_i pf p q r pos
    simp only [Bool.and_eq_true] at h
    obtain ⟨⟨⟨⟨⟨⟨h1, h2⟩, h3⟩, h4⟩, h5⟩, h6⟩, h7⟩ := h
    obtain ⟨g1, g2⟩ := isGl_gl x h1
    have ns : ∀ e ∈ [q, r], noStar e = true := fun e he => by
      rcases List.mem_cons.mp he with rfl | he
      · exact h6
      · rw [List.mem_singleton.mp he]; exact h7
    refine ⟨PIimp (pi_range3 g1 (x.tab.blt _ (by decide)) (pa_cons (ha c p X W x h2).1 (pa_cons (hb c q X W x h3).1 (pa_cons (hd c r X W x h4).1 pa_nil (star_cons h7)) (star_cons h6)) (star_cons h5)) (star_cons h5) (star_any ns)) fun σ H R' q => ?_, fun _ _ => rfl⟩
    obtain ⟨F, σd, er, po⟩ := q
    refine ⟨F, σd, er, ?_⟩
    rw [evI] at po
    change PostI X W F H σd σ ((evV C (callF C Γ n) a σd).bind _) R' at po
    refine PostI.bindE po fun p F1 H1 v e1 n1 r1 po => ⟨F1, p.2, n1.er, PostI.bindE (po.on n1) fun q F2 H2 w e2 n2 r2 po => ⟨F2, q.2, n2.er, PostI.bindE (po.on n2) fun z F3 H3 y e3 n3 r3 po => ?_⟩⟩
    split at po
    · rename_i i j k ei ej ek
      have rt := r1.rt
      rw [ei] at rt
      cases rt.int
      have rt := r2.rt
      rw [ej] at rt
      cases rt.int
      have rt := r3.rt
      rw [ek] at rt
      cases rt.int
      by_cases hj : (i62 i && i62 j && decide (k = -1)) = true
      · rw [if_pos hj] at po
        simp only [Bool.and_eq_true, decide_eq_true_eq] at hj
        obtain ⟨i1, i2⟩ := i62_ok hj.1.1
        obtain ⟨j1, j2⟩ := i62_ok hj.1.2
        obtain ⟨_, rfl⟩ := hj
        exact ⟨i, j, -1, (i - j).toNat, rfl, RgC.neg i1 i2 j1 j2, po F3 H3 _ _ n3 (.inl rfl) itok_rngc (.inl fun _ _ _ => trivial)⟩
      · rw [if_neg hj] at po; exact po.elim
    · exact po.elim
  · cases h
theorem tgOk_enum {a : ME} {tg : Expr} (h : tgOk (.enum a) tg = true) : ∃ es k p, tg = .Tuple es k p := by
  cases tg <;> first | exact ⟨_, _, _, rfl⟩ | (simp [tgOk] at h)
theorem tgOk_zip {a b : ME} {tg : Expr} (h : tgOk (.zip a b) tg = true) : ∃ es k p, tg = .Tuple es k p := by
  cases tg <;> first | exact ⟨_, _, _, rfl⟩ | (simp [tgOk] at h)
theorem step_enum {a : ME} (ha : EOk C Γ n a) : IOk C Γ n (.enum a) := fun c e tg X W x h ht => by
  unfold mtI at h
  split at h
  · rename_i pf p pos
    simp only [Bool.and_eq_true] at h
    obtain ⟨⟨h1, h2⟩, h3⟩ := h
    obtain ⟨g1, g2⟩ := isGl_gl x h1
    obtain ⟨_, _, _, rfl⟩ := tgOk_enum ht
    · refine ⟨PIimp (pi_enum g1 (x.tab.blt _ (by decide)) (pa_cons (pe_A1 x ha h2) pa_nil (star_cons h3)) (star_cons h3)) fun σ H R' q => ?_, fun _ _ => rfl⟩
      obtain ⟨F, σd, er, po⟩ := q
      refine ⟨F, σd, er, ?_⟩
      rw [evI] at po
      change PostI X W F H σd σ ((evA1 C (callF C Γ n) a σd).bind _) R' at po
      refine PostI.bindO po fun p F1 H1 v e1 n1 r1 po => ?_
      cases e2 : getO p.2 p.1 with
      | none => rw [e2] at po; exact po.elim
      | some sv =>
        rw [e2, ofOpt_some, R.bind_ok] at po
        obtain ⟨F2, n2, l2, s2, rt⟩ := src_op er n1 r1 e2
        split at po
        · rename_i ds ed
          rw [ed] at rt s2
          obtain ⟨b, vs, rfl, rd, rs⟩ := rt.lst
          exact ⟨b, vs, rfl, .inl rd, po F2 H1 _ _ n2 l2 itok_enum s2⟩
        · exact po.elim
  · cases h
theorem step_zip {a b : ME} (ha : EOk C Γ n a) (hb : EOk C Γ n b) : IOk C Γ n (.zip a b) := fun c e tg X W x h ht => by
  unfold mtI at h
  split at h
  · rename_i pf p q pos
    simp only [Bool.and_eq_true] at h
    obtain ⟨⟨⟨⟨h1, h2⟩, h3⟩, h4⟩, h5⟩ := h
    obtain ⟨g1, g2⟩ := isGl_gl x h1
    obtain ⟨_, _, _, rfl⟩ := tgOk_zip ht
    · refine ⟨PIimp (pi_zip g1 (x.tab.blt _ (by decide)) (pa_cons (ha c p X W x h2).1 (pa_cons (hb c q X W x h3).1 pa_nil (star_cons h5)) (star_cons h4)) (star_cons h4) (by rw [star_cons h5]; rfl)) fun σ H R' q => ?_, fun _ _ => rfl⟩
      obtain ⟨F, σd, er, po⟩ := q
      refine ⟨F, σd, er, ?_⟩
      rw [evI] at po
      change PostI X W F H σd σ ((evV C (callF C Γ n) a σd).bind _) R' at po
      refine PostI.bindE po fun p F1 H1 v e1 n1 r1 po => ?_
      obtain ⟨F1', n1', rp1, _⟩ := n1.fr er r1
      refine ⟨F1', p.2, n1'.er, PostI.bindE (po.on n1') fun q F2 H2 w e2 n2 r2 po => ?_⟩
      obtain ⟨F2', n2', rp2, _⟩ := n2.fr n1'.er r2
      have rp1' := Rp.mono (n2'.le.pr n1'.er.bk) _ _ rp1
      split at po
      · rename_i xs ys ex ey
        rw [ex] at rp1'
        rw [ey] at rp2
        obtain ⟨b1, vs1, rfl, rd1, rs1⟩ := (Rt.rp rp1').lst
        obtain ⟨b2, vs2, rfl, rd2, rs2⟩ := (Rt.rp rp2).lst
        exact ⟨b1, b2, vs1, vs2, rfl, .inl rd1, .inl rd2, po F2' H2 _ _ n2' (.inl rfl) itok_zip (.inl fun F' H' pr => ⟨.rp (Rp.mono pr _ _ rp1'), .rp (Rp.mono pr _ _ rp2)⟩)⟩
      · exact po.elim
  · cases h
theorem step_items {a : ME} : IOk C Γ n (.items a) := fun c e tg X W x h ht => by
  unfold mtI at h
  split at h <;> cases h
end
end RH
set_option maxRecDepth 100000
set_option maxHeartbeats 4000000
/-! List comprehensions; all expressions. -/
namespace RH
open PySem PySem.Spec L2

/-! ### slots wiped, put back -/
theorem wipeD_len : ∀ (own : List Nat) (σ : EnvD), (wipeD σ own).length = σ.length
  | [], _ => rfl
  | i :: r, σ => by rw [wipeD, wipeD_len r, List.length_set]
theorem wipeD_get (j : Nat) : ∀ (own : List Nat) (σ : EnvD), (wipeD σ own)[j]? = if j ∈ own then (if j < σ.length then some none else none) else σ[j]?
  | [], σ => by simp [wipeD]
  | i :: r, σ => by
    rw [wipeD, wipeD_get j r, List.length_set, List.getElem?_set]
    by_cases h : j ∈ r
    · rw [if_pos h, if_pos (List.mem_cons_of_mem _ h)]
    · rw [if_neg h]
      by_cases e : i = j
      · subst e
        rw [if_pos rfl, if_pos List.mem_cons_self]
      · rw [if_neg e, if_neg (by simp only [List.mem_cons, not_or]; exact ⟨Ne.symm e, h⟩)]
theorem wipeD_at {own : List Nat} {σ : EnvD} {j : Nat} : slotAt (wipeD σ own) j = if j ∈ own then none else slotAt σ j := by
  unfold slotAt
  rw [wipeD_get]
  split
  · split <;> rfl
  · rfl
theorem wipeD_idem {own : List Nat} {σ : EnvD} : wipeD (wipeD σ own) own = wipeD σ own := by
  apply List.ext_getElem?
  intro j
  rw [wipeD_get, wipeD_get, wipeD_len]
  split <;> rfl
theorem wipe_get (j : Nat) : ∀ (own : List Nat) (σ : L2.St), (wipe σ own)[j]? = if j ∈ own then (if j < σ.length then some none else none) else σ[j]?
  | [], σ => by simp [wipe]
  | i :: r, σ => by
    unfold wipe
    rw [List.getElem?_set, wipe_length, wipe_get j r]
    by_cases e : i = j
    · subst e
      rw [if_pos rfl, if_pos List.mem_cons_self]
    · rw [if_neg e]
      by_cases h : j ∈ r
      · rw [if_pos h, if_pos (List.mem_cons_of_mem _ h)]
      · rw [if_neg h, if_neg (by simp only [List.mem_cons, not_or]; exact ⟨Ne.symm e, h⟩)]
theorem wipe_off {own : List Nat} {σ : L2.St} {j : Nat} (h : j ∉ own) : (wipe σ own)[j]? = σ[j]? := by rw [wipe_get, if_neg h]
theorem wipe_eq {own : List Nat} {σ σ2 : L2.St} (hl : σ2.length = (wipe σ own).length) (h : ∀ j, j ∉ own → σ2[j]? = (wipe σ own)[j]?) : wipe σ2 own = wipe σ own := by
  apply List.ext_getElem?
  intro j
  by_cases hj : j ∈ own
  · rw [wipe_get, wipe_get, if_pos hj, if_pos hj, hl, wipe_length]
  · rw [wipe_off hj, h j hj]
theorem backD_len (σ0 : EnvD) : ∀ (own : List Nat) (σ : EnvD), (backD σ0 σ own).length = σ.length
  | [], _ => rfl
  | i :: r, σ => by rw [backD, backD_len σ0 r, List.length_set]
theorem backD_at {σ0 : EnvD} {j : Nat} : ∀ (own : List Nat) (σ : EnvD), σ.length = σ0.length → slotAt (backD σ0 σ own) j = if j ∈ own then slotAt σ0 j else slotAt σ j
  | [], σ, _ => by simp [backD]
  | i :: r, σ, h => by
    rw [backD, backD_at r _ (by rw [List.length_set]; exact h)]
    by_cases hj : j ∈ r
    · rw [if_pos hj, if_pos (List.mem_cons_of_mem _ hj)]
    · rw [if_neg hj, slotAt_set]
      by_cases e : i = j
      · subst e
        rw [if_pos rfl, if_pos List.mem_cons_self]
        split
        · rfl
        · rename_i hlt
          unfold slotAt
          rw [List.getElem?_eq_none (by rw [← h]; omega)]
          rfl
      · rw [if_neg e, if_neg (by simp only [List.mem_cons, not_or]; exact ⟨Ne.symm e, hj⟩)]

section
variable {K : KW} {F F1 F2 F0 : Addr → Prop} {H H1 H2 H0 : Hp} {σd σd1 σd2 σd0 : EnvD} {σ σ1 σ2 : L2.St} {nw : Prop} {pn : Nat → Prop} {own : List Nat}
theorem ER.wipe (er : ER K F H σd σ) (own : List Nat) : ER K F H (wipeD σd own) (wipe σ own) := by
  have sl : ∀ (j : Nat) (sw : SV), slotAt (wipeD σd own) j = some sw → j ∉ own ∧ slotAt σd j = some sw := fun j sw hj => by
    rw [wipeD_at] at hj
    by_cases h : j ∈ own
    · rw [if_pos h] at hj; cases hj
    · rw [if_neg h] at hj; exact ⟨h, hj⟩
  refine ⟨by rw [wipeD_len, wipe_length]; exact er.len, fun j sw hj => ?_, fun j k sw sx b hj hk mj mk ej ek => ?_, er.fd⟩
  · obtain ⟨h1, h2⟩ := sl j sw hj
    obtain ⟨w, q, s⟩ := er.at_ j sw h2
    exact ⟨w, by rw [wipe_off h1]; exact q, s⟩
  · obtain ⟨h1, h2⟩ := sl j sw hj
    obtain ⟨g1, g2⟩ := sl k sx hk
    rw [wipe_off h1] at ej
    rw [wipe_off g1] at ek
    exact er.ap j k sw sx b h2 g2 mj mk ej ek
theorem wipe_own {a : Addr} (h : OwnA (wipeD σd own) (wipe σ own) a) : ∃ i d, i ∉ own ∧ slotAt σd i = some (ow d) ∧ σ[i]? = some (some (.ref a)) := by
  obtain ⟨i, d, h1, h2⟩ := h
  rw [wipeD_at] at h1
  by_cases hi : i ∈ own
  · rw [if_pos hi] at h1; cases h1
  · rw [if_neg hi] at h1
    rw [wipe_off hi] at h2
    exact ⟨i, d, hi, h1, h2⟩
theorem wipe_ref {a : Addr} (h : RefA (wipeD σd own) (wipe σ own) a) : ∃ i sv, i ∉ own ∧ slotAt σd i = some sv ∧ sv.md ≠ .frz ∧ σ[i]? = some (some (.ref a)) := by
  obtain ⟨i, sv, h1, m, h2⟩ := h
  rw [wipeD_at] at h1
  by_cases hi : i ∈ own
  · rw [if_pos hi] at h1; cases h1
  · rw [if_neg hi] at h1
    rw [wipe_off hi] at h2
    exact ⟨i, sv, hi, h1, m, h2⟩
/-- the block's own names forgotten behind a turn -/
theorem Ns.wipe (n : Ns K nw (fun j => j ∉ own) F H σd σ F1 H1 σd1 σ1) (h : ∀ i ∈ own, slotAt σd i = none) : Ns K nw (fun j => j ∉ own) F H σd σ F1 H1 (wipeD σd1 own) (wipe σ1 own) where
  le := n.le
  er := n.er.wipe own
  sub := fun i d a h1 h2 => by
    have hi : i ∉ own := fun q => by rw [wipeD_at, if_pos q] at h1; cases h1
    rw [wipeD_at, if_neg hi] at h1
    rw [wipe_off hi] at h2
    exact n.sub i d a h1 h2
  suR := fun a z => by obtain ⟨i, d, _, h2, m, h3⟩ := wipe_ref z; exact n.suR a ⟨i, d, h2, m, h3⟩
  lk := fun i sv z m => by
    obtain ⟨h1, h2⟩ := n.lk i sv z m
    have hi : i ∉ own := fun q => by rw [h i q] at z; cases z
    exact ⟨by rw [wipeD_at, if_neg hi]; exact h1, by rw [wipe_off hi]; exact h2⟩
  st := fun i hi => by
    obtain ⟨h1, h2⟩ := n.st i hi
    refine ⟨by rw [wipe_off hi]; exact h1, fun sv z m => ?_⟩
    obtain ⟨sv', z', m'⟩ := h2 sv z m
    exact ⟨sv', by rw [wipeD_at, if_neg hi]; exact z', m'⟩
  len := by rw [wipe_length]; exact n.len
/-- a thing that was not there at the start is changed -/
theorem Ns.write (n : Ns K nw pn F H σd σ F1 H1 σd1 σ1) {p : Addr} {o o' : HO} (hp : H p = none) (e : H1 p = some o) (mu : Mut (some o)) (nf : ¬ F1 p) (nr : ¬ RefA σd1 σ1 p) :
    Ns K nw pn F H σd σ F1 (upd H1 p o') σd1 σ1 ∧ Pr F1 H1 F1 (upd H1 p o') := by
  have bk : Bk (fun b => b = p) F1 H1 := ⟨fun b z => by rw [z]; exact nf, fun b z => by rw [z]; exact ⟨o, e, mu⟩⟩
  have l : Le (fun b => b = p) F1 H1 F1 (upd H1 p o') := Le.write rfl
  refine ⟨⟨n.le.trans l fun a z => .inr (by rw [z]; exact hp), n.er.le l bk fun i sv a h1 h2 h3 z => ?_, n.sub, n.suR, n.lk, n.st, n.len⟩, l.pr bk⟩
  subst z
  exact nr ⟨i, sv, h1, h2, h3⟩
theorem Ns.noRef (er : ER K F H σd σ) (n : Ns K False pn F H σd σ F1 H1 σd1 σ1) {p : Addr} (hp : H p = none) : ¬ RefA σd1 σ1 p := fun z => (n.suR p z).elim (fun z => er.ref_there z hp) fun z => z.1
/-- the mode of a slot's thing -/
theorem ER.md (er : ER K F H σd σ) {i : Nat} {m m' : Md} {d : D} (hs : slotAt σd i = some ⟨m, d⟩) (h1 : m ≠ .frz) (h2 : m' ≠ .frz) : ER K F H (σd.set i (some ⟨m', d⟩)) σ := by
  have hi : i < σd.length := by
    rw [slotAt_some] at hs
    exact (List.getElem?_eq_some_iff.mp hs).1
  have sl : ∀ (j : Nat) (sw : SV), slotAt (σd.set i (some ⟨m', d⟩)) j = some sw → (i = j ∧ sw = ⟨m', d⟩) ∨ (i ≠ j ∧ slotAt σd j = some sw) := fun j sw hj => by
    rw [slotAt_set] at hj
    by_cases e : i = j
    · rw [if_pos e, if_pos hi] at hj
      exact .inl ⟨e, (Option.some.inj hj).symm⟩
    · rw [if_neg e] at hj
      exact .inr ⟨e, hj⟩
  have old : ∀ (j : Nat) (sw : SV), slotAt (σd.set i (some ⟨m', d⟩)) j = some sw → sw.md ≠ .frz → ∃ sv, slotAt σd j = some sv ∧ sv.md ≠ .frz := fun j sw hj mj => by
    rcases sl j sw hj with ⟨rfl, rfl⟩ | ⟨e, hj⟩
    · exact ⟨_, hs, h1⟩
    · exact ⟨sw, hj, mj⟩
  refine ⟨by rw [List.length_set]; exact er.len, fun j sw hj => ?_, fun j k sw sx b hj hk mj mk ej ek => ?_, er.fd⟩
  · rcases sl j sw hj with ⟨rfl, rfl⟩ | ⟨e, hj⟩
    · obtain ⟨w, q, s⟩ := er.at_ i _ hs
      exact ⟨w, q, (SR.own (sv := ⟨m', d⟩) h2).mpr ((SR.own (sv := ⟨m, d⟩) h1).mp s)⟩
    · exact er.at_ j sw hj
  · obtain ⟨sv, q1, q2⟩ := old j sw hj mj
    obtain ⟨sv', q3, q4⟩ := old k sx hk mk
    exact er.ap j k sv sv' b q1 q3 q2 q4 ej ek
theorem lendAll_one {i : Nat} {d : D} {m : Md} (h : slotAt σd i = some ⟨m, d⟩) : lendAll σd [i] = σd.set i (some ⟨.lck, d⟩) := by
  show setMd .lck σd i = _
  unfold setMd; rw [h]
theorem unlend_one {i : Nat} {d : D} {m : Md} (h : slotAt σd i = some ⟨m, d⟩) : unlend σd [i] = σd.set i (some ⟨.own, d⟩) := by
  show setMd .own σd i = _
  unfold setMd; rw [h]
theorem slot_lt {i : Nat} {sv : SV} (h : slotAt σd i = some sv) : i < σd.length := by
  rw [slotAt_some] at h
  exact (List.getElem?_eq_some_iff.mp h).1
theorem ER.lend (er : ER K F H σd σ) {l : List Nat} (h : Lent σd l) : ER K F H (lendAll σd l) σ := by
  rcases h with rfl | ⟨i, d, rfl, h⟩
  · exact er
  · rw [lendAll_one h]
    exact er.md h (by intro z; cases z) (by intro z; cases z)
theorem lend_own {l : List Nat} (h : Lent σd l) {a : Addr} (z : OwnA (lendAll σd l) σ a) : OwnA σd σ a := by
  rcases h with rfl | ⟨i, d, rfl, h⟩
  · exact z
  · rw [lendAll_one h] at z
    obtain ⟨j, e, h1, h2⟩ := z
    rw [slotAt_set] at h1
    by_cases hj : i = j
    · rw [if_pos hj, if_pos (slot_lt h)] at h1; cases h1
    · rw [if_neg hj] at h1; exact ⟨j, e, h1, h2⟩
theorem lend_ref {l : List Nat} (h : Lent σd l) {a : Addr} (z : RefA (lendAll σd l) σ a) : RefA σd σ a := by
  rcases h with rfl | ⟨i, d, rfl, h⟩
  · exact z
  · rw [lendAll_one h] at z
    obtain ⟨j, sv, h1, m, h2⟩ := z
    rw [slotAt_set] at h1
    by_cases hj : i = j
    · subst hj; exact ⟨i, _, h, (by intro z; cases z), h2⟩
    · rw [if_neg hj] at h1; exact ⟨j, sv, h1, m, h2⟩
/-- what was lent comes back -/
theorem Ns.unlend (n1 : Ns K nw pn F0 H0 σd0 σ F1 H1 σd1 σ1) {l : List Nat} (hl : Lent σd1 l) (A : Ns K nw pn F1 H1 (lendAll σd1 l) σ1 F2 H2 σd2 σ2) : Ns K nw pn F0 H0 σd0 σ F2 H2 (RH.unlend σd2 l) σ2 := by
  rcases hl with rfl | ⟨i, d, rfl, h⟩
  · exact n1.trans A
  · have e1 := lendAll_one h
    have hl : Lent σd1 [i] := .inr ⟨i, d, rfl, h⟩
    have hlk : slotAt (lendAll σd1 [i]) i = some ⟨.lck, d⟩ := by rw [e1, slotAt_set, if_pos rfl, if_pos (slot_lt h)]
    have off : ∀ j, j ≠ i → slotAt (lendAll σd1 [i]) j = slotAt σd1 j := fun j hj => by rw [e1, slotAt_set, if_neg (Ne.symm hj)]
    obtain ⟨m1, m2⟩ := A.lk i _ hlk rfl
    have e2 := unlend_one m1
    have u1 : slotAt (RH.unlend σd2 [i]) i = some (ow d) := by rw [e2, slotAt_set, if_pos rfl, if_pos (slot_lt m1)]
    have u2 : ∀ j, j ≠ i → slotAt (RH.unlend σd2 [i]) j = slotAt σd2 j := fun j hj => by rw [e2, slotAt_set, if_neg (Ne.symm hj)]
    refine ⟨n1.le.trans (A.le.more fun a z => lend_own hl z) fun a z => (n1.subA a z).elim .inl fun q => .inr q.2, ?_, fun j e a h1 h2 => ?_, fun a ⟨j, sv, h1, m, h2⟩ => ?_, fun j sv z m => ?_, fun j q => ?_, A.len.trans n1.len⟩
    · rw [e2]
      exact A.er.md m1 (by intro z; cases z) (by intro z; cases z)
    · by_cases hj : j = i
      · subst hj
        rw [m2] at h2
        exact n1.sub _ d a h h2
      · rw [u2 j hj] at h1
        rcases A.sub j e a h1 h2 with ⟨d0, z1, z2⟩ | z
        · rw [off j hj] at z1
          exact n1.sub j d0 a z1 z2
        · exact .inr ⟨z.1, n1.le.none_back z.2⟩
    · have r : RefA σd2 σ2 a := by
        by_cases hj : j = i
        · subst hj
          exact ⟨_, _, m1, (by intro z; cases z), h2⟩
        · rw [u2 j hj] at h1
          exact ⟨j, sv, h1, m, h2⟩
      rcases A.suR a r with z | z
      · exact n1.suR a (lend_ref hl z)
      · exact .inr ⟨z.1, n1.le.none_back z.2⟩
    · obtain ⟨q1, q2⟩ := n1.lk j sv z m
      have hj : j ≠ i := fun q => by subst q; rw [h] at q1; rw [← Option.some.inj q1] at m; cases m
      obtain ⟨g1, g2⟩ := A.lk j sv (by rw [off j hj]; exact q1) m
      exact ⟨by rw [u2 j hj]; exact g1, g2.trans q2⟩
    · obtain ⟨q1, q2⟩ := n1.st j q
      obtain ⟨g1, g2⟩ := A.st j q
      refine ⟨g1.trans q1, fun sv z m => ?_⟩
      obtain ⟨sv', z', m'⟩ := q2 sv z m
      by_cases hj : j = i
      · subst hj
        exact ⟨_, u1, by intro z; cases z⟩
      · obtain ⟨sv2, z2, m2'⟩ := g2 sv' (by rw [off j hj]; exact z') m'
        exact ⟨sv2, by rw [u2 j hj]; exact z2, m2'⟩
theorem Ns.toNx (n : Ns K False (fun _ => True) F H σd σ F1 H1 σd1 σ) : Nx K F H σd σ F1 H1 σd1 :=
  ⟨n.le, n.er, fun j d z => by
    obtain ⟨v, q, a, rfl, _, _⟩ := n.er.at_ j _ z
    rcases n.sub j d a z q with ⟨d0, q1, _⟩ | q
    · exact ⟨d0, q1⟩
    · exact q.1.elim, fun a z => (n.suR a z).elim id fun z => z.1.elim, fun i sv z m => (n.lk i sv z m).1, fun i => (n.st i trivial).2⟩
/-- behind the block -/
theorem Ns.back (er : ER K F H σd σ) (n : Ns K False (fun j => j ∉ own) F H (wipeD σd own) (L2.wipe σ own) F1 H1 (wipeD σd1 own) (L2.wipe σ own)) : Ns K False (fun _ => True) F H σd σ F1 H1 (backD σd σd1 own) σ := by
  have hl : σd1.length = σd.length := by
    have h1 := n.er.len
    rw [wipeD_len, wipe_length] at h1
    rw [h1, er.len]
  have b1 : ∀ j, j ∈ own → slotAt (backD σd σd1 own) j = slotAt σd j := fun j hj => by rw [backD_at own _ hl, if_pos hj]
  have b2 : ∀ j, j ∉ own → slotAt (backD σd σd1 own) j = slotAt σd1 j := fun j hj => by rw [backD_at own _ hl, if_neg hj]
  have w1 : ∀ {e : EnvD} (j : Nat), j ∉ own → slotAt (wipeD e own) j = slotAt e j := fun {e} j hj => by rw [wipeD_at, if_neg hj]
  have bk := (er.wipe own).bk
  have ow1 : ∀ a, OwnA (wipeD σd own) (L2.wipe σ own) a → OwnA σd σ a := fun a z => by obtain ⟨i, d, _, h1, h2⟩ := wipe_own z; exact ⟨i, d, h1, h2⟩
  have rf1 : ∀ a, RefA (wipeD σd own) (L2.wipe σ own) a → RefA σd σ a := fun a z => by obtain ⟨i, d, _, h1, m, h2⟩ := wipe_ref z; exact ⟨i, d, h1, m, h2⟩
  refine ⟨n.le.more ow1, ⟨by rw [backD_len, hl]; exact er.len, fun j sw hj => ?_, fun j k sw sx b hj hk mj mk ej ek => ?_, n.er.fd⟩, fun j d a h1 h2 => ?_, fun a ⟨j, sv, h1, m, h2⟩ => ?_, fun j sv z m => ?_, fun j _ => ?_, rfl⟩
  · by_cases h : j ∈ own
    · rw [b1 j h] at hj
      obtain ⟨v, q, s⟩ := er.at_ j sw hj
      refine ⟨v, q, s.le n.le bk fun m a ea z => ?_⟩
      subst ea
      obtain ⟨i, d, hi, h1, h2⟩ := wipe_own z
      have := er.ap j i sw _ a hj h1 m (by intro z; cases z) q h2
      subst this
      exact hi h
    · rw [b2 j h] at hj
      obtain ⟨v, q, s⟩ := n.er.at_ j sw (by rw [w1 j h]; exact hj)
      exact ⟨v, by rw [wipe_off h] at q; exact q, s⟩
  · have mix : ∀ (j k : Nat) (sw sx : SV), j ∈ own → k ∉ own → slotAt σd j = some sw → slotAt σd1 k = some sx → sw.md ≠ .frz → sx.md ≠ .frz → σ[j]? = some (some (.ref b)) → σ[k]? = some (some (.ref b)) → False := fun j k sw sx h1 h2 hj hk mj mk ej ek => by
      have r : RefA (wipeD σd1 own) (L2.wipe σ own) b := ⟨k, sx, by rw [w1 k h2]; exact hk, mk, by rw [wipe_off h2]; exact ek⟩
      rcases n.suR b r with z | z
      · obtain ⟨i, sv, hi, g1, g2, g3⟩ := wipe_ref z
        have := er.ap j i sw sv b hj g1 mj g2 ej g3
        subst this
        exact hi h1
      · exact z.1
    by_cases h1 : j ∈ own
    · rw [b1 j h1] at hj
      by_cases h2 : k ∈ own
      · rw [b1 k h2] at hk
        exact er.ap j k sw sx b hj hk mj mk ej ek
      · rw [b2 k h2] at hk
        exact (mix j k sw sx h1 h2 hj hk mj mk ej ek).elim
    · rw [b2 j h1] at hj
      by_cases h2 : k ∈ own
      · rw [b1 k h2] at hk
        exact (mix k j sx sw h2 h1 hk hj mk mj ek ej).elim
      · rw [b2 k h2] at hk
        exact n.er.ap j k sw sx b (by rw [w1 j h1]; exact hj) (by rw [w1 k h2]; exact hk) mj mk (by rw [wipe_off h1]; exact ej) (by rw [wipe_off h2]; exact ek)
  · by_cases h : j ∈ own
    · rw [b1 j h] at h1
      exact .inl ⟨d, h1, h2⟩
    · rw [b2 j h] at h1
      rcases n.sub j d a (by rw [w1 j h]; exact h1) (by rw [wipe_off h]; exact h2) with ⟨d0, q1, q2⟩ | q
      · rw [w1 j h] at q1
        exact .inl ⟨d0, q1, h2⟩
      · exact .inr q
  · by_cases h : j ∈ own
    · rw [b1 j h] at h1
      exact .inl ⟨j, sv, h1, m, h2⟩
    · rw [b2 j h] at h1
      exact (n.suR a ⟨j, sv, by rw [w1 j h]; exact h1, m, by rw [wipe_off h]; exact h2⟩).elim (fun z => .inl (rf1 a z)) .inr
  · refine ⟨?_, rfl⟩
    by_cases h : j ∈ own
    · rw [b1 j h]; exact z
    · rw [b2 j h]
      have := (n.lk j sv (by rw [w1 j h]; exact z) m).1
      rw [w1 j h] at this
      exact this
  · refine ⟨rfl, fun sv z m => ?_⟩
    by_cases h : j ∈ own
    · exact ⟨sv, by rw [b1 j h]; exact z, m⟩
    · obtain ⟨sv', z', m'⟩ := (n.st j h).2 sv (by rw [w1 j h]; exact z) m
      exact ⟨sv', by rw [b2 j h]; rw [w1 j h] at z'; exact z', m'⟩
end

abbrev W0 : WX := fun _ _ _ _ => False
section
variable {C : Str → Option D} {Γ : Str → Option FD} {n : Nat} {X : Cx} {W : WX} {c : CC} {cf : Str → List SV → RF}
theorem tE_comp {own : List Nat} {p : MP} {it : MI} {cs : MEs} {el : ME} (hp : ∀ i ∈ pat p, i ∈ own) {σ : L2.St} {H : Hp} {Q : VK} (h : tE X W (evV C cf (.comp own p it cs el)) σ H Q) :
    tLc (tI X W (evI C cf it)) (tG X.kw p) (tT X (Wb W σ) (evT C cf cs)) (tE X (Wb W σ) (evV C cf el)) own σ H Q := by
  obtain ⟨F0, σd, er, po⟩ := h
  rw [evV] at po
  refine ⟨F0, σd, er, ?_⟩
  cases e1 : evI C cf it σd with
  | bad => rw [e1] at po; exact po
  | exc c s => rw [e1] at po; exact po
  | ok s =>
    rw [e1, R.bind_ok] at po
    intro F1 H1 J ok n1 l1 io sl
    by_cases hh : (s.1.held.any (own.contains ·)) = true
    · rw [if_pos hh] at po; exact po.elim
    · rw [if_neg hh] at po
      generalize hσl : lendAll s.2 s.1.lent = σl at po sl
      have erl : ER X.kw F1 H1 σl σ := by rw [← hσl]; exact n1.er.lend l1
      have erw := erl.wipe own
      have fin : ∀ {F' H' e'}, Ns X.kw False (fun j => j ∉ own) F1 H1 (wipeD σl own) (L2.wipe σ own) F' H' (wipeD e' own) (L2.wipe σ own) → Nx X.kw F0 H σd σ F' H' (unlend (backD σl e' own) s.1.lent) := fun {F' H' e'} ns => by
        have A := Ns.back erl ns
        rw [← hσl] at A
        have fin := (Ns.unlend (n1.ns (nw := False) (pn := fun _ => True)) l1 A).toNx
        rw [hσl] at fin
        exact fin
      cases e2 : compR (fun σ => wipeD σ own) (bindP p) (evT C cf cs) (evV C cf el) s.1.items [] (wipeD σl own) with
      | bad => rw [e2] at po; exact po.elim
      | _ =>
        rw [e2] at po
        first
          | rw [R.onX_ok, R.bind_ok] at po
          | rw [R.onX_exc, R.bind_exc] at po
        intro Dd hD
        have nD0 : H Dd = none := n1.le.none_back hD
        have hok : ∀ {F H e}, Ns X.kw False (fun j => j ∉ own) F1 H1 (wipeD σl own) (L2.wipe σ own) F H (wipeD e own) (L2.wipe σ own) → ok F H := fun {F H e} ns => by
          rcases sl with sl | ⟨i, d, v, g1, g2, g3, g4⟩
          · exact sl _ _ (ns.le.pr erw.bk)
          · have hi : i ∉ own := fun z => hh (by rw [g1]; simpa using z)
            obtain ⟨q1, q2⟩ := ns.lk i ⟨.lck, d⟩ (by rw [wipeD_at, if_neg hi]; exact g2) rfl
            obtain ⟨w, q3, q4⟩ := ns.er.at_ i _ q1
            rw [wipe_off hi, g3] at q3; cases q3
            exact g4 _ _ q4.rt
        have wn : ∀ i ∈ own, slotAt (wipeD σl own) i = none := fun i hi => by rw [wipeD_at, if_pos hi]
        have join : ∀ {F5 H4 σd' σ2} {F H e}, Ns X.kw False (fun j => j ∉ own) F1 H1 (wipeD σl own) (L2.wipe σ own) F H (wipeD e own) (L2.wipe σ own) → Ns X.kw False (fun j => j ∉ own) F H (wipeD e own) (L2.wipe σ own) F5 H4 σd' σ2 → L2.wipe σ2 own = L2.wipe σ own →
            Ns X.kw False (fun j => j ∉ own) F1 H1 (wipeD σl own) (L2.wipe σ own) F5 H4 (wipeD σd' own) (L2.wipe σ own) := fun {F5 H4 σd' σ2 F H e} ns nT ew => by
          have nn := (ns.trans nT).wipe wn
          rw [ew] at nn
          exact nn
        have step : ∀ {F5 H4 σd' σ2} {acc : List D} {accV : List V} {F H e} , Ns X.kw False (fun j => j ∉ own) F1 H1 (wipeD σl own) (L2.wipe σ own) F H (wipeD e own) (L2.wipe σ own) → Ns X.kw False (fun j => j ∉ own) F H (wipeD e own) (L2.wipe σ own) F5 H4 σd' σ2 → ¬ F Dd → H Dd = some (.lst accV) → Rps X.kw F H accV acc → L2.wipe σ2 own = L2.wipe σ own →
            Ns X.kw False (fun j => j ∉ own) F1 H1 (wipeD σl own) (L2.wipe σ own) F5 H4 (wipeD σd' own) (L2.wipe σ own) ∧ ¬ F5 Dd ∧ H4 Dd = some (.lst accV) ∧ Rps X.kw F5 H4 accV acc ∧ ¬ RefA (wipeD σd' own) (L2.wipe σ own) Dd := fun {F5 H4 σd' σ2 acc accV F H e} ns nT nf hv ra ew => by
          have nr := Ns.noRef erw ns hD
          have nn := join ns nT ew
          refine ⟨nn, fun z => nf (nT.le.nf Dd (by rw [hv]; exact fun z => nomatch z) (fun z => nr z.ref) z), nT.le.kp _ _ hv (fun z => nr z.ref) nf, Rps.mono (nT.le.pr ns.er.bk) _ _ ra, Ns.noRef erw nn hD⟩
        generalize hr0 : compR (fun σ => wipeD σ own) (bindP p) (evT C cf cs) (evV C cf el) s.1.items [] (wipeD σl own) = r0 at e2
        refine ⟨fun i m H => m = s.1.items.length - i ∧ ∃ F e acc accV, Ns X.kw False (fun j => j ∉ own) F1 H1 (wipeD σl own) (L2.wipe σ own) F H (wipeD e own) (L2.wipe σ own) ∧ ¬ F Dd ∧ H Dd = some (.lst accV) ∧ Rps X.kw F H accV acc ∧ i ≤ s.1.items.length ∧
          compR (fun σ => wipeD σ own) (bindP p) (evT C cf cs) (evV C cf el) (s.1.items.drop i) acc e = r0, ⟨s.1.items.length, by simp, F1, wipeD σl own, [], [], ?_, fun z => n1.er.fd Dd z hD, upd_same, .nil, Nat.zero_le _, by rw [List.drop_zero]; exact hr0⟩, ?_⟩
        · rw [wipeD_idem]
          exact Le.ns erw (Le.new hD)
        · rintro i m Ht ⟨rfl, F, e, acc, accV, ns, nf, hv, ra, hi, hc⟩
          have okH := hok ns
          by_cases hlt : i < s.1.items.length
          · have hd : s.1.items[i]? = some s.1.items[i] := List.getElem?_eq_getElem hlt
            obtain ⟨go, yl⟩ := io.step i _ F Ht ns.er.fd okH hd
            rw [List.drop_eq_getElem_cons hlt, compR] at hc
            refine .inr ⟨go, fun H' => ∃ F e acc accV, Ns X.kw False (fun j => j ∉ own) F1 H1 (wipeD σl own) (L2.wipe σ own) F H' (wipeD e own) (L2.wipe σ own) ∧ ¬ F Dd ∧ H' Dd = some (.lst accV) ∧ Rps X.kw F H' accV acc ∧
              compR (fun σ => wipeD σ own) (bindP p) (evT C cf cs) (evV C cf el) (s.1.items.drop (i + 1)) acc e = r0, fun H' ⟨F, e, acc, accV, q1, q2, q3, q4, q5⟩ => ⟨s.1.items.length - (i + 1), by omega, rfl, F, e, acc, accV, q1, q2, q3, q4, hlt, q5⟩, fun x H' y => ?_⟩
            obtain ⟨ly, rx⟩ := yl x H' y
            have nT1 := Le.ns (nw := False) (pn := fun j => j ∉ own) ns.er ly
            cases hb : bindP p s.1.items[i] (wipeD e own) with
            | none => rw [hb] at hc; rw [e2] at hc; cases hc
            | some σ1 =>
              rw [hb, ofOpt_some, R.bind_ok] at hc
              refine ⟨F, wipeD e own, s.1.items[i], σ1, nT1.er, rx, hb, fun σ2 er2 bd => ?_⟩
              have nT2 := nT1.trans (bd.ns (nw := False) (pn := fun j => j ∉ own) er2 (fun i hi sv z => by rw [wipeD_at, if_pos (hp i hi)] at z; cases z) fun i hi z => z (hp i hi))
              have ew : L2.wipe σ2 own = L2.wipe σ own := wipe_eq nT2.len fun j hj => (nT2.st j hj).1
              refine ⟨by rw [ew], F, σ1, er2, ?_⟩
              cases e3 : evT C cf cs σ1 with
              | bad => rw [e3] at hc; rw [e2] at hc; cases hc
              | exc c s =>
                rw [e3] at hc; rw [e2] at hc
                first
                  | (cases hc; done)
                  | (cases hc
                     intro F' H' Ca n3 hx
                     exact po F' H' Ca (fin (join ns (nT2.nx n3) ew)) hx)
              | ok pp =>
                rw [e3, R.bind_ok] at hc
                intro F3 H3 n3
                have nT3 := nT2.nx n3
                by_cases hpp : pp.1 = true
                · rw [if_pos hpp] at hc ⊢
                  refine ⟨F3, pp.2, n3.er, ?_⟩
                  cases e4 : evV C cf el pp.2 with
                  | bad => rw [e4] at hc; rw [e2] at hc; cases hc
                  | exc c s =>
                    rw [e4] at hc; rw [e2] at hc
                    first
                      | (cases hc; done)
                      | (cases hc
                         intro F' H' Ca n4 hx
                         exact po F' H' Ca (fin (join ns (nT3.nx n4) ew)) hx)
                  | ok q =>
                    rw [e4, R.bind_ok] at hc
                    intro F4 H4 yv n4 r4
                    obtain ⟨F5, n5, rp5, _⟩ := n4.fr n3.er r4
                    have nT5 := nT3.nx n5
                    obtain ⟨m1, m2, m3, m4, m5⟩ := step ns nT5 nf hv ra ew
                    by_cases hz : acc.length < sizeLine
                    · rw [if_pos hz] at hc
                      obtain ⟨w1, w2⟩ := m1.write (o' := .lst (accV ++ [yv])) hD m3 trivial m2 m5
                      exact ⟨accV, m3, by rw [ra.length]; exact hz, F5, q.2, acc ++ [q.1.d], accV ++ [yv], w1, m2, upd_same, Rps.mono w2 _ _ (m4.append (.one rp5)), hc⟩
                    · rw [if_neg hz] at hc; rw [e2] at hc; cases hc
                · rw [if_neg hpp] at hc ⊢
                  obtain ⟨m1, m2, m3, m4, m5⟩ := step ns nT3 nf hv ra ew
                  exact ⟨F3, pp.2, acc, accV, m1, m2, m3, m4, hc⟩
          · have hi' : i = s.1.items.length := by omega
            rw [hi', List.drop_length, compR, e2] at hc
            first
              | (cases hc; done)
              | (cases hc
                 exact .inl ⟨io.stop i F Ht okH (by omega), po F Ht _ (fin ns) ⟨Dd, rfl, nf, nD0, .lst hv ra⟩⟩)
end
end RH
set_option maxRecDepth 100000
set_option maxHeartbeats 4000000
/-! All expressions. -/
namespace RH
open PySem PySem.Spec L2
section
variable {C : Str → Option D} {Γ : Str → Option FD} {n : Nat} {X : Cx} {W : WX} {c : CC} {cf : Str → List SV → RF}
theorem XC.blk (x : XC X W c C Γ n) {scope : Scope} (hk : scope.kind = .function) (s : Shared) (H : Hp) (A : Addr) (cl : List (Str × Addr)) (fp : List Addr) {W' : WX} (tk : TakesR (blkX X s H scope (compEnvC scope cl A X.env) fp) W') :
    XC (blkX X s H scope (compEnvC scope cl A X.env) fp) W' ⟨c.N, relS scope c.sc, c.fs, c.xs, c.hs⟩ C Γ n where
  N := x.N
  nd := x.nd
  sc := by
    show relS scope X.env.scope = _
    rw [x.sc]
  kind := hk
  calm := x.calm
  tk := tk
  fr := x.fr
  room := x.room
  tab := x.tab
  fs := x.fs
mutual
theorem tgP_of {X : Cx} (h : ∀ i y, isLoc c i y = true → Sto X i y) : ∀ (p : MP) (e : Expr), mtP c p e = true → TgP X p e
  | .name i, e, z => by
    cases e <;> first | (simp [mtP] at z; done) | skip
    exact .name (h _ _ z)
  | .tup ps, e, z => by
    cases e <;> first | (simp [mtP] at z; done) | skip
    exact tgPs_of h ps _ _ _ z
theorem tgPs_of {X : Cx} (h : ∀ i y, isLoc c i y = true → Sto X i y) : ∀ (ps : List MP) (es : List Expr) (k : Nat) (pos : Pos), mtPs c ps es = true → TgP X (.tup ps) (.Tuple es k pos)
  | [], [], k, pos, z => .tup0
  | [], e :: es, k, pos, z => by simp [mtPs] at z
  | p :: ps, [], k, pos, z => by simp [mtPs] at z
  | p :: ps, e :: es, k, pos, z => by
    have z : (mtP c p e && mtPs c ps es) = true := z
    simp only [Bool.and_eq_true] at z
    exact .tup (tgP_of h p e z.1) (tgPs_of h ps es k pos z.2)
end
theorem pts_of (x : XC X W c C Γ n) {cs : MEs} {ifs : List Expr} (ok : AllOk C Γ n cs) (hl : ifs.length ≤ 1) (h : mts c cs ifs = true) : PTs X ifs (tT X W (evT C (callF C Γ n) cs)) := by
  cases cs with
  | nil =>
    rw [mts_nil h]
    refine ⟨fun pins s σ H Q I q => pts_nil.run pins s σ H Q I ?_⟩
    obtain ⟨F, σd, er, po⟩ := q
    exact po F H (Nx.refl er)
  | cons m ms =>
    obtain ⟨e, r, rfl, h1, _, h2⟩ := mts_cons h
    have hr : r = [] := by
      cases r with
      | nil => rfl
      | cons a b => simp at hl
    subst hr
    have hm : ms = .nil := mts_len h2 rfl
    subst hm
    refine ⟨fun pins s σ H Q I q => (pts_one (ok.1 c e X W x h1).2).run pins s σ H Q I ?_⟩
    obtain ⟨F, σd, er, po⟩ := q
    refine ⟨F, σd, er, ?_⟩
    rw [evT] at po
    unfold evB
    cases e1 : evV C (callF C Γ n) m σd with
    | bad => rw [e1] at po; exact po
    | exc c s => rw [e1] at po; exact po
    | ok p =>
      rw [e1, R.bind_ok] at po
      rw [R.bind_ok]
      cases e2 : asB p.1 with
      | none => rw [e2] at po; exact po
      | some t =>
        rw [e2, ofOpt_some, R.bind_ok] at po
        rw [ofOpt_some, R.bind_ok]
        cases t with
        | true => rw [if_pos rfl, evT] at po; exact po
        | false => rw [if_neg Bool.false_ne_true] at po; exact po
theorem step_comp {own : List Nat} {p : MP} {it : MI} {cs : MEs} {el : ME} (hi : IOk C Γ n it) (hc : AllOk C Γ n cs) (he : EOk C Γ n el) : EOk C Γ n (.comp own p it cs el) := fun c e X W x h => by
  unfold mt at h
  split at h
  · rename_i elt tg iter ifs scope pos
    simp only [Bool.and_eq_true, decide_eq_true_eq] at h
    obtain ⟨⟨⟨⟨⟨⟨⟨⟨h1, h2⟩, h3⟩, h4⟩, h5⟩, h6⟩, h7⟩, h8⟩, h9⟩ := h
    have hp : ∀ i ∈ pat p, i ∈ own := fun i hi => by simpa using List.all_eq_true.mp h6 i hi
    have bo : BlkOk X.N X.env.scope scope (ownOf c.N own) := by rw [x.N, x.sc]; exact blkOk_by h3
    obtain ⟨i1, i2⟩ := hi c iter tg X W x h1 h2
    have go : PE X (.ListComp elt [⟨tg, iter, ifs, 0⟩] scope pos) (tE X W (evV C (callF C Γ n) (.comp own p it cs el))) := by
      refine PEimp (pe_lcX (own := ownOf c.N own) (g := tG X.kw p) (tt := fun σ => tT X (Wb W σ) (evT C (callF C Γ n) cs)) (te := fun σ => tE X (Wb W σ) (evV C (callF C Γ n) el)) x.tk x.fr x.calm (by rw [x.N]; exact x.nd) i1 bo (fun σ s H A cl fp tk => ?_) (fun σ s H A cl fp tk => ?_) (fun σ s H A cl fp tk => ?_) (i2 X.env)) fun σ H Q q => by rw [h4]; exact tE_comp hp q
      · have xb := x.blk bo.kind s H A cl fp tk
        refine (TgP.run (X := blkX X s H scope (compEnvC scope cl A X.env) fp) (by show X.N.Nodup; rw [x.N]; exact x.nd) x.calm (tgP_of (fun i y z => ?_) p tg h5)).1
        unfold isLoc at z
        simp only [Bool.and_eq_true, decide_eq_true_eq] at z
        have zl : (blkX X s H scope (compEnvC scope cl A X.env) fp).env.scope.names.lookup y = some .local := by
          rw [xb.sc]
          have z2 := z.2
          split at z2
          · assumption
          · cases z2
        exact ⟨by rw [xb.N]; exact z.1, .inl zl, .inr zl⟩
      · exact pts_of (x.blk bo.kind s H A cl fp tk) hc h7 h8
      · exact (he _ elt _ _ (x.blk bo.kind s H A cl fp tk) h9).1
    exact val_both go fun _ => rfl
  · cases h
mutual
theorem eok : ∀ m : ME, EOk C Γ n m
  | .var i => step_var i
  | .cst d => step_cst d
  | .glo x => step_glo x
  | .op o es => step_op o es (aok es)
  | .and a b => step_and (eok a) (eok b)
  | .or a b => step_or (eok a) (eok b)
  | .not a => step_not (eok a)
  | .chain o1 o2 a b d => step_chain o1 o2 (eok a) (eok b) (eok d)
  | .ife c a b => step_ife (eok c) (eok a) (eok b)
  | .tup es => step_tup (aok es)
  | .lst es => step_lst (aok es)
  | .dct es => step_dct (aok es)
  | .call f es => step_call f (aok es)
  | .comp own p it cs e => step_comp (iok it) (aok cs) (eok e)
  | .meth m i es => step_meth m i (aok es)
  | .getd o k x => step_getd (eok o) (eok k) (eok x)
  | .join o e => step_join (eok o) (eok e)
  | .slice a l h => step_slice (eok a) (eok l) (eok h)
theorem aok : ∀ ms : MEs, AllOk C Γ n ms
  | .nil => trivial
  | .cons e es => ⟨eok e, aok es⟩
theorem iok : ∀ it : MI, IOk C Γ n it
  | .seq e => step_seq (eok e)
  | .rng1 b => step_rng1 (eok b)
  | .rng2 a b => step_rng2 (eok a) (eok b)
  | .rng3 a b c => step_rng3 (eok a) (eok b) (eok c)
  | .enum e => step_enum (eok e)
  | .zip a b => step_zip (eok a) (eok b)
  | .items e => step_items
end
end
end RH
set_option maxRecDepth 100000
set_option maxHeartbeats 4000000
/-! Statements, part 1. -/
namespace RH
open PySem PySem.Spec L2

/-- an own exception class that is raised with a text -/
def ExcName (X : Cx) (x : Str) : Prop := ∃ C0, X.mg x = some (.ref C0) ∧ ∀ (m : Str) (j : Nat) (p p2 pos : Pos), Gl X x → (x == ("__debug__" : Str)) = false → PMk X (.Call (.Name x p) [.Constant (.str m) j p2] [] pos) (fun _ H Q => Q (.ref C0) none H)
structure XS (X : Cx) (W : WX) (c : CC) (C : Str → Option D) (Γ : Str → Option FD) (n : Nat) : Prop extends XC X W c C Γ n where
  fn : ∀ y, X.fn y = true
  nex : PassesOwn (model X.prog X.w) X.A X.env X.xe
  xs : ∀ x ∈ c.xs, ∀ Y : Cx, Y.K = X.kw → Y.mg = X.mg → ExcName Y x
  hs : ∀ x y b, (x, y, b) ∈ c.hs → ∃ Cx Cy, X.mg x = some (.ref Cx) ∧ X.mg y = some (.ref Cy) ∧ PySem.W.exmOne X.kw (.ref Cx) (.ref Cy) = some b
  stk : X.stack = X.env :: X.outer
  frm : X.env.frame = some X.env.locals

/-- what a def gives back: new, or what a slot of its own held -/
def RetV (K : KW) (np : Nat) (H : Hp) (σd : EnvD) (σ : L2.St) (F' : Addr → Prop) (H' : Hp) (v : V) (sv : SV) : Prop := match sv.md with
  | .frz => Rp K F' H' v sv.d
  | .own => ∃ a, v = .ref a ∧ ¬ F' a ∧ (H a = none ∨ ∃ i d0, np ≤ i ∧ slotAt σd i = some (ow d0) ∧ σ[i]? = some (some (.ref a))) ∧ Ct K F' H' a sv.d
  | .lck => False
def PostS (X : Cx) (W : WX) (np : Nat) (pn : List Nat) (F : Addr → Prop) (H : Hp) (σd : EnvD) (σ : L2.St) (r : R Fl) (D : Ends) : Prop := match r with
  | .ok (.nx σd') => ∀ F' H' σ', Ns X.kw True (· ∈ pn) F H σd σ F' H' σd' σ' → D.nx σ' H'
  | .ok (.bk σd') => ∀ F' H' σ', Ns X.kw True (· ∈ pn) F H σd σ F' H' σd' σ' → D.bk σ' H'
  | .ok (.ct σd') => ∀ F' H' σ', Ns X.kw True (· ∈ pn) F H σd σ F' H' σd' σ' → D.ct σ' H'
  | .ok (.rt sv σd') => ∀ F' H' σ' v, Ns X.kw True (· ∈ pn) F H σd σ F' H' σd' σ' → RetV X.kw np H σd σ F' H' v sv → D.rt v H'
  | .exc c σd' => ∀ F' H' σ' Ca, Ns X.kw True (· ∈ pn) F H σd σ F' H' σd' σ' → X.mg c = some (.ref Ca) → W (.ref Ca) none σ' H'
  | .bad => False
def tS (X : Cx) (W : WX) (np : Nat) (pn : List Nat) (m : EnvD → R Fl) : TS := fun D σ H => ∃ F σd, ER X.kw F H σd σ ∧ PostS X W np pn F H σd σ (m σd) D
theorem PSimp {X : Cx} {s : Stmt} {t t' : TS} (h : PS X s t) (i : ∀ D σ H, t' D σ H → t D σ H) : PS X s t' := ⟨fun pins s σ H D I q => h.run pins s σ H D I (i D σ H q)⟩
theorem PSsimp {X : Cx} {s : List Stmt} {t t' : TS} (h : PSs X s t) (i : ∀ D σ H, t' D σ H → t D σ H) : PSs X s t' := ⟨fun pins s σ H D I q => h.run pins s σ H D I (i D σ H q)⟩
theorem PGimp {X : Cx} {s : Expr} {t t' : TG} (h : PG X s t) (i : ∀ v σ H Q, t' v σ H Q → t v σ H Q) : PG X s t' := ⟨fun pins s σ H v u Q I r q => h.run pins s σ H v u Q I r (i v σ H Q q)⟩

section
variable {X : Cx} {W : WX} {np : Nat} {pn : List Nat} {F F1 : Addr → Prop} {H H1 : Hp} {σd σd1 : EnvD} {σ σ1 : L2.St} {D : Ends}
theorem RetV.old {K : KW} {nw : Prop} {pn : Nat → Prop} {F' : Addr → Prop} {H' : Hp} {v : V} {sv : SV} (r : RetV K np H1 σd1 σ1 F' H' v sv) (n : Ns K nw pn F H σd σ F1 H1 σd1 σ1) : RetV K np H σd σ F' H' v sv := by
  obtain ⟨m, d⟩ := sv
  cases m with
  | frz => exact r
  | lck => exact r
  | own =>
    obtain ⟨a, q, nf, h, ct⟩ := r
    refine ⟨a, q, nf, ?_, ct⟩
    rcases h with h | ⟨i, d0, hi, h1, h2⟩
    · exact .inl (n.le.none_back h)
    · rcases n.sub i d0 a h1 h2 with ⟨d1, q1, q2⟩ | q
      · exact .inr ⟨i, d1, hi, q1, q2⟩
      · exact .inl q.2
theorem PostS.on {r : R Fl} (n : Ns X.kw True (· ∈ pn) F H σd σ F1 H1 σd1 σ1) (h : PostS X W np pn F H σd σ r D) : PostS X W np pn F1 H1 σd1 σ1 r D := by
  cases r with
  | bad => exact h
  | exc c s => exact fun F' H' σ' Ca n' g => h F' H' σ' Ca (n.trans n') g
  | ok f =>
    cases f with
    | nx s => exact fun F' H' σ' n' => h F' H' σ' (n.trans n')
    | bk s => exact fun F' H' σ' n' => h F' H' σ' (n.trans n')
    | ct s => exact fun F' H' σ' n' => h F' H' σ' (n.trans n')
    | rt sv s => exact fun F' H' σ' v n' rv => h F' H' σ' v (n.trans n') (rv.old n)
theorem PostS.bindE {r : R (SV × EnvD)} {f : SV × EnvD → R Fl} {Q' : VK} (h : PostS X W np pn F H σd σ (r.bind f) D)
    (g : ∀ p F1 H1 v, r = .ok p → Nx X.kw F H σd σ F1 H1 p.2 → Res X.kw H F1 H1 v p.1 → PostS X W np pn F H σd σ (f p) D → Q' v H1) : PostE X W F H σd σ r Q' := by
  cases r with
  | ok p => exact fun F1 H1 v n rs => g p F1 H1 v rfl n rs h
  | exc c s => exact fun F' H' Ca n g => h F' H' σ Ca n.ns g
  | bad => exact h
/-- a slot is stored -/
theorem Ns.store {K : KW} {pn : Nat → Prop} {i : Nat} {v : V} {sv : SV} (n : Ns K True pn F H σd σ F1 H1 σd1 σ1) (hi : ¬ pn i) (hl : ∀ sv, slotAt σd1 i = some sv → sv.md ≠ .lck) (r : Res K H F1 H1 v sv)
    (nr : sv.md ≠ .frz → ∀ a, v = .ref a → ¬ RefA σd1 σ1 a) : Ns K True pn F H σd σ F1 H1 (σd1.set i (some sv)) (σ1.set i (some v)) := by
  have sl : ∀ (j : Nat) (sw : SV), slotAt (σd1.set i (some sv)) j = some sw → (i = j ∧ sw = sv ∧ i < σd1.length) ∨ (i ≠ j ∧ slotAt σd1 j = some sw) := fun j sw hj => by
    rw [slotAt_set] at hj
    by_cases e : i = j
    · rw [if_pos e] at hj
      by_cases hi : i < σd1.length
      · rw [if_pos hi] at hj
        exact .inl ⟨e, (Option.some.inj hj).symm, hi⟩
      · rw [if_neg hi] at hj; cases hj
    · rw [if_neg e] at hj
      exact .inr ⟨e, hj⟩
  have sr : SR K F1 H1 v sv := by
    obtain ⟨m, d⟩ := sv
    cases m with
    | frz => exact r
    | own => obtain ⟨a, q, nf, _, ct⟩ := r; exact ⟨a, q, nf, ct⟩
    | lck => exact r.elim
  have at1 : i < σd1.length → (σ1.set i (some v))[i]? = some (some v) := fun hi => by rw [List.getElem?_set_self (by rw [← n.er.len]; exact hi)]
  have at2 : ∀ j, i ≠ j → (σ1.set i (some v))[j]? = σ1[j]? := fun j e => List.getElem?_set_ne e
  have newOwn : ∀ a, sv.md ≠ .frz → v = .ref a → H a = none := fun a hm hv => by
    obtain ⟨m, d⟩ := sv
    cases m with
    | frz => exact absurd rfl hm
    | own => obtain ⟨b, q, _, h, _⟩ := r; rw [hv] at q; cases q; exact h
    | lck => exact r.elim
  refine ⟨n.le, ⟨by rw [List.length_set, List.length_set]; exact n.er.len, fun j sw hj => ?_, fun j k sw sx b hj hk mj mk ej ek => ?_, n.er.fd⟩, fun j d a h1 h2 => ?_, fun a ⟨j, sw, h1, m, h2⟩ => ?_, fun j sw z m => ?_, fun j q => ?_, by rw [List.length_set]; exact n.len⟩
  · rcases sl j sw hj with ⟨rfl, rfl, hi⟩ | ⟨e, hj⟩
    · exact ⟨v, at1 hi, sr⟩
    · obtain ⟨w, q, s⟩ := n.er.at_ j sw hj
      exact ⟨w, by rw [at2 j e]; exact q, s⟩
  · rcases sl j sw hj with ⟨rfl, rfl, hi⟩ | ⟨e, hj'⟩
    · rw [at1 hi] at ej
      cases ej
      rcases sl k sx hk with ⟨rfl, _, _⟩ | ⟨e', hk'⟩
      · rfl
      · rw [at2 k e'] at ek
        exact (nr mj b rfl ⟨k, sx, hk', mk, ek⟩).elim
    · rw [at2 j e] at ej
      rcases sl k sx hk with ⟨rfl, rfl, hi⟩ | ⟨e', hk'⟩
      · rw [at1 hi] at ek
        cases ek
        exact (nr mk b rfl ⟨j, sw, hj', mj, ej⟩).elim
      · rw [at2 k e'] at ek
        exact n.er.ap j k sw sx b hj' hk' mj mk ej ek
  · rcases sl j _ h1 with ⟨rfl, rfl, hi⟩ | ⟨e, hj⟩
    · rw [at1 hi] at h2
      cases h2
      exact .inr ⟨trivial, newOwn a (by intro z; cases z) rfl⟩
    · rw [at2 j e] at h2
      exact n.sub j d a hj h2
  · rcases sl j sw h1 with ⟨rfl, rfl, hi⟩ | ⟨e, hj⟩
    · rw [at1 hi] at h2
      cases h2
      exact .inr ⟨trivial, newOwn a m rfl⟩
    · rw [at2 j e] at h2
      exact n.suR a ⟨j, sw, hj, m, h2⟩
  · obtain ⟨q1, q2⟩ := n.lk j sw z m
    have e : i ≠ j := fun e => by subst e; exact hl sw q1 m
    exact ⟨by rw [slotAt_set, if_neg e]; exact q1, by rw [at2 j e]; exact q2⟩
  · have e : i ≠ j := fun e => by subst e; exact hi q
    obtain ⟨q1, q2⟩ := n.st j q
    exact ⟨by rw [at2 j e]; exact q1, fun sw z m => by
      obtain ⟨sv', z', m'⟩ := q2 sw z m
      exact ⟨sv', by rw [slotAt_set, if_neg e]; exact z', m'⟩⟩
theorem Res.new {K : KW} {v : V} {sv : SV} {a : Addr} (r : Res K H F1 H1 v sv) (hm : sv.md ≠ .frz) (hv : v = .ref a) : H a = none := by
  obtain ⟨m, d⟩ := sv
  cases m with
  | frz => exact absurd rfl hm
  | own => obtain ⟨b, q, _, h, _⟩ := r; rw [hv] at q; cases q; exact h
  | lck => exact r.elim
theorem stR_cases (pn : List Nat) (i : Nat) (sv : SV) (σ : EnvD) : stR pn i sv σ = .bad ∨ (i ∉ pn ∧ (∀ sv', slotAt σ i = some sv' → sv'.md ≠ .lck) ∧ stR pn i sv σ = .ok (σ.set i (some sv))) := by
  unfold stR
  by_cases h : i ∈ pn
  · rw [if_pos h]; exact .inl rfl
  · rw [if_neg h]
    cases hs : slotAt σ i with
    | none => exact .inr ⟨h, (fun sv' z => by cases z), rfl⟩
    | some s =>
      obtain ⟨m, d⟩ := s
      cases m with
      | lck => exact .inl rfl
      | own => exact .inr ⟨h, (fun sv' z => by cases z; intro q; cases q), rfl⟩
      | frz => exact .inr ⟨h, (fun sv' z => by cases z; intro q; cases q), rfl⟩
end

section
variable {C : Str → Option D} {Γ : Str → Option FD} {n : Nat} {X : Cx} {W : WX} {c : CC} {np : Nat} {pn : List Nat}
def SOk (C : Str → Option D) (Γ : Str → Option FD) (n np : Nat) (m : MS) : Prop := ∀ (pn : List Nat) (c : CC) (s : Stmt) (X : Cx) (W : WX), XS X W c C Γ n → (∀ j ∈ pn, j < np) → mtS c m s = true → PS X s (tS X W np pn (evS C (callF C Γ n) np pn m))
theorem isSto_ok (x : XS X W c C Γ n) {i : Nat} {y : Str} (h : isSto c i y = true) : Sto X i y := by
  unfold isSto at h
  simp only [Bool.and_eq_true, decide_eq_true_eq] at h
  refine ⟨by rw [x.N]; exact h.1, ?_, .inl (x.fn y)⟩
  rw [x.sc]
  have h2 := h.2
  split at h2
  · rename_i e; exact .inl e
  · rename_i e; exact .inr e
  · cases h2
def isLcE : Expr → Bool
  | .ListComp .. => true
  | .SetComp .. => true
  | .DictComp .. => true
  | _ => false
theorem sw_no {e : Expr} (h : isLcE e = false) (t : Option Expr) (l : Nat) (env : Env) : swapsWith e t l env = pure false := by
  cases e <;> first | rfl | (cases h)
theorem mt_lc {m : ME} {e : Expr} (h : mt c m e = true) (hl : isLcE e = true) : ∃ own p it cs el elt tg iter ifs scope pos, m = .comp own p it cs el ∧ e = .ListComp elt [⟨tg, iter, ifs, 0⟩] scope pos := by
  cases e <;> first | (cases hl; done) | skip
  all_goals (cases m <;> (unfold mt at h; try (split at h)) <;> first | (cases h; done) | skip)
  all_goals first
    | exact ⟨_, _, _, _, _, _, _, _, _, _, _, rfl, rfl⟩
    | (simp_all; done)

/-! ### small statements -/
theorem step_expr {m : ME} : SOk C Γ n np (.expr m) := fun pn c s X W x _ h => by
  unfold mtS at h
  split at h
  · rename_i e pos
    simp only [Bool.and_eq_true] at h
    have hl : isLcE e = false := by
      have h2 := h.2
      cases e <;> first | rfl | (cases h2)
    refine PSimp (ps_expr (eok m c e X W x.toXC h.1).1 (sw_no hl _ _ _)) fun D σ H q => ?_
    obtain ⟨F, σd, er, po⟩ := q
    refine ⟨F, σd, er, ?_⟩
    rw [evS] at po
    exact PostS.bindE po fun p F1 H1 v e1 n1 r1 po => po F1 H1 σ n1.ns
  · cases h
theorem step_pass : SOk C Γ n np .pass := fun pn c s X W x _ h => by
  unfold mtS at h
  split at h
  · refine PSimp ps_pass fun D σ H q => ?_
    obtain ⟨F, σd, er, po⟩ := q
    rw [evS] at po
    exact po F H σ (Ns.refl er)
  · cases h
theorem step_brk : SOk C Γ n np .brk := fun pn c s X W x _ h => by
  unfold mtS at h
  split at h
  · refine PSimp ps_break fun D σ H q => ?_
    obtain ⟨F, σd, er, po⟩ := q
    rw [evS] at po
    exact po F H σ (Ns.refl er)
  · cases h
theorem step_cont : SOk C Γ n np .cont := fun pn c s X W x _ h => by
  unfold mtS at h
  split at h
  · refine PSimp ps_continue fun D σ H q => ?_
    obtain ⟨F, σd, er, po⟩ := q
    rw [evS] at po
    exact po F H σ (Ns.refl er)
  · cases h
theorem step_ret0 : SOk C Γ n np .ret0 := fun pn c s X W x _ h => by
  unfold mtS at h
  split at h
  · refine PSimp ps_retN fun D σ H q => ?_
    obtain ⟨F, σd, er, po⟩ := q
    rw [evS] at po
    exact po F H σ _ (Ns.refl er) .non
  · cases h
theorem step_raise (y : Str) : SOk C Γ n np (.raise y) := fun pn c s X W x _ h => by
  unfold mtS at h
  split at h
  · rename_i z py m j pm pc pos
    simp only [Bool.and_eq_true, decide_eq_true_eq] at h
    obtain ⟨⟨rfl, h2⟩, h3⟩ := h
    obtain ⟨g1, g2⟩ := isGl_gl x.toXC h2
    obtain ⟨C0, hm, mk⟩ := x.xs y (by simpa using h3) X rfl rfl
    refine PSimp (ps_raise x.calm (x.tk.to x.frm) (mk m j py pm pc g1 g2)) fun D σ H q => ?_
    obtain ⟨F, σd, er, po⟩ := q
    rw [evS] at po
    exact po F H σ C0 (Ns.refl er) hm
  · cases h
/-- what follows a stored value -/
theorem set_post {i : Nat} {m : ME} {σ : L2.St} {H : Hp} {D : Ends} {cf : Str → List SV → RF} (q : tS X W np pn (evS C cf np pn (.set i m)) D σ H) : tAsg (tE X W (evV C cf m)) (gName i) D σ H := by
  obtain ⟨F, σd, er, po⟩ := q
  refine ⟨F, σd, er, ?_⟩
  rw [evS] at po
  refine PostS.bindE po fun p F1 H1 v e1 n1 r1 po => ?_
  rcases stR_cases pn i p.1 p.2 with e | ⟨h1, h2, e⟩
  · rw [e] at po; exact po.elim
  · rw [e, R.bind_ok] at po
    refine po F1 H1 _ (n1.ns.store h1 h2 r1 fun hm a ea z => ?_)
    exact er.ref_there (n1.suR a z) (r1.new hm ea)
end
end RH
set_option maxRecDepth 100000
set_option maxHeartbeats 4000000
/-! Statements, part 2: stores. -/
namespace RH
open PySem PySem.Spec L2

section
variable {C : Str → Option D} {Γ : Str → Option FD} {n : Nat} {X : Cx} {W : WX} {c : CC} {np : Nat} {pn : List Nat} {cf : Str → List SV → RF}
theorem step_set (i : Nat) {m : ME} : SOk C Γ n np (.set i m) := fun pn c s X W x _ h => by
  unfold mtS at h
  split at h
  · rename_i y py e pos
    simp only [Bool.and_eq_true] at h
    obtain ⟨s1, s2, s3⟩ := isSto_ok x h.1
    have hN : X.N.Nodup := by rw [x.N]; exact x.nd
    have he := (eok m c e X W x.toXC h.2).1
    by_cases hl : isLcE e = true
    · obtain ⟨own, p, it, cs, el, elt, tg, iter, ifs, scope, lp, rfl, rfl⟩ := mt_lc h.2 hl
      cases hB : (X.env.blockKind == .function && X.env.kindOf y == some .local && py.line == lp.line && !(scope.names.any fun (n, k) => n == y && (k == .local || k == .cell))) with
      | false => exact PSimp (ps_set hN s1 s2 he (by show (pure _ : Sem Bool) = _; exact congrArg pure hB) s3) fun D σ H q => set_post q
      | true =>
        have h2 := h.2
        unfold mt at h2
        simp only [Bool.and_eq_true, decide_eq_true_eq] at h2
        obtain ⟨⟨⟨⟨⟨⟨⟨⟨h1, h2⟩, h3⟩, h4⟩, h5⟩, h6⟩, h7⟩, h8⟩, h9⟩ := h2
        have hp : ∀ i ∈ pat p, i ∈ own := fun i hi => by simpa using List.all_eq_true.mp h6 i hi
        have bo : BlkOk X.N X.env.scope scope (ownOf c.N own) := by rw [x.N, x.sc]; exact blkOk_by h3
        obtain ⟨i1, i2⟩ := iok it c iter tg X W x.toXC h1 h2
        have hyl : X.env.scope.names.lookup y = some .local := by
          simp only [Bool.and_eq_true] at hB
          exact beq_iff_eq.mp hB.1.1.2
        refine PSimp (ps_setLcX (own := ownOf c.N own) (g := tG X.kw p) (tt := fun σ => tT X (Wb W σ) (evT C (callF C Γ n) cs)) (te := fun σ => tE X (Wb W σ) (evV C (callF C Γ n) el)) x.tk x.fr x.calm hN s1 hyl (by show (pure _ : Sem Bool) = _; exact congrArg pure hB) i1 bo (fun σ s H A cl fp tk => ?_) (fun σ s H A cl fp tk => ?_) (fun σ s H A cl fp tk => ?_) (i2 X.env)) fun D σ H q => by rw [h4]; exact tE_comp hp (set_post q)
        · have xb := x.toXC.blk bo.kind s H A cl fp tk
          refine (TgP.run (X := blkX X s H scope (compEnvC scope cl A X.env) fp) (by show X.N.Nodup; exact hN) x.calm (tgP_of (fun i y z => ?_) p tg h5)).1
          unfold isLoc at z
          simp only [Bool.and_eq_true, decide_eq_true_eq] at z
          have zl : (blkX X s H scope (compEnvC scope cl A X.env) fp).env.scope.names.lookup y = some .local := by
            rw [xb.sc]
            have z2 := z.2
            split at z2
            · assumption
            · cases z2
          exact ⟨by rw [xb.N]; exact z.1, .inl zl, .inr zl⟩
        · exact pts_of (x.toXC.blk bo.kind s H A cl fp tk) (aok cs) h7 h8
        · exact (eok el _ elt _ _ (x.toXC.blk bo.kind s H A cl fp tk) h9).1
    · exact PSimp (ps_set hN s1 s2 he (sw_no (by simpa using hl) _ _ _) s3) fun D σ H q => set_post q
  · cases h

mutual
theorem tgQ_of {X : Cx} (h : ∀ i y, isSto c i y = true → Sto X i y) : ∀ (p : MP) (e : Expr), mtQ c p e = true → TgP X p e
  | .name i, e, z => by
    cases e <;> first | (simp [mtQ] at z; done) | skip
    exact .name (h _ _ z)
  | .tup ps, e, z => by
    cases e <;> first | (simp [mtQ] at z; done) | skip
    exact tgQs_of h ps _ _ _ z
theorem tgQs_of {X : Cx} (h : ∀ i y, isSto c i y = true → Sto X i y) : ∀ (ps : List MP) (es : List Expr) (k : Nat) (pos : Pos), mtQs c ps es = true → TgP X (.tup ps) (.Tuple es k pos)
  | [], [], k, pos, z => .tup0
  | [], e :: es, k, pos, z => by simp [mtQs] at z
  | p :: ps, [], k, pos, z => by simp [mtQs] at z
  | p :: ps, e :: es, k, pos, z => by
    have z : (mtQ c p e && mtQs c ps es) = true := z
    simp only [Bool.and_eq_true] at z
    exact .tup (tgQ_of h p e z.1) (tgQs_of h ps es k pos z.2)
end
theorem free_ok {σ : EnvD} {i : Nat} (h : free pn σ i = true) : i ∉ pn ∧ ∀ sv, slotAt σ i = some sv → sv.md ≠ .lck := by
  unfold free at h
  simp only [Bool.and_eq_true, Bool.not_eq_true'] at h
  refine ⟨by simpa using h.1, fun sv z m => ?_⟩
  obtain ⟨md, d⟩ := sv
  cases m
  have := h.2
  rw [z] at this
  cases this
theorem bindC_ok {p : MP} {d : D} {σ σ' : EnvD} (h : bindC pn p d σ = some σ') : bindP p d σ = some σ' ∧ ∀ i ∈ pat p, i ∉ pn ∧ ∀ sv, slotAt σ i = some sv → sv.md ≠ .lck := by
  unfold bindC at h
  obtain ⟨h1, h2⟩ := ite_none h
  exact ⟨h2, fun i hi => free_ok (List.all_eq_true.mp h1 i hi)⟩
/-- a target with its stores, as far as statements tell -/
theorem bd_post {K : KW} {F F1 : Addr → Prop} {H H1 : Hp} {σd σd1 σd2 : EnvD} {σ σ1 σ2 : L2.St} {p : MP} (ns : Ns K True (· ∈ pn) F H σd σ F1 H1 σd1 σ1) (er : ER K F1 H1 σd2 σ2) (b : Bd (pat p) σd1 σ1 σd2 σ2)
    (h : ∀ i ∈ pat p, i ∉ pn ∧ ∀ sv, slotAt σd1 i = some sv → sv.md ≠ .lck) : Ns K True (· ∈ pn) F H σd σ F1 H1 σd2 σ2 := ns.trans (b.ns er (fun i hi => (h i hi).2) fun i hi => (h i hi).1)
theorem step_setp (p : MP) {m : ME} : SOk C Γ n np (.setp p m) := fun pn c s X W x _ h => by
  unfold mtS at h
  split at h
  · rename_i es k tpos e pos
    simp only [Bool.and_eq_true] at h
    obtain ⟨⟨⟨h1, h2⟩, h3⟩, h4⟩ := h
    cases p with
    | name i => cases h1
    | tup ps =>
      have hN : X.N.Nodup := by rw [x.N]; exact x.nd
      have tg := tgQ_of (X := X) (fun i y z => isSto_ok x z) _ _ h2
      obtain ⟨g1, g2⟩ := tg.run hN x.calm
      obtain ⟨q1, q2, q3⟩ := g2 ps es k tpos rfl rfl
      have gl := pg_unl (k := k) (pos := tpos) x.calm q1 rfl q3
      have gu : PG X (.Tuple es k tpos) (fun v σ H Q => tG X.kw (.tup ps) v σ H Q ∨ gUnl X.kw (assignEach es X.env).length (tGs X.kw ps) v σ H Q) := ⟨fun pins s σ H v u Q I r q => q.elim (g1.run pins s σ H v u Q I r) (gl.run pins s σ H v u Q I r)⟩
      refine PSimp (ps_asg (eok m c e X W x.toXC h3).1 gu (by cases e <;> rfl) (by cases e <;> first | rfl | (cases h4))) fun D σ H q => ?_
      obtain ⟨F, σd, er, po⟩ := q
      refine ⟨F, σd, er, ?_⟩
      rw [evS] at po
      refine PostS.bindE po fun q F1 H1 v e1 n1 r1 po => ?_
      obtain ⟨F2, n2, rp, _⟩ := n1.fr er r1
      split at po
      · rename_i ps' ds ep ed
        cases ep
        cases e2 : bindC pn (.tup ps) (.tuple ds) q.2 with
        | none => rw [e2] at po; exact po.elim
        | some σ' =>
          rw [e2, ofOpt_some, R.bind_ok] at po
          obtain ⟨b1, b2⟩ := bindC_ok e2
          rw [ed] at rp
          obtain ⟨a, vs, rfl, rd, rs⟩ := (Rt.rp rp).lst
          have hl : ds.length = ps.length := by
            have : ∀ (ps : List MP) (ds : List RH.D) (s : EnvD), (bindPs ps ds s).isSome = true → ds.length = ps.length := by
              intro ps
              induction ps with
              | nil => intro ds s h; cases ds with
                | nil => rfl
                | cons a b => cases h
              | cons a b ih => intro ds s h; cases ds with
                | nil => cases h
                | cons d ds =>
                  rw [bindPs] at h
                  cases q : bindP a d s with
                  | none => rw [q] at h; cases h
                  | some s' => rw [q] at h; exact congrArg (· + 1) (ih ds s' h)
            have b1' : bindPs ps ds q.2 = some σ' := b1
            exact this ps ds q.2 (by rw [b1']; rfl)
          refine .inr ⟨a, vs, rfl, .inl rd, by rw [rs.length, hl, q2], F2, q.2, ds, σ', n2.er, rs, b1, fun σ'' er'' bd => ?_⟩
          exact po F2 H1 σ'' (bd_post (p := .tup ps) n2.ns er'' bd b2)
      · cases e2 : bindC pn (.tup ps) q.1.d q.2 with
        | none => rw [e2] at po; exact po.elim
        | some σ' =>
          rw [e2, ofOpt_some, R.bind_ok] at po
          obtain ⟨b1, b2⟩ := bindC_ok e2
          refine .inl ⟨F2, q.2, q.1.d, σ', n2.er, rp, b1, fun σ'' er'' bd => ?_⟩
          exact po F2 H1 σ'' (bd_post n2.ns er'' bd b2)
  · cases h

/-! ### name op= e -/
theorem step_aug (i : Nat) (o : Op) {m : ME} : SOk C Γ n np (.aug i o m) := fun pn c s X W x _ h => by
  unfold mtS at h
  split at h
  · rename_i y py op e pos
    simp only [Bool.and_eq_true] at h
    obtain ⟨⟨h1, h2⟩, h3⟩ := h
    obtain ⟨s1, s2, s3⟩ := isSto_ok x h1
    have hN : X.N.Nodup := by rw [x.N]; exact x.nd
    have he := (eok m c e X W x.toXC h3).1
    have ho : PIp X op (ipI (augI o)) := by
      split at h2
      · exact ip_add
      · exact ip_sub
      · cases h2
    refine PSimp (ps_aug hN s1 s2 he ho s3) fun D σ H q => ?_
    obtain ⟨F, σd, er, po⟩ := q
    rw [evS] at po
    split at po
    · rename_i a hs
      obtain ⟨v, q, s⟩ := er.at_ i _ hs
      have ev : v = .int a := by cases s; rfl
      subst ev
      refine ⟨_, q, F, σd, er, ?_⟩
      refine PostS.bindE po fun p F1 H1 w e1 n1 r1 po => ?_
      cases e2 : asI p.1 with
      | none => rw [e2] at po; exact po.elim
      | some b =>
        rw [e2, ofOpt_some, R.bind_ok] at po
        have ei : p.1.d = .int b := by
          unfold asI at e2
          split at e2
          · rename_i j e; cases e2; exact e
          · cases e2
        have rt := r1.rt
        rw [ei] at rt
        refine ⟨a, b, rfl, rt.int, ?_⟩
        rcases stR_cases pn i (fz (.int (augI o a b))) p.2 with e | ⟨g1, g2, e⟩
        · rw [e] at po; exact po.elim
        · rw [e, R.bind_ok] at po
          exact po F1 H1 _ (n1.ns.store (sv := fz _) g1 g2 (.int _) fun hm => absurd rfl hm)
    · exact po.elim
  · cases h

/-! ### x[k] = e -/
def rSetN (X : Cx) : TSet := fun o i v H Q => ∃ (a : Addr) (F : Addr → Prop) (d : D) (k : NestedKey) (L : List (NestedKey × Addr × V)), o = .ref a ∧ (H a = some (DN X.w a L) ∨ (L = [] ∧ H a = some (.dK []))) ∧ KeysAt X.kw F H L ∧ Rp X.kw F H i d ∧ tk? d = some k ∧ L.length < sizeLine ∧
  ∀ b, i = .ref b → Q (upd H a (DN X.w a (nPut L k b v)))
theorem set_dn (hu : X.A.units + 64 < cLine) : PSet X (rSetN X) := by
  intro pins s σ H o i v ov iv u Q I ro ri rv h
  obtain ⟨a, F, d, k, L, rfl, e, ka, rk, tk, few, q⟩ := h
  cases (show ov = Value.ref a from ro)
  obtain ⟨b, rfl, rfl, ki⟩ := key_is I tk rk ri
  exact dn_set (by omega) I e ka ki rv few fun s' I' => ⟨_, I', q b rfl⟩
theorem putD_ex {kvs : List (D × D)} {k v d' : D} (h : putD (.dict kvs) k v = some d') : (∃ kk, key? k = some kk ∧ allK kvs = true ∧ kvs.length < sizeLine ∧ d' = .dict (dPut kvs kk v)) ∨ ∃ kk, tk? k = some kk ∧ allT kvs = true ∧ kvs.length < sizeLine ∧ d' = .dict (tPut kvs k kk v) := by
  have h : (if kvs.length < sizeLine then (match key? k with
    | some kk => if allK kvs then some (PyData.dict (dPut kvs kk v)) else none
    | none => (tk? k).bind fun kk => if allT kvs then some (PyData.dict (tPut kvs k kk v)) else none) else none) = some d' := h
  obtain ⟨h1, h2⟩ := ite_none h
  split at h2
  · rename_i kk e
    obtain ⟨h3, h4⟩ := ite_none h2
    cases h4
    exact .inl ⟨kk, e, h3, h1, rfl⟩
  · obtain ⟨kk, e1, e2⟩ := Option.bind_eq_some_iff.mp h2
    obtain ⟨h3, h4⟩ := ite_none e2
    cases h4
    exact .inr ⟨kk, e1, h3, h1, rfl⟩
theorem step_putS (i : Nat) {l hh m : ME} : SOk C Γ n np (.putS i l hh m) := fun pn c s X W x _ h => by
  unfold mtS at h
  split at h
  · rename_i o lo hi sp opos e pos
    simp only [Bool.and_eq_true] at h
    obtain ⟨⟨⟨h1, h2⟩, h3⟩, h4⟩ := h
    obtain ⟨y, pp, rfl, hsl⟩ := isSlotE_ok h1
    obtain ⟨v1, v2, v3, v4⟩ := isSlot_vis x.toXC hsl
    have pv := pe_var (pos := pp) v1 v2 v3 v4
    refine PSimp (ps_asg (eok m c e X W x.toXC h4).1 (pg_cut pv (po_some (eok l c lo X W x.toXC h2).1) (po_some (eok hh c hi X W x.toXC h3).1)) (by cases e <;> rfl) (by cases e <;> rfl)) fun D σ H q => ?_
    obtain ⟨F, σd, er, po⟩ := q
    refine ⟨F, σd, er, ?_⟩
    rw [evS] at po
    by_cases ho : isOwn (slotAt σd i) = true
    case neg => rw [if_neg ho] at po; exact po.elim
    rw [if_pos ho] at po
    obtain ⟨v0, hq0⟩ : ∃ v0, σ[i]? = some (some v0) := by
      cases hs : slotAt σd i with
      | none => rw [hs] at ho; cases ho
      | some sv => obtain ⟨v, q, _⟩ := er.at_ i sv hs; exact ⟨v, q⟩
    refine PostS.bindE po fun p F1 H1 v e1 n1 r1 po => ?_
    obtain ⟨F2, n2, rp, _⟩ := n1.fr er r1
    have po := po.on (n2.ns (pn := (· ∈ pn)))
    refine ⟨v0, hq0, F2, p.2, n2.er, PostS.bindE po fun q F3 H3 u3 e3 n3 r3 po => ?_⟩
    cases ea : asI q.1 with
    | none => rw [ea] at po; exact po.elim
    | some a =>
    rw [ea, ofOpt_some, R.bind_ok] at po
    have qa : q.1.d = .int a := by
      obtain ⟨⟨md, dd⟩, _⟩ := q
      cases dd <;> first | (cases ea; done) | (cases ea; rfl)
    have ra := r3.rt
    rw [qa] at ra
    cases ra.int
    refine ⟨a, rfl, ?_⟩
    have po := po.on (n3.ns (pn := (· ∈ pn)))
    refine ⟨F3, q.2, n3.er, PostS.bindE po fun r F4 H4 u4 e4 n4 r4 po => ?_⟩
    cases eb : asI r.1 with
    | none => rw [eb] at po; exact po.elim
    | some b =>
    rw [eb, ofOpt_some, R.bind_ok] at po
    have qb : r.1.d = .int b := by
      obtain ⟨⟨md, dd⟩, _⟩ := r
      cases dd <;> first | (cases eb; done) | (cases eb; rfl)
    have rb := r4.rt
    rw [qb] at rb
    cases rb.int
    refine ⟨b, rfl, ?_⟩
    cases hs : slotAt r.2 i with
    | none => rw [hs] at po; exact po.elim
    | some sv =>
      obtain ⟨md, d⟩ := sv
      cases md with
      | frz => rw [hs] at po; exact po.elim
      | lck => rw [hs] at po; exact po.elim
      | own =>
        rw [hs] at po
        dsimp only at po
        cases e2 : putSD d a b p.1.d with
        | none => rw [e2] at po; exact po.elim
        | some d' =>
          rw [e2, ofOpt_some, R.bind_ok] at po
          obtain ⟨u, qu, l0, rfl, nf, ct⟩ := n4.er.at_ i _ hs
          rw [hq0] at qu
          cases qu
          have rp4 := Rp.mono (n4.le.pr n3.er.bk) _ _ (Rp.mono (n3.le.pr n2.er.bk) _ _ rp)
          cases ct with
          | @lst ws ds g rk =>
            have pr : ∀ o, Pr F4 H4 F4 (upd H4 l0 o) := fun o => prW nf ⟨_, g, trivial⟩
            cases ek : p.1.d <;> rw [ek] at e2 rp4 <;> first | (cases e2; done) | skip
            rename_i ys
            have e2' : (if 0 ≤ a ∧ a ≤ b ∧ ds.length + ys.length ≤ sizeLine then some (PyData.list (ds.take a.toNat ++ ys ++ ds.drop b.toNat)) else none) = some d' := e2
            obtain ⟨⟨c1, c2, c3⟩, e5⟩ := ite_none e2'
            cases e5
            cases rp4 with
            | @lst b0 vs _ fb rdb rys =>
              have ne : l0 ≠ b0 := fun z => nf (z ▸ fb)
              refine ⟨l0, b0, ws, vs, a, b, rfl, rfl, rfl, rfl, g, rdb, ne, c1, c2, by rw [rk.length, rys.length]; exact c3, ?_⟩
              exact po F4 _ σ (n4.ns.nx (Nx.write n4.er hs hq0 (.lst upd_same (Rps.mono (pr _) _ _ (((rk.take _).append rys).append (rk.drop _))))))
          | @dct kvs ds g rk => cases e2
          | @dcn L ds g n rk => cases e2
  · cases h
theorem step_put (i : Nat) {k m : ME} : SOk C Γ n np (.put i k m) := fun pn c s X W x _ h => by
  unfold mtS at h
  split at h
  · rename_i o q opos e pos
    simp only [Bool.and_eq_true] at h
    obtain ⟨⟨⟨h1, h2⟩, h3⟩, h4⟩ := h
    obtain ⟨y, pp, rfl, hsl⟩ := isSlotE_ok h1
    obtain ⟨v1, v2, v3, v4⟩ := isSlot_vis x.toXC hsl
    have pv := pe_var (pos := pp) v1 v2 v3 v4
    have ps : PSet X (fun o i v H Q => rSetL o i v H Q ∨ rSetD o i v H Q ∨ rSetN X o i v H Q) := fun pins s σ H o i v ov iv u Q I ro ri rv q => q.elim (set_list pins s σ H o i v ov iv u Q I ro ri rv) fun q => q.elim (set_dict (hu_of x.room) pins s σ H o i v ov iv u Q I ro ri rv) (set_dn x.room.units pins s σ H o i v ov iv u Q I ro ri rv)
    have ha : ∀ v, assign (.Subscript (.Name y pp) q opos) X.env v = (do
      let ov ← holding [v] (eval (.Name y pp) X.env)
      let iv ← holding [v, ov] (eval q X.env)
      standAt opos
      holding [v, ov, iv] (setItem ov iv v)
      release [v, ov, iv] []) := fun v => by cases q <;> first | rfl | (cases h4)
    refine PSimp (ps_asg (eok m c e X W x.toXC h3).1 (pg_sub pv (eok k c q X W x.toXC h2).1 ps ha) (by cases e <;> rfl) (by cases e <;> rfl)) fun D σ H q => ?_
    obtain ⟨F, σd, er, po⟩ := q
    refine ⟨F, σd, er, ?_⟩
    rw [evS] at po
    by_cases ho : isOwn (slotAt σd i) = true
    case neg => rw [if_neg ho] at po; exact po.elim
    rw [if_pos ho] at po
    obtain ⟨v0, hq0⟩ : ∃ v0, σ[i]? = some (some v0) := by
      cases hs : slotAt σd i with
      | none => rw [hs] at ho; cases ho
      | some sv => obtain ⟨v, q, _⟩ := er.at_ i sv hs; exact ⟨v, q⟩
    refine PostS.bindE po fun p F1 H1 v e1 n1 r1 po => ?_
    obtain ⟨F2, n2, rp, _⟩ := n1.fr er r1
    have fin : ∀ (p2 : SV × EnvD) (F3 : Addr → Prop) (H3 : Hp) (w : V), Nx X.kw F2 H1 p.2 σ F3 H3 p2.2 → Res X.kw H1 F3 H3 w p2.1 → PostS X W np pn F2 H1 p.2 σ (match slotAt p2.2 i with
        | some ⟨.own, d⟩ => (ofOpt (putD d p2.1.d p.1.d)).bind fun d' => R.ok (Fl.nx (p2.2.set i (some (ow d'))))
        | _ => .bad) D → ∃ a, σ[i]? = some (some (.ref a)) ∧ (rSetL (.ref a) w v H3 (fun H4 => D.nx σ H4) ∨ rSetD (.ref a) w v H3 (fun H4 => D.nx σ H4) ∨ rSetN X (.ref a) w v H3 (fun H4 => D.nx σ H4)) := fun p2 F3 H3 w n3 r3 po => by
      cases hs : slotAt p2.2 i with
      | none => rw [hs] at po; exact po.elim
      | some sv =>
        obtain ⟨md, d⟩ := sv
        cases md with
        | frz => rw [hs] at po; exact po.elim
        | lck => rw [hs] at po; exact po.elim
        | own =>
          rw [hs] at po
          dsimp only at po
          cases e2 : putD d p2.1.d p.1.d with
          | none => rw [e2] at po; exact po.elim
          | some d' =>
            rw [e2, ofOpt_some, R.bind_ok] at po
            obtain ⟨u, qu, a, rfl, nf, ct⟩ := n3.er.at_ i _ hs
            refine ⟨a, qu, ?_⟩
            have rp3 := Rp.mono (n3.le.pr n2.er.bk) _ _ rp
            cases ct with
            | @lst ws ds g rk =>
              have pr : ∀ o, Pr F3 H3 F3 (upd H3 a o) := fun o => prW nf ⟨_, g, trivial⟩
              cases ek : p2.1.d <;> rw [ek] at e2 <;> first | (cases e2; done) | skip
              rename_i j
              obtain ⟨jj, e3, e4⟩ := Option.map_eq_some_iff.mp e2
              subst e4
              have rt := r3.rt
              rw [ek] at rt
              cases rt.int
              refine .inl ⟨a, ws, j, jj, rfl, rfl, g, by rw [rk.length]; exact e3, ?_⟩
              exact po F3 _ σ (n3.ns.nx (Nx.write n3.er hs qu (.lst upd_same (Rps.mono (pr _) _ _ (Rps.set rp3 jj rk)))))
            | @dct kvs ds g rk =>
              have pr : ∀ o, Pr F3 H3 F3 (upd H3 a o) := fun o => prW nf ⟨_, g, trivial⟩
              rcases putD_ex e2 with ⟨kk, k1, k2, k3, rfl⟩ | ⟨kk, k1, k2, k3, rfl⟩
              · have ew : w = kV kk := key_val r3.rt k1
                subst ew
                refine .inr (.inl ⟨a, _, rfl, DPut.k g (by rw [RpK.length rk]; exact k3), ?_⟩)
                exact po F3 _ σ (n3.ns.nx (Nx.write n3.er hs qu (.dct upd_same (RpK.mono (pr _) _ _ (rk.put rp3)))))
              · obtain ⟨rfl, rfl⟩ := rk.notT k2
                have rw3 := r3.rt.tk k1
                refine .inr (.inr ⟨a, F3, p2.1.d, kk, [], rfl, .inr ⟨rfl, g⟩, (fun _ z => nomatch z), rw3, k1, by rw [sizeLine_eq]; decide, fun b eb => ?_⟩)
                subst eb
                exact po F3 _ σ (n3.ns.nx (Nx.write n3.er hs qu (.dcn upd_same nPut_ne (RpN.mono (pr _) _ _ (RpN.put k1 rw3 rp3 .nil)))))
            | @dcn L ds g nn rk =>
              have pr : ∀ o, Pr F3 H3 F3 (upd H3 a o) := fun o => prW nf ⟨_, g, trivial⟩
              rcases putD_ex e2 with ⟨kk, k1, k2, k3, rfl⟩ | ⟨kk, k1, k2, k3, rfl⟩
              · rw [rk.notK nn] at k2; cases k2
              · have rw3 := r3.rt.tk k1
                refine .inr (.inr ⟨a, F3, p2.1.d, kk, L, rfl, .inl g, rk.keys, rw3, k1, by rw [rk.length]; exact k3, fun b eb => ?_⟩)
                subst eb
                exact po F3 _ σ (n3.ns.nx (Nx.write n3.er hs qu (.dcn upd_same nPut_ne (RpN.mono (pr _) _ _ (RpN.put k1 rw3 rp3 rk)))))
    have po := po.on (n2.ns (pn := (· ∈ pn)))
    refine ⟨v0, hq0, F2, p.2, n2.er, PostS.bindE po fun p2 F3 H3 w e3 n3 r3 po => ?_⟩
    obtain ⟨a, g1, g2⟩ := fin p2 F3 H3 w n3 r3 po
    rw [hq0] at g1
    cases g1
    exact g2
  · cases h
end
end RH
set_option maxRecDepth 100000
set_option maxHeartbeats 4000000
/-! Statements, part 3: return, parallel stores, if, while, for, blocks; all statements. -/
namespace RH
open PySem PySem.Spec L2

section
variable {C : Str → Option D} {Γ : Str → Option FD} {n : Nat} {X : Cx} {W : WX} {c : CC} {np : Nat} {pn : List Nat} {cf : Str → List SV → RF}
theorem Res.ret {K : KW} {F F1 : Addr → Prop} {H H1 : Hp} {σd : EnvD} {σ : L2.St} {v : V} {sv : SV} (r : Res K H F1 H1 v sv) : RetV K np H σd σ F1 H1 v sv := by
  obtain ⟨m, d⟩ := sv
  cases m with
  | frz => exact r
  | lck => exact r
  | own => obtain ⟨a, q, nf, h, ct⟩ := r; exact ⟨a, q, nf, .inl h, ct⟩
theorem step_ret {m : ME} : SOk C Γ n np (.ret m) := fun pn c s X W x _ h => by
  unfold mtS at h
  split at h
  · rename_i e pos
    cases hv : isVar m with
    | none =>
      refine PSimp (ps_ret (eok m c e X W x.toXC h).1) fun D σ H q => ?_
      obtain ⟨F, σd, er, po⟩ := q
      refine ⟨F, σd, er, ?_⟩
      rw [evS, hv] at po
      exact PostS.bindE po fun p F1 H1 v e1 n1 r1 po => po F1 H1 σ v n1.ns (Res.ret (F := F) r1)
    | some i =>
      obtain ⟨y, p, rfl, hs, rfl⟩ := mt_isVar h hv
      obtain ⟨h1, h2, h3, h4⟩ := isSlot_vis x.toXC hs
      refine PSimp (ps_ret (pe_var h1 h2 h3 h4)) fun D σ H q => ?_
      obtain ⟨F, σd, er, po⟩ := q
      rw [evS] at po
      have gen : PostS X W np pn F H σd σ ((rdV i σd).bind fun p => R.ok (Fl.rt p.1 p.2)) D → tVar i σ H D.rt := fun po => rdV_post (W := W) er (PostS.bindE po fun p F1 H1 v e1 n1 r1 po => po F1 H1 σ v n1.ns (Res.ret (F := F) r1))
      change PostS X W np pn F H σd σ (match slotAt σd i with
        | some ⟨.own, d⟩ => if np ≤ i then .ok (.rt (ow d) σd) else (rdV i σd).bind fun p => .ok (.rt p.1 p.2)
        | _ => (rdV i σd).bind fun p => .ok (.rt p.1 p.2)) D at po
      cases hsl : slotAt σd i with
      | none => rw [hsl] at po; exact gen po
      | some sv =>
        obtain ⟨md, d⟩ := sv
        cases md with
        | frz => rw [hsl] at po; exact gen po
        | lck => rw [hsl] at po; exact gen po
        | own =>
          rw [hsl] at po
          dsimp only at po
          by_cases hi : np ≤ i
          · rw [if_pos hi] at po
            obtain ⟨v, q, a, rfl, nf, ct⟩ := er.at_ i _ hsl
            exact ⟨_, q, po F H σ _ (Ns.refl er) ⟨a, rfl, nf, .inr ⟨i, d, hi, hsl, q⟩, ct⟩⟩
          · rw [if_neg hi] at po; exact gen po
  · cases h

/-! ### a, b, .. = x, y, .. -/
def setsV (σ : L2.St) : List Nat → List V → L2.St
  | i :: is, v :: vs => setsV (σ.set i (some v)) is vs
  | _, _ => σ
def evSo (C : Str → Option RH.D) (cf : Str → List SV → RF) (es : MEs) (σ : EnvD) : R (List Opd × EnvD) := (evSs C cf es σ).bind fun p => .ok (p.1.map Opd.val, p.2)
theorem tSs_nil {σ : L2.St} {H : Hp} {Q : List V → Hp → Prop} (h : tAs X W (evSo C cf .nil) σ H Q) : Q [] H := by
  obtain ⟨F, σd, er, h⟩ := h
  exact h F H [] (Nx.refl er) .nil
theorem tSs_cons {a : ME} {es : MEs} {σ : L2.St} {H : Hp} {Q : List V → Hp → Prop} (h : tAs X W (evSo C cf (.cons a es)) σ H Q) :
    tE X W (evV C cf a) σ H fun x H1 => tAs X W (evSo C cf es) σ H1 fun xs H2 => Q (x :: xs) H2 := by
  obtain ⟨F, σd, er, h⟩ := h
  refine ⟨F, σd, er, ?_⟩
  unfold evSo at h ⊢
  rw [evSs] at h
  cases e1 : evV C cf a σd with
  | bad => rw [e1] at h; exact h
  | exc c s => rw [e1] at h; exact h
  | ok p =>
    rw [e1, R.bind_ok] at h
    intro F1 H1 v n1 r1
    refine ⟨F1, p.2, n1.er, ?_⟩
    dsimp only
    cases e2 : evSs C cf es p.2 with
    | bad => rw [e2] at h; exact h
    | exc c s =>
      rw [e2] at h
      exact fun F' H' Ca n2 g => h F' H' Ca (n1.trans n2) g
    | ok q =>
      rw [e2, R.bind_ok] at h
      intro F2 H2 vs n2 r2
      refine h F2 H2 (v :: vs) (n1.trans n2) (.cons (r1.keep (fun a z => er.own_there (n1.subA a z)) n2 n1.er) (r2.old n1.le) fun ht k w o' hk ho ht' e => ?_)
      have g := r2.get hk ho
      cases o' with
      | slot i => cases ht'
      | val sw =>
        obtain ⟨⟨m, d⟩, s2⟩ := p
        obtain ⟨m', d'⟩ := sw
        cases m <;> first | cases ht | skip
        cases m' <;> first | cases ht' | skip
        obtain ⟨b, rfl, _, _, ct⟩ := r1
        obtain ⟨b', rfl, _, z, _⟩ := g
        cases e
        obtain ⟨ob, q1, _, _⟩ := ct.ex
        rw [q1] at z; cases z
theorem pa_Ss (x : XC X W c C Γ n) : ∀ {ms : MEs} {es : List Expr}, mts c ms es = true → PA X es (tAs X W (evSo C (callF C Γ n) ms))
  | .nil, es, h => by
    rw [mts_nil h]
    exact PAimp pa_nil fun σ H Q q => tSs_nil q
  | .cons m ms, es, h => by
    obtain ⟨a, r, rfl, h1, h2, h3⟩ := mts_cons h
    exact PAimp (pa_cons (eok m c a X W x h1).1 (pa_Ss x h3) (star_cons h2)) fun σ H Q q => tSs_cons q
theorem stores {F F1 : Addr → Prop} {H H1 : Hp} {σd σx : EnvD} {σ σy : L2.St} : ∀ (is : List Nat) (svs : List SV) (vs : List V) (σd1 : EnvD) (σ1 : L2.St) (σd2 : EnvD), Ns X.kw True (· ∈ pn) F H σd σ F1 H1 σd1 σ1 → Opds X.kw H F1 H1 σx σy vs (svs.map Opd.val) →
    (∀ (k : Nat) (v : V) (sv : SV), vs[k]? = some v → svs[k]? = some sv → sv.md ≠ .frz → ∀ a, v = .ref a → ¬ RefA σd1 σ1 a) → stRs pn is svs σd1 = .ok σd2 → vs.length = is.length ∧ Ns X.kw True (· ∈ pn) F H σd σ F1 H1 σd2 (setsV σ1 is vs)
  | [], [], vs, σd1, σ1, σd2, ns, r, nr, e => by
    cases r
    cases e
    exact ⟨rfl, ns⟩
  | [], s :: svs, vs, σd1, σ1, σd2, ns, r, nr, e => by cases e
  | i :: is, [], vs, σd1, σ1, σd2, ns, r, nr, e => by cases e
  | i :: is, s :: svs, vs, σd1, σ1, σd2, ns, r, nr, e => by
    cases r with
    | @cons v _ vs _ a b d =>
      have e' : (stR pn i s σd1).bind (stRs pn is svs) = .ok σd2 := e
      rcases stR_cases pn i s σd1 with z | ⟨h1, h2, z⟩
      · rw [z] at e'; cases e'
      · rw [z, R.bind_ok] at e'
        have r1 : Res X.kw H F1 H1 v s := a
        have n2 := ns.store h1 h2 r1 fun hm a ea => nr 0 v s rfl rfl hm a ea
        obtain ⟨g1, g2⟩ := stores is svs vs _ _ σd2 n2 b (fun k w sw hk hs hm a ea z => by
          subst ea
          obtain ⟨j, sx, q1, q2, q3⟩ := z
          rw [slotAt_set] at q1
          by_cases ij : i = j
          · subst ij
            rw [if_pos rfl] at q1
            by_cases hi : i < σd1.length
            · rw [if_pos hi] at q1
              cases q1
              rw [List.getElem?_set_self (by rw [← ns.er.len]; exact hi)] at q3
              cases q3
              have t1 : isTmp (.val s) = true := by
                obtain ⟨m, dd⟩ := s
                cases m with
                | frz => exact absurd rfl q2
                | own => rfl
                | lck => exact r1.elim
              have t2 : isTmp (.val sw) = true := by
                have gw := b.get hk (show (svs.map Opd.val)[k]? = some (.val sw) by rw [List.getElem?_map, hs]; rfl)
                obtain ⟨m, dd⟩ := sw
                cases m with
                | frz => exact absurd rfl hm
                | own => rfl
                | lck => exact gw.elim
              exact d t1 k _ (.val sw) hk (by rw [List.getElem?_map, hs]; rfl) t2 rfl
            · rw [if_neg hi] at q1; cases q1
          · rw [if_neg ij] at q1
            rw [List.getElem?_set_ne ij] at q3
            exact nr (k + 1) _ sw (by simpa using hk) (by simpa using hs) hm a rfl ⟨j, sx, q1, q2, q3⟩) e'
        exact ⟨congrArg (· + 1) g1, g2⟩
def tPN (is : List Nat) (ta : TA) : TS := fun D σ H => ta σ H fun vs H1 => vs.length = is.length ∧ D.nx (setsV σ is vs) H1 ∧ ∀ p, H1 p = none → D.nx (setsV σ is vs) (upd H1 p (.tup vs))
theorem par_post {is : List Nat} {es : MEs} {σ : L2.St} {H : Hp} {D : Ends} (q : tS X W np pn (evS C cf np pn (.par is es)) D σ H) : tPN is (tAs X W (evSo C cf es)) D σ H := by
  obtain ⟨F, σd, er, po⟩ := q
  refine ⟨F, σd, er, ?_⟩
  rw [evS] at po
  unfold evSo
  cases e1 : evSs C cf es σd with
  | bad => rw [e1] at po; exact po
  | exc c s => rw [e1] at po; exact fun F' H' Ca n g => po F' H' σ Ca n.ns g
  | ok r =>
    rw [e1, R.bind_ok] at po
    intro F1 H1 vs n1 r1
    cases e2 : stRs pn is r.1 r.2 with
    | bad => rw [e2] at po; exact po.elim
    | exc c s =>
      have : ∀ (is : List Nat) (svs : List SV) (s0 : EnvD), stRs pn is svs s0 ≠ .exc c s := by
        intro is
        induction is with
        | nil => intro svs s0 z; cases svs <;> cases z
        | cons i is ih => intro svs s0 z; cases svs with
          | nil => cases z
          | cons v svs =>
            have z' : (stR pn i v s0).bind (stRs pn is svs) = .exc c s := z
            rcases stR_cases pn i v s0 with q | ⟨_, _, q⟩
            · rw [q] at z'; cases z'
            · rw [q, R.bind_ok] at z'; exact ih svs _ z'
      exact absurd e2 (this _ _ _)
    | ok σd2 =>
      rw [e2, R.bind_ok] at po
      obtain ⟨g1, g2⟩ := stores is r.1 vs r.2 σ σd2 n1.ns r1 (fun k v sv hk hs hm a ea z => by
        have gw := r1.get hk (show (r.1.map Opd.val)[k]? = some (.val sv) by rw [List.getElem?_map, hs]; rfl)
        have gw' : Res X.kw H F1 H1 v sv := gw
        exact er.ref_there (n1.suR a z) (gw'.new hm ea)) e2
      exact ⟨g1, po F1 H1 _ g2, fun p hp => po F1 _ _ (g2.trans (Le.ns g2.er (Le.new hp)))⟩
def gNs (is : List Nat) : TGs := fun vs σ H Q => vs.length = is.length ∧ Q (setsV σ is vs) H
theorem mtNames_cons {i : Nat} {is : List Nat} {es : List Expr} (h : mtNames c (i :: is) es = true) : ∃ y p r, es = .Name y p :: r ∧ isSto c i y = true ∧ mtNames c is r = true := by
  cases es with
  | nil => cases h
  | cons e r =>
    cases e <;> first | (cases h; done) | skip
    have h : (isSto c i _ && mtNames c is r) = true := h
    simp only [Bool.and_eq_true] at h
    exact ⟨_, _, _, rfl, h.1, h.2⟩
theorem pgs_names (x : XS X W c C Γ n) : ∀ (is : List Nat) (es : List Expr), mtNames c is es = true → PGs X es (gNs is) ∧ (assignEach es X.env).length = is.length ∧ (assignEach es X.env).findIdx? (·.1) = none
  | [], es, h => by
    cases es with
    | cons e r => cases h
    | nil =>
      refine ⟨⟨fun pins s σ H vs us Q I r q => pgs_nil.run pins s σ H vs us Q I r ?_⟩, rfl, rfl⟩
      obtain ⟨q1, q2⟩ := q
      cases vs with
      | nil => exact ⟨rfl, q2⟩
      | cons a b => cases q1
  | i :: is, es, h => by
    obtain ⟨y, p, r, rfl, h1, h2⟩ := mtNames_cons h
    obtain ⟨s1, s2, s3⟩ := isSto_ok x h1
    obtain ⟨g1, g2, g3⟩ := pgs_names x is r h2
    refine ⟨⟨fun pins s σ H vs us Q I rr q => (pgs_cons (pg_name (by rw [x.N]; exact x.nd) s1 s2 s3) g1).run pins s σ H vs us Q I rr ?_⟩, congrArg (· + 1) g2, ?_⟩
    · obtain ⟨q1, q2⟩ := q
      cases vs with
      | nil => cases q1
      | cons v vs => exact ⟨v, vs, rfl, Nat.succ.inj q1, q2⟩
    · show List.findIdx? _ ((false, assign (.Name y p) X.env) :: assignEach r X.env) = none
      simpa [List.findIdx?_cons] using g3
theorem swV_ok {env : Env} {sc : Scope} (hsc : env.scope = sc) (hk : sc.kind = .function) {ts vs : List Expr} {k k' : Nat} {p p' : Pos} {r : Option (List Str)} (h : swV sc ts vs = some r) : swappedStores [.Tuple ts k p] (.Tuple vs k' p') env = pure r := by
  have hb : env.blockKind = .function := by unfold Env.blockKind; rw [hsc, hk]; rfl
  have hkd : ∀ id, env.kindOf id = sc.names.lookup id := fun id => by show env.scope.names.lookup id = _; rw [hsc]
  unfold swV at h
  unfold swappedStores
  simp only [hb, hkd] at h ⊢
  by_cases c1 : (!(ts.length == 2 || ts.length == 3) || vs.length != ts.length) = true
  · rw [if_pos c1] at h
    cases h
    rw [if_pos (by rw [c1]; rfl)]
  · rw [if_neg c1] at h
    rw [if_neg (by simpa using c1)]
    split at h
    · rename_i c2
      cases h
      exact if_pos c2
    · rename_i c2
      refine (if_neg c2).trans ?_
      split at h
      · rename_i c3
        cases h
        exact if_pos c3
      · rename_i c3
        refine (if_neg c3).trans ?_
        split at h
        · rename_i c4
          cases h
          exact if_pos c4
        · rename_i c4
          refine (if_neg c4).trans ?_
          split at h
          · cases h
          · rename_i c5
            cases h
            exact if_neg c5
theorem fm_len {α β : Type} (f : α → Option β) : ∀ (l : List α), (l.filterMap f).length = l.length → ∀ x ∈ l, (f x).isSome = true
  | [], _, x, hx => by cases hx
  | a :: l, h, x, hx => by
    cases q : f a with
    | none =>
      rw [List.filterMap_cons_none q] at h
      have := List.length_filterMap_le f l
      rw [List.length_cons] at h
      omega
    | some b =>
      rw [List.filterMap_cons_some q] at h
      rcases List.mem_cons.mp hx with e | hx
      · rw [e, q]; rfl
      · exact fm_len f l (by simpa using h) x hx
theorem fm_congr {α β : Type} {f g : α → Option β} : ∀ {l : List α}, (∀ x ∈ l, f x = g x) → l.filterMap f = l.filterMap g
  | [], _ => rfl
  | a :: l, h => by
    rw [List.filterMap_cons, List.filterMap_cons, h a List.mem_cons_self, fm_congr fun x hx => h x (List.mem_cons_of_mem _ hx)]
/-- stored from the right: names of the def's own, two or three -/
theorem swV_names {sc : Scope} {ts vs : List Expr} {ns : List Str} (h : swV sc ts vs = some (some ns)) : (ts.length = 2 ∨ ts.length = 3) ∧ vs.length = ts.length ∧ (∀ e ∈ ts, ∃ y p, e = .Name y p ∧ sc.names.lookup y = some .local) ∧
    ns = ts.filterMap fun | .Name id _ => some id | _ => none := by
  unfold swV at h
  split at h
  · cases h
  · rename_i c1
    split at h
    · cases h
    · dsimp only at h
      split at h
      · cases h
      · rename_i c3
        split at h
        · cases h
        · split at h
          · cases h
          · have e := Option.some.inj (Option.some.inj h)
            simp only [Bool.or_eq_true, bne_iff_ne, ne_eq, not_or, Classical.not_not, Bool.not_eq_true', Bool.or_eq_false_iff, not_and, beq_eq_false_iff_ne] at c1 c3
            have hl := fm_len _ _ c3.1
            have hn : ∀ e ∈ ts, ∃ y p, e = .Name y p ∧ sc.names.lookup y = some .local := fun e he => by
              have := hl e he
              cases e <;> first | (cases this; done) | skip
              rename_i y p
              refine ⟨y, p, rfl, ?_⟩
              dsimp only at this
              split at this
              · rename_i z
                simp only [Bool.and_eq_true, beq_iff_eq] at z
                exact z.1
              · cases this
            refine ⟨?_, c1.2, hn, ?_⟩
            · by_cases h2 : ts.length = 2
              · exact .inl h2
              · exact .inr (c1.1 h2)
            · rw [← e]
              refine fm_congr fun x hx => ?_
              have := hl x hx
              obtain ⟨y, p, rfl, _⟩ := hn x hx
              dsimp only at this ⊢
              split at this
              · rename_i z; rw [if_pos z]
              · cases this
theorem names_local {is : List Nat} : ∀ {es : List Expr}, mtNames c is es = true → (∀ e ∈ es, ∃ y p, e = .Name y p ∧ c.sc.names.lookup y = some .local) → True := fun _ _ => trivial
theorem step_par (is : List Nat) (ms : MEs) : SOk C Γ n np (.par is ms) := fun pn c s X W x _ h => by
  unfold mtS at h
  split at h
  · rename_i es k p vs k' p' pos
    simp only [Bool.and_eq_true, decide_eq_true_eq] at h
    obtain ⟨⟨⟨⟨⟨h1, h2⟩, h3⟩, h4⟩, h5⟩, h6⟩ := h
    obtain ⟨r, hr⟩ := Option.isSome_iff_exists.mp h6
    have hN : X.N.Nodup := by rw [x.N]; exact x.nd
    have hk : c.sc.kind = .function := by rw [← x.sc]; exact x.kind
    have sw := swV_ok (env := X.env) (k := k) (k' := k') (p := p) (p' := p') x.sc hk hr
    have pa := pa_Ss (W := W) x.toXC h2
    cases r with
    | none =>
      obtain ⟨g1, g2, g3⟩ := pgs_names x is es h1
      refine PSimp (ps_asg (pe_tup pa) (pg_tup x.calm g1 g2 g3) rfl sw) fun D σ H q => ?_
      obtain ⟨F, σd, er, po⟩ := par_post q
      refine ⟨F, σd, er, ?_⟩
      revert po
      cases evSo C (callF C Γ n) ms σd with
      | bad => exact id
      | exc c s => exact id
      | ok pr =>
        intro po F1 H1 xs n1 r1
        obtain ⟨q1, q2, q3⟩ := po F1 H1 xs n1 r1
        refine ⟨by rw [q1, sizeLine_eq]; omega, fun t ht => ⟨t, xs, rfl, .inl (.inl upd_same), q1, q1, q3 t ht⟩⟩
    | some ns =>
      obtain ⟨l1, l2, l3, l4⟩ := swV_names hr
      have loc : ∀ {i : Nat} {y : Str}, isSto c i y = true → X.N[i]? = some y := fun {i y} z => (isSto_ok x z).1
      have lk : ∀ {y : Str}, c.sc.names.lookup y = some .local → X.env.scope.names.lookup y = some .local := fun {y} z => by rw [x.sc]; exact z
      rcases l1 with l1 | l1
      · match es, is, vs, l1, l2, h1, h4 with
        | [e1, e2], is, [v1, v2], _, _, h1, h4 =>
          cases is with
          | nil => cases h1
          | cons i is =>
            obtain ⟨y1, p1, r1, z1, s1, h1⟩ := mtNames_cons h1
            cases z1
            cases is with
            | nil => cases h1
            | cons j is =>
              obtain ⟨y2, p2, r2, z2, s2, h1⟩ := mtNames_cons h1
              cases z2
              cases is with
              | cons a b => cases h1
              | nil =>
                obtain ⟨_, _, w1, t1⟩ := l3 (.Name y1 p1) (by simp)
                obtain ⟨_, _, w2, t2⟩ := l3 (.Name y2 p2) (by simp)
                cases w1; cases w2
                have hij : i ≠ j := by simpa using h3
                refine PSimp (ps_par x.calm hN (loc s1) (loc s2) hij (lk t1) (lk t2) pa (by rw [sw, l4]; rfl)) fun D σ H q => ?_
                obtain ⟨F, σd, er, po⟩ := par_post q
                refine ⟨F, σd, er, ?_⟩
                revert po
                cases evSo C (callF C Γ n) ms σd with
                | bad => exact id
                | exc c s => exact id
                | ok pr =>
                  intro po F1 H1 xs n1 r1
                  obtain ⟨q1, q2, q3⟩ := po F1 H1 xs n1 r1
                  match xs, q1, q2 with
                  | [a, b], _, q2 => exact ⟨a, b, rfl, q2⟩
      · match es, is, vs, l1, l2, h1, h4 with
        | [e1, e2, e3], is, [v1, v2, v3], _, _, h1, h4 =>
          cases is with
          | nil => cases h1
          | cons i is =>
            obtain ⟨y1, p1, r1, z1, s1, h1⟩ := mtNames_cons h1
            cases z1
            cases is with
            | nil => cases h1
            | cons j is =>
              obtain ⟨y2, p2, r2, z2, s2, h1⟩ := mtNames_cons h1
              cases z2
              cases is with
              | nil => cases h1
              | cons l is =>
                obtain ⟨y3, p3, r3, z3, s3, h1⟩ := mtNames_cons h1
                cases z3
                cases is with
                | cons a b => cases h1
                | nil =>
                  obtain ⟨_, _, w1, t1⟩ := l3 (.Name y1 p1) (by simp)
                  obtain ⟨_, _, w2, t2⟩ := l3 (.Name y2 p2) (by simp)
                  obtain ⟨_, _, w3, t3⟩ := l3 (.Name y3 p3) (by simp)
                  cases w1; cases w2; cases w3
                  have hd : (i ≠ j ∧ i ≠ l) ∧ j ≠ l := by simpa [not_or] using h3
                  refine PSimp (ps_par3 x.calm hN (loc s1) (loc s2) (loc s3) hd.1.1 hd.1.2 hd.2 (lk t1) (lk t2) (lk t3) pa (by rw [sw, l4]; rfl)) fun D σ H q => ?_
                  obtain ⟨F, σd, er, po⟩ := par_post q
                  refine ⟨F, σd, er, ?_⟩
                  revert po
                  cases evSo C (callF C Γ n) ms σd with
                  | bad => exact id
                  | exc c s => exact id
                  | ok pr =>
                    intro po F1 H1 xs n1 r1
                    obtain ⟨q1, q2, q3⟩ := po F1 H1 xs n1 r1
                    match xs, q1, q2 with
                    | [a, b, d], _, q2 => exact ⟨a, b, d, rfl, q2⟩
  · cases h

/-! ### if, while, for, blocks -/
def SSOk (C : Str → Option RH.D) (Γ : Str → Option FD) (n np : Nat) (m : MSs) : Prop := ∀ (pn : List Nat) (c : CC) (s : List Stmt) (X : Cx) (W : WX), XS X W c C Γ n → (∀ j ∈ pn, j < np) → mtSS c m s = true → PSs X s (tS X W np pn (evSS C (callF C Γ n) np pn m))
theorem step_ifs {t : ME} {a b : MSs} (ha : SSOk C Γ n np a) (hb : SSOk C Γ n np b) : SOk C Γ n np (.ifs t a b) := fun pn c s X W x hp h => by
  unfold mtS at h
  split at h
  · rename_i e sa sb pos
    simp only [Bool.and_eq_true] at h
    obtain ⟨⟨h1, h2⟩, h3⟩ := h
    refine PSimp (ps_if (eok t c e X W x.toXC h1).2 (ha pn c sa X W x hp h2) (hb pn c sb X W x hp h3)) fun D σ H q => ?_
    obtain ⟨F, σd, er, po⟩ := q
    refine ⟨F, σd, er, ?_⟩
    rw [evS] at po
    unfold evB
    cases e1 : evV C (callF C Γ n) t σd with
    | bad => rw [e1] at po; exact po
    | exc c s => rw [e1] at po; exact fun F' H' Ca n g => po F' H' σ Ca n.ns g
    | ok p =>
      rw [e1, R.bind_ok] at po
      rw [R.bind_ok]
      cases e2 : asB p.1 with
      | none => rw [e2] at po; exact po.elim
      | some k =>
        rw [e2, ofOpt_some, R.bind_ok] at po
        rw [ofOpt_some, R.bind_ok]
        intro F1 H1 n1
        cases k with
        | true => rw [if_pos rfl] at po; exact iteT ⟨F1, p.2, n1.er, po.on n1.ns⟩
        | false => rw [if_neg Bool.false_ne_true] at po; exact iteF ⟨F1, p.2, n1.er, po.on n1.ns⟩
  · cases h
theorem step_while {t : ME} {b : MSs} (hb : SSOk C Γ n np b) : SOk C Γ n np (.while t b) := fun pn c s X W x hp h => by
  unfold mtS at h
  split at h
  · rename_i e sb pos
    simp only [Bool.and_eq_true] at h
    refine PSimp (ps_while x.nex (eok t c e X W x.toXC h.1).2 (hb pn c sb X W x hp h.2)) fun D σ H q => ?_
    obtain ⟨F, σd, er, po⟩ := q
    rw [evS] at po
    change PostS X W np pn F H σd σ (whileR (evB C (callF C Γ n) t) (evSS C (callF C Γ n) np pn b) σd) D at po
    by_cases hbad : whileR (evB C (callF C Γ n) t) (evSS C (callF C Γ n) np pn b) σd = .bad
    · rw [hbad] at po; exact po.elim
    · obtain ⟨N, e1, hne⟩ := whileR_ex hbad
      rw [← e1] at po
      generalize hr : whileN (evB C (callF C Γ n) t) (evSS C (callF C Γ n) np pn b) N σd = r at po hne
      refine ⟨fun m σ' H' => ∃ F' σd', Ns X.kw True (· ∈ pn) F H σd σ F' H' σd' σ' ∧ whileN (evB C (callF C Γ n) t) (evSS C (callF C Γ n) np pn b) m σd' = r, ⟨N, F, σd, Ns.refl er, hr⟩, ?_⟩
      rintro m σ' H' ⟨F', σd', ns, hw⟩
      cases m with
      | zero => exact absurd hw.symm hne
      | succ m =>
        rw [whileN] at hw
        refine ⟨F', σd', ns.er, ?_⟩
        cases e2 : evB C (callF C Γ n) t σd' with
        | bad => rw [e2] at hw; exact absurd hw.symm hne
        | exc c s =>
          rw [e2] at hw
          have hw : R.exc c s = r := hw
          subst hw
          exact fun F2 H2 Ca n2 g => po F2 H2 σ' Ca (ns.nx n2) g
        | ok p =>
          rw [e2, R.bind_ok] at hw
          intro F1 H1 n1
          have ns1 := ns.nx n1
          by_cases hpt : p.1 = true
          · rw [if_pos hpt] at hw
            rw [hpt]
            refine iteT ⟨fun σ2 H2 => ∃ F2 s2, Ns X.kw True (· ∈ pn) F H σd σ F2 H2 s2 σ2 ∧ whileN (evB C (callF C Γ n) t) (evSS C (callF C Γ n) np pn b) m s2 = r, fun σ2 H2 z => ⟨m, Nat.lt_succ_self m, z⟩, F1, p.2, n1.er, ?_⟩
            cases e3 : evSS C (callF C Γ n) np pn b p.2 with
            | bad => rw [e3] at hw; exact absurd hw.symm hne
            | exc c s =>
              rw [e3] at hw
              have hw : R.exc c s = r := hw
              subst hw
              exact fun F2 H2 σ2 Ca n2 g => po F2 H2 σ2 Ca (ns1.trans n2) g
            | ok f =>
              rw [e3, R.bind_ok] at hw
              cases f with
              | nx s => exact fun F2 H2 σ2 n2 => ⟨F2, s, ns1.trans n2, hw⟩
              | ct s => exact fun F2 H2 σ2 n2 => ⟨F2, s, ns1.trans n2, hw⟩
              | bk s =>
                have hw : R.ok (Fl.nx s) = r := hw
                subst hw
                exact fun F2 H2 σ2 n2 => po F2 H2 σ2 (ns1.trans n2)
              | rt sv s =>
                have hw : R.ok (Fl.rt sv s) = r := hw
                subst hw
                exact fun F2 H2 σ2 v n2 rv => po F2 H2 σ2 v (ns1.trans n2) (rv.old ns1)
          · rw [if_neg hpt] at hw
            have hw : R.ok (Fl.nx p.2) = r := hw
            subst hw
            have : p.1 = false := by simpa using hpt
            rw [this]
            exact iteF (po F1 H1 σ' ns1)
  · cases h
theorem RetV.lend {K : KW} {H : Hp} {σd : EnvD} {σ : L2.St} {F' : Addr → Prop} {H' : Hp} {v : V} {sv : SV} {l : List Nat} (hl : Lent σd l) (r : RetV K np H (lendAll σd l) σ F' H' v sv) : RetV K np H σd σ F' H' v sv := by
  obtain ⟨m, d⟩ := sv
  cases m with
  | frz => exact r
  | lck => exact r
  | own =>
    obtain ⟨a, q, nf, h, ct⟩ := r
    refine ⟨a, q, nf, ?_, ct⟩
    rcases h with h | ⟨i, d0, hi, h1, h2⟩
    · exact .inl h
    · refine .inr ?_
      rcases hl with rfl | ⟨j, e, rfl, hj⟩
      · exact ⟨i, d0, hi, h1, h2⟩
      · rw [lendAll_one hj, slotAt_set] at h1
        by_cases ij : j = i
        · rw [if_pos ij, if_pos (slot_lt hj)] at h1; cases h1
        · rw [if_neg ij] at h1; exact ⟨i, d0, hi, h1, h2⟩
theorem step_for (p : MP) (it : MI) {b : MSs} (hb : SSOk C Γ n np b) : SOk C Γ n np (.for p it b) := fun pn c s X W x hp h => by
  unfold mtS at h
  split at h
  · rename_i tg iter sb pos
    simp only [Bool.and_eq_true] at h
    obtain ⟨⟨⟨h1, h2⟩, h3⟩, h4⟩ := h
    have hN : X.N.Nodup := by rw [x.N]; exact x.nd
    have tp := tgQ_of (X := X) (fun i y z => isSto_ok x z) _ _ h1
    obtain ⟨g1, _⟩ := tp.run hN x.calm
    obtain ⟨i1, i2⟩ := iok it c iter tg X W x.toXC h2 h3
    refine PSimp (ps_for x.nex x.calm i1 g1 (hb pn c sb X W x hp h4) (i2 X.env)) fun D σ H q => ?_
    obtain ⟨F, σd, er, po⟩ := q
    refine ⟨F, σd, er, ?_⟩
    rw [evS] at po
    cases e1 : evI C (callF C Γ n) it σd with
    | bad => rw [e1] at po; exact po
    | exc c s => rw [e1] at po; exact fun F' H' Ca n g => po F' H' σ Ca n.ns g
    | ok s =>
      rw [e1, R.bind_ok] at po
      intro F1 H1 J ok n1 l1 io sl
      have erl := n1.er.lend l1
      have un : ∀ {F2 H2 e σ2}, Ns X.kw True (· ∈ pn) F1 H1 (lendAll s.2 s.1.lent) σ F2 H2 e σ2 → Ns X.kw True (· ∈ pn) F H σd σ F2 H2 (unlend e s.1.lent) σ2 := fun {F2 H2 e σ2} A => Ns.unlend n1.ns l1 A
      generalize hr : forR (bindC pn p) (evSS C (callF C Γ n) np pn b) s.1.items (lendAll s.2 s.1.lent) = r at po
      have hne : r ≠ .bad := fun z => by rw [z] at po; exact po.elim
      have hok : ∀ {F2 H2 e σ2}, Ns X.kw True (· ∈ pn) F1 H1 (lendAll s.2 s.1.lent) σ F2 H2 e σ2 → ok F2 H2 := fun {F2 H2 e σ2} ns => by
        rcases sl with sl | ⟨i, d, v, q1, q2, q3, q4⟩
        · exact sl _ _ (ns.le.pr erl.bk)
        · obtain ⟨z1, z2⟩ := ns.lk i _ q2 rfl
          obtain ⟨w, z3, z4⟩ := ns.er.at_ i _ z1
          rw [z2, q3] at z3; cases z3
          exact q4 _ _ z4.rt
      refine ⟨fun i m σ' H' => m = s.1.items.length - i ∧ i ≤ s.1.items.length ∧ ∃ F2 e, Ns X.kw True (· ∈ pn) F1 H1 (lendAll s.2 s.1.lent) σ F2 H' e σ' ∧ forR (bindC pn p) (evSS C (callF C Γ n) np pn b) (s.1.items.drop i) e = r, ⟨s.1.items.length, by simp, Nat.zero_le _, F1, _, Ns.refl erl, by rw [List.drop_zero]; exact hr⟩, ?_⟩
      rintro i m σ' H' ⟨rfl, hi, F2, e, ns, hw⟩
      have okH := hok ns
      by_cases hlt : i < s.1.items.length
      · have hd : s.1.items[i]? = some s.1.items[i] := List.getElem?_eq_getElem hlt
        obtain ⟨go, yl⟩ := io.step i _ F2 H' ns.er.fd okH hd
        rw [List.drop_eq_getElem_cons hlt, forR] at hw
        refine .inr ⟨go, fun σ2 H2 => ∃ F2 e, Ns X.kw True (· ∈ pn) F1 H1 (lendAll s.2 s.1.lent) σ F2 H2 e σ2 ∧ forR (bindC pn p) (evSS C (callF C Γ n) np pn b) (s.1.items.drop (i + 1)) e = r, fun σ2 H2 z => ⟨s.1.items.length - (i + 1), by omega, rfl, hlt, z⟩, fun y H3 yy => ?_⟩
        obtain ⟨ly, ry⟩ := yl y H3 yy
        have ns3 := ns.trans (Le.ns ns.er ly)
        cases e3 : bindC pn p s.1.items[i] e with
        | none => rw [e3] at hw; exact absurd hw.symm hne
        | some σ1 =>
          rw [e3, ofOpt_some, R.bind_ok] at hw
          obtain ⟨b1, b2⟩ := bindC_ok e3
          refine ⟨F2, e, _, σ1, ns3.er, ry, b1, fun σ2 er2 bd => ?_⟩
          have ns4 := bd_post ns3 er2 bd b2
          refine ⟨F2, σ1, er2, ?_⟩
          cases e4 : evSS C (callF C Γ n) np pn b σ1 with
          | bad => rw [e4] at hw; exact absurd hw.symm hne
          | exc c s' =>
            rw [e4] at hw
            have hw : R.exc c s' = r := hw
            subst hw
            exact fun F5 H5 σ5 Ca n5 g => po F5 H5 σ5 Ca (un (ns4.trans n5)) g
          | ok f =>
            rw [e4, R.bind_ok] at hw
            cases f with
            | nx s' => exact fun F5 H5 σ5 n5 => ⟨F5, s', ns4.trans n5, hw⟩
            | ct s' => exact fun F5 H5 σ5 n5 => ⟨F5, s', ns4.trans n5, hw⟩
            | bk s' =>
              have hw : R.ok (Fl.nx s') = r := hw
              subst hw
              exact fun F5 H5 σ5 n5 => po F5 H5 σ5 (un (ns4.trans n5))
            | rt sv s' =>
              have hw : R.ok (Fl.rt sv s') = r := hw
              subst hw
              exact fun F5 H5 σ5 v n5 rv => po F5 H5 σ5 v (un (ns4.trans n5)) (((rv.old ns4).lend l1).old (n1.ns (nw := True) (pn := (· ∈ pn))))
      · have hi' : i = s.1.items.length := by omega
        refine .inl ⟨io.stop i F2 H' okH (by omega), ?_⟩
        rw [hi', List.drop_length, forR] at hw
        subst hw
        exact po F2 H' σ' (un ns)
  · cases h
/-! ### try: .. except X: a plain suite -/
theorem no_exc {cf : Str → List SV → RF} : ∀ (h : MSs), simpleH h = true → ∀ (σ : EnvD) (x : Str) (s : EnvD), evSS C cf np pn h σ ≠ .exc x s
  | .nil, _, σ, x, s => by rw [evSS]; intro z; cases z
  | .cons m r, hs, σ, x, s => by
    unfold simpleH at hs
    split at hs <;> first | (cases hs; done) | skip
    · rename_i z; cases z
    · rename_i d r' z
      cases z
      rw [evSS, evS]
      intro z
      cases z
    · rename_i i d r' z
      cases z
      rw [evSS, evS, evV, R.bind_ok]
      rcases stR_cases pn i (fz d) σ with e | ⟨_, _, e⟩
      · rw [e]; intro z; cases z
      · rw [e, R.bind_ok, R.bind_ok]; exact no_exc _ hs _ x s
    · rename_i r' z
      cases z
      rw [evSS, evS, R.bind_ok]
      exact no_exc _ hs _ x s
theorem pe_con {X : Cx} {d : RH.D} {k : Const} {j : Nat} {p : Pos} (h : mtC d k = true) : ∃ v, PE X (.Constant k j p) (tC v) ∧ ∀ K F H, Rp K F H v d := by
  unfold mtC at h
  split at h
  · exact ⟨_, pe_non, fun _ _ _ => .non⟩
  · cases of_decide_eq_true h; exact ⟨_, pe_bl, fun _ _ _ => .bl _⟩
  · cases of_decide_eq_true h; exact ⟨_, pe_int, fun _ _ _ => .int _⟩
  · cases of_decide_eq_true h; exact ⟨_, pe_str, fun _ _ _ => .str _⟩
  · cases h
theorem suite_ok {cf : Str → List SV → RF} (hN : X.N.Nodup) (hst : ∀ i y, isSto c i y = true → Sto X i y) : ∀ (h : MSs) (ss : List Stmt), simpleH h = true → mtSS c h ss = true → PSs X ss (tS X W np pn (evSS C cf np pn h))
  | .nil, ss, _, hm => by
    unfold mtSS at hm
    split at hm
    · refine PSsimp pss_nil fun D σ H q => ?_
      obtain ⟨F, σd, er, po⟩ := q
      rw [evSS] at po
      exact po F H σ (Ns.refl er)
    · cases hm
  | .cons m r, ss, hs, hm => by
    unfold mtSS at hm
    split at hm
    · rename_i st rr
      simp only [Bool.and_eq_true] at hm
      obtain ⟨hm1, hm2⟩ := hm
      have seq : PS X st (tS X W np pn (evS C cf np pn m)) → simpleH r = true → PSs X (st :: rr) (tS X W np pn (evSS C cf np pn (.cons m r))) := fun h1 hr => by
        refine PSsimp (pss_cons h1 (suite_ok (cf := cf) hN hst r rr hr hm2)) fun D σ H q => ?_
        obtain ⟨F, σd, er, po⟩ := q
        refine ⟨F, σd, er, ?_⟩
        rw [evSS] at po
        cases e1 : evS C cf np pn m σd with
        | bad => rw [e1] at po; exact po
        | exc c s => rw [e1] at po; exact po
        | ok f =>
          rw [e1, R.bind_ok] at po
          cases f with
          | nx s => exact fun F1 H1 σ1 n1 => ⟨F1, s, n1.er, po.on n1⟩
          | ct s => exact po
          | bk s => exact po
          | rt sv s => exact po
      unfold simpleH at hs
      split at hs <;> first | (cases hs; done) | skip
      · rename_i z; cases z
      · rename_i d r' z
        cases z
        refine seq ?_ hs
        unfold mtS at hm1
        split at hm1
        · unfold mt at hm1
          split at hm1
          · obtain ⟨v, pv, rv⟩ := pe_con (X := X) hm1
            refine PSimp (ps_ret pv) fun D σ H q => ?_
            obtain ⟨F, σd, er, po⟩ := q
            rw [evS] at po
            exact po F H σ v (Ns.refl er) (rv X.kw F H)
          · cases hm1
        · cases hm1
      · rename_i i d r' z
        cases z
        refine seq ?_ hs
        unfold mtS at hm1
        split at hm1
        · simp only [Bool.and_eq_true] at hm1
          obtain ⟨h1, h2⟩ := hm1
          unfold mt at h2
          split at h2
          · obtain ⟨v, pv, rv⟩ := pe_con (X := X) h2
            obtain ⟨s1, s2, s3⟩ := hst _ _ h1
            refine PSimp (ps_set hN s1 s2 pv rfl s3) fun D σ H q => ?_
            obtain ⟨F, σd, er, po⟩ := q
            rw [evS, evV, R.bind_ok] at po
            rcases stR_cases pn i (fz d) σd with e | ⟨g1, g2, e⟩
            · rw [e] at po; exact po.elim
            · rw [e, R.bind_ok] at po
              exact po F H _ ((Ns.refl er).store (sv := fz d) g1 g2 (rv X.kw F H) fun hm => absurd rfl hm)
          · cases h2
        · cases hm1
      · rename_i r' z
        cases z
        refine seq ?_ hs
        unfold mtS at hm1
        split at hm1
        · refine PSimp ps_pass fun D σ H q => ?_
          obtain ⟨F, σd, er, po⟩ := q
          rw [evS] at po
          exact po F H σ (Ns.refl er)
        · cases hm1
    · cases hm
theorem step_try (y : Str) (tab : List (Str × Bool)) {b h : MSs} (hb : SSOk C Γ n np b) : SOk C Γ n np (.try1 b y tab h) := fun pn c s X W x hp hm => by
  unfold mtS at hm
  split at hm
  · rename_i body z zp suite hpos pos
    simp only [Bool.and_eq_true, decide_eq_true_eq] at hm
    obtain ⟨⟨⟨⟨⟨⟨⟨rfl, h2⟩, h3⟩, h4⟩, h5⟩, h6⟩, h8⟩, h7⟩ := hm
    cases suite with
    | nil => cases h5
    | cons b0 suite =>
      obtain ⟨g1, g2⟩ := isGl_gl x.toXC h2
      have hN : X.N.Nodup := by rw [x.N]; exact x.nd
      have tabOk : ∀ p ∈ tab, ∃ Cx Cy, X.mg p.1 = some (.ref Cx) ∧ X.mg y = some (.ref Cy) ∧ PySem.W.exmOne X.kw (.ref Cx) (.ref Cy) = some p.2 := fun p hp => x.hs _ _ _ (by simpa using List.all_eq_true.mp h7 p hp)
      by_cases hc : ∃ Cy, X.mg y = some (.ref Cy)
      · obtain ⟨Cy, hy⟩ := hc
        refine PSimp (ps_try_only (c := .ref Cy) (ts := fun _ _ _ => tS X W0 np pn (evSS C (callF C Γ n) np pn h)) (tb := fun W => tS X W np pn (evSS C (callF C Γ n) np pn b)) x.stk x.frm ⟨g1, g2, .inl hy⟩ (x.tk.to x.frm) (fun W' pq xe tk pa => ?_) (fun a oe cls d pq _ _ => ?_)) fun D σ H q => ?_
        · exact hb pn c body (X.tr pq xe) W' { N := x.N, nd := x.nd, sc := x.sc, kind := x.kind, calm := x.calm, tk := TakesR.of (X := X.tr pq xe) x.frm tk, fr := fr1_of (X := X.tr pq xe) x.stk x.frm, room := x.room, tab := x.tab, fs := x.fs, fn := x.fn, nex := pa, xs := x.xs, hs := x.hs, stk := x.stk, frm := x.frm } hp h3
        · exact suite_ok (X := X.suite a ((a, oe) :: pq)) (W := W0) hN (fun i z hz => isSto_ok x hz) h (b0 :: suite) h4 h6
        · obtain ⟨F, σd, er, po⟩ := q
          refine ⟨F, σd, er, ?_⟩
          rw [evS] at po
          cases e1 : evSS C (callF C Γ n) np pn b σd with
          | bad => rw [e1] at po; exact po
          | ok f =>
            rw [e1] at po
            cases f with
            | nx s => exact po
            | ct s => exact po
            | bk s => exact po
            | rt sv s => exact po
          | exc xn s =>
            rw [e1] at po
            dsimp only at po
            intro F' H' σ' Ca ns hx
            cases e2 : lookX tab xn with
            | none => rw [e2] at po; exact po.elim
            | some bb =>
              obtain ⟨p, e3, e4⟩ := Option.map_eq_some_iff.mp e2
              have hp1 := List.mem_of_find?_eq_some e3
              have hp2 : p.1 = xn := by simpa using List.find?_some e3
              obtain ⟨Cx, Cy', q1, q2, q3⟩ := tabOk p hp1
              rw [hp2, hx] at q1
              cases q1
              rw [hy] at q2
              cases q2
              rw [e4] at q3
              rw [e2] at po
              refine ⟨bb, q3, fun hbb a _ => ?_, fun hbb => ?_⟩
              · subst hbb
                dsimp only at po
                refine ⟨F', s, ns.er, ?_⟩
                have po' := po.on ns
                cases e5 : evSS C (callF C Γ n) np pn h s with
                | bad => rw [e5] at po'; exact po'
                | exc x2 s2 => exact absurd e5 (no_exc h h4 s x2 s2)
                | ok f =>
                  rw [e5] at po'
                  cases f with
                  | nx s => exact po'
                  | ct s => exact po'
                  | bk s => exact po'
                  | rt sv s => exact po'
              · subst hbb
                dsimp only at po
                exact po F' H' σ' Ca ns hx
      · cases tab with
        | nil => cases h8
        | cons p tab =>
          obtain ⟨_, Cy, _, q, _⟩ := tabOk p List.mem_cons_self
          exact absurd ⟨Cy, q⟩ hc
  · cases hm
theorem step_nil : SSOk C Γ n np .nil := fun pn c s X W x hp h => by
  unfold mtSS at h
  split at h
  · refine PSsimp pss_nil fun D σ H q => ?_
    obtain ⟨F, σd, er, po⟩ := q
    rw [evSS] at po
    exact po F H σ (Ns.refl er)
  · cases h
theorem step_cons {m : MS} {ms : MSs} (hm : SOk C Γ n np m) (hms : SSOk C Γ n np ms) : SSOk C Γ n np (.cons m ms) := fun pn c s X W x hp h => by
  unfold mtSS at h
  split at h
  · rename_i st r
    simp only [Bool.and_eq_true] at h
    refine PSsimp (pss_cons (hm pn c st X W x hp h.1) (hms pn c r X W x hp h.2)) fun D σ H q => ?_
    obtain ⟨F, σd, er, po⟩ := q
    refine ⟨F, σd, er, ?_⟩
    rw [evSS] at po
    cases e1 : evS C (callF C Γ n) np pn m σd with
    | bad => rw [e1] at po; exact po
    | exc c s => rw [e1] at po; exact po
    | ok f =>
      rw [e1, R.bind_ok] at po
      cases f with
      | nx s => exact fun F1 H1 σ1 n1 => ⟨F1, s, n1.er, po.on n1⟩
      | ct s => exact po
      | bk s => exact po
      | rt sv s => exact po
  · cases h
mutual
theorem sok : ∀ m : MS, SOk C Γ n np m
  | .expr e => step_expr
  | .set i e => step_set i
  | .setp p e => step_setp p
  | .par is es => step_par is es
  | .aug i o e => step_aug i o
  | .put i k e => step_put i
  | .putS i _ _ _ => step_putS i
  | .ret e => step_ret
  | .ret0 => step_ret0
  | .ifs c a b => step_ifs (ssok a) (ssok b)
  | .while c b => step_while (ssok b)
  | .for p it b => step_for p it (ssok b)
  | .raise y => step_raise y
  | .try1 b c tab h => step_try c tab (ssok b)
  | .pass => step_pass
  | .brk => step_brk
  | .cont => step_cont
theorem ssok : ∀ ms : MSs, SSOk C Γ n np ms
  | .nil => step_nil
  | .cons m ms => step_cons (sok m) (ssok ms)
end
end
end RH
set_option maxRecDepth 100000
set_option maxHeartbeats 4000000
/-! Defs. -/
namespace RH
open PySem PySem.Spec L2

section
variable {P : Program} {w : World} {K : PySem.W.Frag} {mg : Str → Option Value} {base : Heap} {C : Str → Option D} {Γ : Str → Option FD} {n : Nat}
theorem start_lt {N : List Str} {vs : List V} {i : Nat} (h : i < vs.length) : (L2.start N vs)[i]? = some vs[i]? := by
  unfold L2.start
  rw [List.getElem?_append_left (by simpa using h), List.getElem?_map, List.getElem?_eq_getElem h]
  rfl
theorem env_at {svs : List SV} {k : Nat} {i : Nat} {sv : SV} : slotAt (svs.map some ++ List.replicate k none) i = some sv ↔ svs[i]? = some sv := by
  unfold slotAt
  by_cases h : i < svs.length
  · rw [List.getElem?_append_left (by simpa using h), List.getElem?_map, List.getElem?_eq_getElem h]
    simp
  · rw [List.getElem?_append_right (by simpa using h), List.getElem?_replicate, List.getElem?_eq_none (l := svs) (by omega)]
    split <;> simp
theorem take_at {σ : EnvD} {k i : Nat} (h : i < k) : slotAt (σ.take k) i = slotAt σ i := by
  unfold slotAt
  rw [List.getElem?_take_of_lt h]
theorem pins_mem {svs : List SV} {i : Nat} : i ∈ pins svs ↔ ∃ sv, svs[i]? = some sv ∧ sv.md ≠ .frz := by
  unfold pins
  rw [List.mem_filter, List.mem_range]
  constructor
  · rintro ⟨h1, h2⟩
    refine ⟨svs[i], List.getElem?_eq_getElem h1, fun z => ?_⟩
    rw [List.getElem?_eq_getElem h1] at h2
    generalize svs[i] = sv at h2 z
    obtain ⟨m, d⟩ := sv
    cases z
    cases h2
  · rintro ⟨sv, h1, h2⟩
    refine ⟨(List.getElem?_eq_some_iff.mp h1).1, ?_⟩
    rw [h1]
    obtain ⟨m, d⟩ := sv
    cases m with
    | frz => exact absurd rfl h2
    | own => rfl
    | lck => rfl
theorem start_er {F : Addr → Prop} {H : Hp} {N : List Str} {vs : List V} {svs : List SV} (fd : ∀ a, F a → H a ≠ none) (ag : Args ⟨K, w⟩ F H vs svs) (hl : vs.length ≤ N.length) : ER ⟨K, w⟩ F H (svs.map some ++ List.replicate (N.length - svs.length) none) (L2.start N vs) where
  len := by
    unfold L2.start
    rw [List.length_append, List.length_append, List.length_map, List.length_map, List.length_replicate, List.length_replicate, ag.len]
  at_ := fun i sv h => by
    rw [env_at] at h
    have hi : i < vs.length := by rw [ag.len]; exact (List.getElem?_eq_some_iff.mp h).1
    exact ⟨vs[i], by rw [start_lt hi, List.getElem?_eq_getElem hi], ag.at_ i _ sv (List.getElem?_eq_getElem hi) h⟩
  ap := fun i j sv sw a h1 h2 m1 m2 e1 e2 => by
    rw [env_at] at h1 h2
    have hi : i < vs.length := by rw [ag.len]; exact (List.getElem?_eq_some_iff.mp h1).1
    have hj : j < vs.length := by rw [ag.len]; exact (List.getElem?_eq_some_iff.mp h2).1
    rw [start_lt hi] at e1
    rw [start_lt hj] at e2
    exact ag.ap i j a sv sw (Option.some.inj e1) (Option.some.inj e2) h1 h2 m1 m2
  fd := fd
structure DefOk (fs xs : List Str) (hs : List (Str × Str × Bool)) (N ps : List Str) (fd : FD) (st : Stmt) : Prop where
  np : fd.np = ps.length
  ns : fd.ns = N.length
  body : mtSS ⟨N, defScope st, fs, xs, hs⟩ fd.body (defBody st) = true
  S : FnScope N ps (defScope st)
theorem mtDef_ok {fs xs : List Str} {hs : List (Str × Str × Bool)} {N ps : List Str} {fd : FD} {st : Stmt} (h : mtDef fs xs hs N ps fd st = true) : DefOk fs xs hs N ps fd st := by
  unfold mtDef at h
  simp only [Bool.and_eq_true, decide_eq_true_eq, Bool.not_eq_true', List.all_eq_true] at h
  obtain ⟨⟨⟨⟨⟨⟨⟨⟨⟨h1, h2⟩, h3⟩, h4⟩, h5⟩, h6⟩, h7⟩, h8⟩, h9⟩, h10⟩ := h
  refine ⟨h1, h2, h3, ?_, h5, h6, h7, h8, fun y hy => ?_, fun y hy z => ?_⟩
  · split at h4
    · assumption
    · cases h4
  · have := h9 y hy
    split at this
    · rename_i e; exact .inl e
    · rename_i e; exact .inr e
    · cases this
  · have := h10 y hy
    rw [z] at this
    cases this
/-- a def of the text, the others called to a depth -/
theorem def_ok {fs xs : List Str} {hs : List (Str × Str × Bool)} {N ps : List Str} {fd : FD} {st : Stmt} {f : Str} {qual : Str} {a : Addr} {fdd : FuncData} (Fn : L2.Fun K f qual st a fdd) (hm : mtDef fs xs hs N ps fd st = true) (hΓ : Γ f = some fd) (T : Tb P w ⟨K, w⟩ mg base C Γ n) (hfs : ∀ g ∈ fs, (Γ g).isSome = true)
    (hxs : ∀ x ∈ xs, ∀ X : Cx, X.K = K → X.mg = mg → ExcName X x) (hhs : ∀ x y b, (x, y, b) ∈ hs → ∃ Cx Cy, mg x = some (.ref Cx) ∧ mg y = some (.ref Cy) ∧ PySem.W.exmOne K (.ref Cx) (.ref Cy) = some b) : FnOk P w K mg base (L2.CX P w) (n + 1) a fdd ps (spF ⟨K, w⟩ mg fd.np (callF C Γ (n + 1) f)) := by
  have D0 := mtDef_ok hm
  refine Fn.okX D0.S (fun vs H Q E h => by rw [h.1]; exact D0.np) (fun cdv A outer s H vs Q E hr h => ?_)
  obtain ⟨hlen, F, svs, hfd, ag, h⟩ := h
  have hpl : ps.length ≤ N.length := by have := congrArg List.length D0.S.pre; rw [List.length_take] at this; omega
  have hsl : svs.length = fd.np := by rw [← ag.len]; exact hlen
  rw [callF, hΓ] at h
  dsimp only at h
  unfold runD at h
  rw [if_pos hsl] at h
  have x : XS (cxOf (L2.CX P w) P w K mg base N qual (defScope st) a cdv A outer s H E) (fun cls d _ H => E cls d H) ⟨N, defScope st, fs, xs, hs⟩ C Γ n :=
    { N := rfl, nd := D0.S.nd, sc := rfl, kind := D0.S.kind, calm := rfl, tk := TakesR.of rfl (takes_of rfl rfl rfl rfl), fr := fr1_of rfl rfl, room := hr, tab := T, fs := hfs, fn := fun _ => rfl, nex := passes_of rfl, xs := fun y hy Y e1 e2 => hxs y hy Y e1 e2, hs := hhs, stk := rfl, frm := rfl }
  refine ⟨_, ssok (np := fd.np) fd.body (pins svs) _ _ _ _ x (fun j hj => ?_) D0.body, F, _, start_er hfd ag (by rw [hlen, D0.np]; exact hpl), ?_⟩
  · obtain ⟨sv, h1, _⟩ := pins_mem.mp hj
    rw [← hsl]; exact (List.getElem?_eq_some_iff.mp h1).1
  · rw [show N.length - svs.length = fd.ns - fd.np by rw [D0.ns, hsl]]
    have ow1 : ∀ b, OwnA (svs.map some ++ List.replicate (fd.ns - fd.np) none) (L2.start N vs) b → ArgA vs svs b := fun b ⟨i, d, h1, h2⟩ => by
      rw [env_at] at h1
      have hi : i < vs.length := by rw [ag.len]; exact (List.getElem?_eq_some_iff.mp h1).1
      rw [start_lt hi] at h2
      exact ⟨i, d, Option.some.inj h2, h1⟩
    have outs : ∀ {F' H' σd' σ'}, Ns ⟨K, w⟩ True (· ∈ pins svs) F H (svs.map some ++ List.replicate (fd.ns - fd.np) none) (L2.start N vs) F' H' σd' σ' → Outs ⟨K, w⟩ F' H' vs svs (σd'.take fd.np) := fun {F' H' σd' σ'} ns i v d h1 h2 => by
      have hi : i < svs.length := (List.getElem?_eq_some_iff.mp h2).1
      have hv : i < vs.length := by rw [ag.len]; exact hi
      obtain ⟨q1, q2⟩ := ns.st i (pins_mem.mpr ⟨_, h2, by intro z; cases z⟩)
      obtain ⟨sv', z', m'⟩ := q2 _ (env_at.mpr h2) (by intro z; cases z)
      obtain ⟨u, g1, g2⟩ := ns.er.at_ i sv' z'
      rw [q1, start_lt hv, h1] at g1
      cases g1
      exact ⟨sv', by rw [take_at (by rw [← hsl]; exact hi)]; exact z', m', g2⟩
    have ret : ∀ {F' H' v sv}, RetV ⟨K, w⟩ fd.np H (svs.map some ++ List.replicate (fd.ns - fd.np) none) (L2.start N vs) F' H' v sv → Res ⟨K, w⟩ H F' H' v sv := fun {F' H' v sv} r => by
      obtain ⟨m, d⟩ := sv
      cases m with
      | frz => exact r
      | lck => exact r
      | own =>
        obtain ⟨b, q, nf, hn, ct⟩ := r
        refine ⟨b, q, nf, ?_, ct⟩
        rcases hn with hn | ⟨i, d0, hi, h1, _⟩
        · exact hn
        · rw [env_at] at h1
          have := (List.getElem?_eq_some_iff.mp h1).1
          omega
    cases e1 : evSS C (callF C Γ n) fd.np (pins svs) fd.body (svs.map some ++ List.replicate (fd.ns - fd.np) none) with
    | bad => rw [e1] at h; exact h
    | exc c s' =>
      rw [e1] at h
      exact fun F' H' σ' Ca ns g => h F' H' Ca (ns.le.more ow1) (outs ns) g
    | ok fl =>
      rw [e1] at h
      cases fl with
      | nx s' => exact fun F' H' σ' ns => h F' H' .non (ns.le.more ow1) (outs ns) .non
      | bk s' => exact h.elim
      | ct s' => exact h.elim
      | rt sv s' => exact fun F' H' σ' v ns r => h F' H' v (ns.le.more ow1) (outs ns) (ret r)

/-! ### all the defs of a text -/
structure DefE where
  name : Str
  fd : FD
  N : List Str
  P : List Str
  st : Stmt
def look (ds : List DefE) (f : Str) : Option FD := (ds.find? fun e => decide (e.name = f)).map (·.fd)
/-- what the top's facts say of a def -/
def DefF (K : PySem.W.Frag) (e : DefE) (a : Addr) (fdd : FuncData) : Prop := PySem.W.nsIn K mainGlobals e.name = some (some (.ref a)) ∧ L2.Fun K e.name e.name e.st a fdd ∧ BindsF K fdd e.P e.name
theorem tb_all {ds : List DefE} {fs xs : List Str} {hs : List (Str × Str × Bool)} {h0 : Heap} (KX : K.In h0) (G : h0.Ns mainGlobals mg) (hd : ∀ e ∈ ds, mtDef fs xs hs e.N e.P e.fd e.st = true ∧ ∃ a fdd, DefF K e a fdd) (hfs : ∀ g ∈ fs, (look ds g).isSome = true)
    (hxs : ∀ x ∈ xs, ∀ X : Cx, X.K = K → X.mg = mg → ExcName X x) (hhs : ∀ x y b, (x, y, b) ∈ hs → ∃ Cx Cy, mg x = some (.ref Cx) ∧ mg y = some (.ref Cy) ∧ PySem.W.exmOne K (.ref Cx) (.ref Cy) = some b) (con : ∀ x d, C x = some d → ∃ v u, mg x = some u ∧ RelV v u ∧ ∀ F H, Rp ⟨K, w⟩ F H v d) (blt : ∀ x ∈ blts, mg x = none) : ∀ n, Tb P w ⟨K, w⟩ mg base C (look ds) n := by
  have fnd : ∀ f fd, look ds f = some fd → ∃ e ∈ ds, e.name = f ∧ e.fd = fd := fun f fd h => by
    obtain ⟨e, h1, h2⟩ := Option.map_eq_some_iff.mp h
    exact ⟨e, List.mem_of_find?_eq_some h1, by simpa using List.find?_some h1, h2⟩
  intro n
  induction n with
  | zero =>
    refine ⟨fun f fd h => ?_, con, blt⟩
    obtain ⟨e, he, rfl, rfl⟩ := fnd f fd h
    obtain ⟨hm, a, fdd, h1, h2, h3⟩ := hd e he
    refine ⟨a, fdd, e.P, PySem.W.mg_of KX G h1, h2.kp, h3, ?_⟩
    have no : ∀ vs H Q E, ¬ spF ⟨K, w⟩ mg e.fd.np (callF C (look ds) 0 e.name) vs H Q E := fun vs H Q E z => by
      obtain ⟨_, _, _, _, _, z⟩ := z
      exact z
    exact ⟨fun vs H Q E z => absurd z (no vs H Q E), fun A outer s H args us vs Q E _ _ _ _ z => absurd z (no vs H Q E)⟩
  | succ n ih =>
    refine ⟨fun f fd h => ?_, con, blt⟩
    have h' := h
    obtain ⟨e, he, rfl, rfl⟩ := fnd f fd h
    obtain ⟨hm, a, fdd, h1, h2, h3⟩ := hd e he
    exact ⟨a, fdd, e.P, PySem.W.mg_of KX G h1, h2.kp, h3, def_ok h2 hm h' ih hfs hxs hhs⟩
end
end RH
set_option maxRecDepth 100000
set_option maxHeartbeats 4000000
/-! A law's end. -/
namespace RH
open PySem PySem.Spec L2

/-! ### the top's facts -/
def FnF (K : PySem.W.Frag) (x : Str) (st : Stmt) (ps : List Str) : Prop := ∃ a fdd, PySem.W.nsIn K mainGlobals x = some (some (.ref a)) ∧ L2.Fun K x x st a fdd ∧ BindsF K fdd ps x
theorem mkF {K : PySem.W.Frag} {x : Str} {st : Stmt} {ps : List Str} {a : Addr} {oc : Value} {od an : Option Addr} {osl : Array (Option Value)} {kV doc pm cdv ct : Value} (nk : kwOf x = none) (h : PySem.W.nsIn K mainGlobals x = some (some (.ref a)))
    (l : K.lookup a = some ⟨oc, od, .func (PySem.W.fnOf x x (defArgs st) (defBody st) (defScope st) .none kV doc pm an cdv ct), osl⟩) (c : PySem.W.codeIn K cdv x = true) (k : PySem.W.keepIn K (.ref a) = true)
    (b : ∀ (kV doc pm : Value) (an : Option Addr) (cdv ct : Value) (us : List Value), us.length = ps.length → bindArgs (PySem.W.fnOf x x (defArgs st) (defBody st) (defScope st) .none kV doc pm an cdv ct) ⟨us, []⟩ = pure (ps.zip us)) : FnF K x st ps :=
  ⟨a, _, h, fun_mk l c k, by unfold BindsF; rw [nk]; exact (fun_mk l c k).binds b⟩
mutual
def conIs (K : PySem.W.Frag) : D → Value → Bool
  | .int i, u => (match u with | .int j _ => decide (i = j) | _ => false)
  | .bool i, u => (match u with | .bool j => decide (i = j) | _ => false)
  | .str x, u => (match u with | .str y _ => decide (x = y) | _ => false)
  | .tuple ds, u => (match u with
    | .ref a => (match K.lookup a with
      | some ⟨.type t, _, .seq its _, _⟩ => decide (t = "tuple") && decide (its.size ≤ 1000) && conIsL K ds its.toList
      | _ => false)
    | _ => false)
  | _, _ => false
def conIsL (K : PySem.W.Frag) : List D → List Value → Bool
  | [], us => us.isEmpty
  | d :: ds, us => (match us with
    | u :: us => conIs K d u && conIsL K ds us
    | [] => false)
end
mutual
theorem conIs_ok {K : PySem.W.Frag} {w : World} : ∀ (d : D) (u : Value), conIs K d u = true → ∃ v, RelV v u ∧ ∀ F H, Rp ⟨K, w⟩ F H v d
  | .int i, u, h => by
    unfold conIs at h
    split at h
    · rename_i j t
      have e : i = j := of_decide_eq_true h
      subst e
      exact ⟨.int i, ⟨t, rfl⟩, fun _ _ => .int i⟩
    · cases h
  | .str x, u, h => by
    unfold conIs at h
    split at h
    · rename_i j t
      have e : x = j := of_decide_eq_true h
      subst e
      exact ⟨.str x, ⟨t, rfl⟩, fun _ _ => .str x⟩
    · cases h
  | .tuple ds, u, h => by
    unfold conIs at h
    split at h
    · rename_i a
      split at h
      · rename_i t dd its n sl e
        simp only [Bool.and_eq_true, decide_eq_true_eq] at h
        obtain ⟨⟨rfl, h2⟩, h3⟩ := h
        obtain ⟨vs, r1, r2⟩ := conIsL_ok ds _ h3
        exact ⟨.ref a, rfl, fun F H => .tup (.inr ⟨_, its, n, e, rfl, rfl, by rw [sizeLine_eq]; omega, r1⟩) (r2 F H)⟩
      · cases h
    · cases h
  | .none, u, h => by unfold conIs at h; cases h
  | .bool i, u, h => by
    unfold conIs at h
    split at h
    · rename_i j
      have e : i = j := of_decide_eq_true h
      subst e
      exact ⟨.bl i, rfl, fun _ _ => .bl i⟩
    · cases h
  | .list _, u, h => by unfold conIs at h; cases h
  | .dict _, u, h => by unfold conIs at h; cases h
theorem conIsL_ok {K : PySem.W.Frag} {w : World} : ∀ (ds : List D) (us : List Value), conIsL K ds us = true → ∃ vs, Vals vs us ∧ ∀ F H, Rps ⟨K, w⟩ F H vs ds
  | [], us, h => by
    unfold conIsL at h
    cases us with
    | nil => exact ⟨[], .nil, fun _ _ => .nil⟩
    | cons a b => cases h
  | d :: ds, us, h => by
    unfold conIsL at h
    split at h
    · simp only [Bool.and_eq_true] at h
      obtain ⟨v, q1, q2⟩ := conIs_ok d _ h.1
      obtain ⟨vs, g1, g2⟩ := conIsL_ok ds _ h.2
      exact ⟨v :: vs, .cons q1 g1, fun F H => .cons (q2 F H) (g2 F H)⟩
    · cases h
end
/-- a def with one keyword-only parameter behind two others -/
theorem mkFK {K : PySem.W.Frag} {x k : Str} {d : D} {st : Stmt} {ps : List Str} {a D0 : Addr} {oc u : Value} {od an : Option Addr} {osl : Array (Option Value)} {doc pm cdv ct : Value} (nk : kwOf x = some (k, d)) (h : PySem.W.nsIn K mainGlobals x = some (some (.ref a)))
    (l : K.lookup a = some ⟨oc, od, .func (PySem.W.fnOf x x (defArgs st) (defBody st) (defScope st) .none (.ref D0) doc pm an cdv ct), osl⟩) (c : PySem.W.codeIn K cdv x = true) (kp : PySem.W.keepIn K (.ref a) = true)
    (kd : PySem.W.nsIn K D0 k = some (some u)) (cu : conIs K d u = true) (h3 : ps.length = 3)
    (b1 : ∀ (D1 : Addr) (doc pm : Value) (an : Option Addr) (cdv ct : Value) (us ks : List Value), us.length = 2 → ks.length = 1 → KwChain D1 ([k].zip ks) (bindArgs (PySem.W.fnOf x x (defArgs st) (defBody st) (defScope st) .none (.ref D1) doc pm an cdv ct) ⟨us, []⟩) (ps.zip (us ++ ks)))
    (b2 : ∀ (kV doc pm : Value) (an : Option Addr) (cdv ct : Value) (us ws : List Value), us.length = 2 → ws.length = 1 → bindArgs (PySem.W.fnOf x x (defArgs st) (defBody st) (defScope st) .none kV doc pm an cdv ct) ⟨us, [k].zip ws⟩ = pure (ps.zip (us ++ ws))) : FnF K x st ps := by
  refine ⟨a, _, h, fun_mk l c kp, ?_⟩
  unfold BindsF
  rw [nk]
  have g : ∀ w : World, ∃ v, RelV v u ∧ ∀ F H, Rp ⟨K, w⟩ F H v d := fun w => conIs_ok (w := w) d u cu
  have rv : ∃ v, RelV v u ∧ ∀ w F H, Rp ⟨K, w⟩ F H v d := by
    cases d with
    | int i => cases u <;> first | (exact ⟨.int i, ⟨_, by unfold conIs at cu; cases of_decide_eq_true cu; rfl⟩, fun _ _ _ => .int i⟩) | (unfold conIs at cu; cases cu)
    | bool i => cases u <;> first | (exact ⟨.bl i, by unfold conIs at cu; cases of_decide_eq_true cu; rfl, fun _ _ _ => .bl i⟩) | (unfold conIs at cu; cases cu)
    | none => unfold conIs at cu; cases cu
    | str i => cases u <;> first | (exact ⟨.str i, ⟨_, by unfold conIs at cu; cases of_decide_eq_true cu; rfl⟩, fun _ _ _ => .str i⟩) | (unfold conIs at cu; cases cu)
    | list _ => unfold conIs at cu; cases cu
    | dict _ => unfold conIs at cu; cases cu
    | tuple ds => exact absurd nk (by unfold kwOf; split <;> (try split) <;> simp)
  obtain ⟨v, rv1, rv2⟩ := rv
  have FD : FunD K x x (defArgs st) (defBody st) (defScope st) [] [(k, v)] a (PySem.W.fnOf x x (defArgs st) (defBody st) (defScope st) .none (.ref D0) doc pm an cdv ct) :=
    ⟨⟨oc, od, .none, .ref D0, doc, pm, an, cdv, ct, osl, rfl, l, c, .inl ⟨rfl, rfl⟩, .inr ⟨D0, rfl, fun q hq => by cases List.mem_singleton.mp hq; exact ⟨u, kd, rv1⟩⟩⟩, kp⟩
  obtain ⟨ds, vd, bd⟩ := FD.binds0 (ps := ps) 2 (by simp) (by rw [h3]; rfl) fun D1 doc pm an cdv ct us ks h1 h2 => b1 D1 doc pm an cdv ct us ks h1 h2
  exact ⟨⟨v, ds, vd, rv2, bd⟩, ⟨fun s us ws _ h1 h2 => .of_eq (b2 _ _ _ _ _ _ us ws h1 h2), fun r1 r2 => r1.append r2⟩⟩
def ConF (K : PySem.W.Frag) (x : Str) (d : D) : Prop := ∃ u, PySem.W.nsIn K mainGlobals x = some (some u) ∧ conIs K d u = true
theorem mkC {K : PySem.W.Frag} {x : Str} {d : D} {u : Value} (h : PySem.W.nsIn K mainGlobals x = some (some u)) (c : conIs K d u = true) : ConF K x d := ⟨u, h, c⟩
theorem mkB {K : PySem.W.Frag} {x : Str} (h : PySem.W.nsIn K mainGlobals x = some none) : PySem.W.nsIn K mainGlobals x = some none := h
/-- an own exception class -/
def ExcF (K : PySem.W.Frag) (x : Str) : Prop := ∃ C0, PySem.W.nsIn K mainGlobals x = some (some (.ref C0)) ∧ ∀ X : Cx, X.K = K → X.mg x = some (.ref C0) → ∀ (m : Str) (j : Nat) (p p2 pos : Pos), Gl X x → (x == ("__debug__" : Str)) = false → PMk X (.Call (.Name x p) [.Constant (.str m) j p2] [] pos) (fun _ H Q => Q (.ref C0) none H)
theorem mkX {K : PySem.W.Frag} {x : Str} {C0 : Addr} {bmB : List Value} {B newId initId : String} (Fb : ExcBaseFacts B newId initId bmB) (h : PySem.W.nsIn K mainGlobals x = some (some (.ref C0))) (q : PySem.W.excIn K C0 bmB newId = true) (k : PySem.W.keepIn K (.ref C0) = true)
    (s : PySem.W.subIn K (.ref C0) (.type "BaseException") = some true) (t : PySem.W.typeIn K (.ref C0) = some (.type "type")) : ExcF K x :=
  ⟨C0, h, fun X e hm m j p p2 pos hg hd => by subst e; exact pmk_own Fb q hm k (raises_own s t) hg hd⟩
/-- what the text's excepts catch -/
def ExmF (K : PySem.W.Frag) (p : Str × Str × Bool) : Prop := ∃ Cx Cy, PySem.W.nsIn K mainGlobals p.1 = some (some (.ref Cx)) ∧ PySem.W.nsIn K mainGlobals p.2.1 = some (some (.ref Cy)) ∧ PySem.W.exmOne K (.ref Cx) (.ref Cy) = some p.2.2
theorem mkH {K : PySem.W.Frag} {x y : Str} {b : Bool} {Cx Cy : Addr} (h1 : PySem.W.nsIn K mainGlobals x = some (some (.ref Cx))) (h2 : PySem.W.nsIn K mainGlobals y = some (some (.ref Cy))) (h3 : PySem.W.exmOne K (.ref Cx) (.ref Cy) = some b) : ExmF K (x, y, b) := ⟨Cx, Cy, h1, h2, h3⟩
def noLst (K : PySem.W.Frag) : Bool := K.all fun p => !(p.2.cls == .type "list")
theorem noLst_ok {K : PySem.W.Frag} (h : noLst K = true) {a : Addr} {o : Obj} (e : K.lookup a = some o) : o.cls ≠ .type "list" := by
  intro z
  have hm : ∀ (K : PySem.W.Frag), K.lookup a = some o → (a, o) ∈ K := by
    intro K
    induction K with
    | nil => intro h; cases h
    | cons p r ih =>
      intro h
      obtain ⟨b, ob⟩ := p
      rw [List.lookup_cons] at h
      split at h
      · rename_i q
        have : a = b := by simpa using q
        subst this
        cases h
        exact List.mem_cons_self
      · exact List.mem_cons_of_mem _ (ih h)
  have hm := hm K e
  have := List.all_eq_true.mp h _ hm
  rw [z] at this
  cases this
def AllP {α : Type} (p : α → Prop) : List α → Prop
  | [] => True
  | a :: l => p a ∧ AllP p l
theorem AllP.of {α : Type} {p : α → Prop} : ∀ {l : List α}, AllP p l → ∀ a ∈ l, p a
  | [], _, a, h => by cases h
  | b :: l, ⟨h1, h2⟩, a, h => by
    rcases List.mem_cons.mp h with e | h
    · rw [e]; exact h1
    · exact h2.of a h
def lookC (cs : List (Str × D)) (x : Str) : Option D := (cs.find? fun p => decide (p.1 = x)).map (·.2)
structure TopF (K : PySem.W.Frag) (ds : List DefE) (cs : List (Str × D)) (xs : List Str) (hs : List (Str × Str × Bool)) : Prop where
  fn : AllP (fun e => FnF K e.name e.st e.P) ds
  con : AllP (fun p => ConF K p.1 p.2) cs
  exc : AllP (fun x => ExcF K x) xs
  exm : AllP (fun p => ExmF K p) hs
  blt : AllP (fun x => PySem.W.nsIn K mainGlobals x = some none) blts
  nl : noLst K = true
section
variable {P : Program} {w : World} {K : PySem.W.Frag} {mg : Str → Option Value} {base h0 : Heap} {ds : List DefE} {cs : List (Str × D)} {fs xs : List Str} {hs : List (Str × Str × Bool)}
theorem TopF.exms (T : TopF K ds cs xs hs) (KX : K.In h0) (G : h0.Ns mainGlobals mg) (x y : Str) (b : Bool) (h : (x, y, b) ∈ hs) : ∃ Cx Cy, mg x = some (.ref Cx) ∧ mg y = some (.ref Cy) ∧ PySem.W.exmOne K (.ref Cx) (.ref Cy) = some b := by
  obtain ⟨Cx, Cy, h1, h2, h3⟩ := T.exm.of _ h
  exact ⟨Cx, Cy, PySem.W.mg_of KX G h1, PySem.W.mg_of KX G h2, h3⟩
theorem TopF.tb (T : TopF K ds cs xs hs) (KX : K.In h0) (G : h0.Ns mainGlobals mg) (hd : AllP (fun e => mtDef fs xs hs e.N e.P e.fd e.st = true) ds) (hfs : ∀ g ∈ fs, (look ds g).isSome = true) (n : Nat) : Tb P w ⟨K, w⟩ mg base (lookC cs) (look ds) n := by
  refine tb_all (fs := fs) (xs := xs) (hs := hs) KX G (fun e he => ?_) hfs (fun x hx X e1 e2 => ?_) (T.exms KX G) (fun x d h => ?_) (fun x hx => ?_) n
  · obtain ⟨a, fdd, q⟩ := T.fn.of e he
    exact ⟨hd.of e he, a, fdd, q⟩
  · obtain ⟨C0, q1, q2⟩ := T.exc.of x hx
    have hm := PySem.W.mg_of KX G q1
    exact ⟨C0, by rw [e2]; exact hm, q2 X e1 (by rw [e2]; exact hm)⟩
  · obtain ⟨p, h1, h2⟩ := Option.map_eq_some_iff.mp h
    obtain ⟨u, q1, q2⟩ := T.con.of p (List.mem_of_find?_eq_some h1)
    have e : p.1 = x := by simpa using List.find?_some h1
    rw [h2] at q2
    obtain ⟨v, g1, g2⟩ := conIs_ok d u q2
    exact ⟨v, u, PySem.W.mg_of KX G (by rw [← e]; exact q1), g1, g2⟩
  · exact PySem.W.mg_none_of KX G (T.blt.of x hx)
end
def spLaw (K : PySem.W.Frag) (most : Nat) : Sp := fun vs H Q _ => ∃ (a : Addr) (ns : List Int), vs = [.ref a] ∧ SqL K H a (ns.map V.int) ∧ ns.length ≤ most ∧ ∀ H', Q (.bl true) H'
theorem rps_ints {K : KW} {F : Addr → Prop} {H : Hp} : ∀ (ns : List Int), Rps K F H (ns.map V.int) (ns.map PyData.int)
  | [] => .nil
  | n :: r => .cons (.int n) (rps_ints r)
theorem law_walk {l : PySem.W.OpenLaw} {q : Program} {loose : List Str} {XP : (Str → Option Value) → Heap → Prop} {YP : World → Heap → Prop} {d : DefRec} {K : Params → PySem.W.Frag} {most N : Nat} {ds : List DefE} {cs : List (Str × D)} {fs xs : List Str} {hs : List (Str × Str × Bool)} {law : DefE}
    (hn : l.most = some most) (hn2 : most ≤ sizeLine) (hdf : d.params.defaults = []) (hr : Room N callerA) (hname : d.name = law.name) (hlaw : look ds law.name = some law.fd) (hmem : law ∈ ds) (hP : law.P = [("script" : Str)])
    (hY : ∀ (w : World) (h : Heap), YP w h → (K w.params).In h)
    (T : ∀ (w : World) (h : Heap), (K w.params).In h → TopF (K w.params) ds cs xs hs)
    (hb : ∀ (kV doc pm : Value) (an : Option Addr) (cdv ct u : Value), bindArgs (PySem.W.fnOf law.name law.name (defArgs law.st) (defBody law.st) (defScope law.st) .none kV doc pm an cdv ct) ⟨[u], []⟩ = pure [(("script" : Str), u)])
    (hd : AllP (fun e => mtDef fs xs hs e.N e.P e.fd e.st = true) ds) (hfs : ∀ g ∈ fs, (look ds g).isSome = true)
    (plain : ∀ ns : List Int, ns.length ≤ most → ∃ outs, callF (lookC cs) (look ds) N law.name [fz (.list (ns.map PyData.int))] = .ok (fz (.bool true)) outs) :
    PySem.W.WalkO q loose XP YP l.row.toRowW d [] (fun f vs => PySem.call f vs) := by
  refine L2.walk_of (n := most) (k := N) (x := "script") (CX := fun w => L2.CX l.prog w) (sp := fun w => spLaw (K w.params) most) hn hn2 hdf hr hY (fun w mg fa h KX G hmg => ?_) (fun _ _ a ns hl _ hS => ⟨a, ns, rfl, hS, hl, fun _ => rfl⟩) fun _ _ _ _ _ z => ?_
  · have TF := T w h KX
    obtain ⟨a, fdd, h1, h2, h3⟩ := TF.fn.of law hmem
    have e : a = fa := by
      have := PySem.W.mg_of KX G h1
      rw [hname] at hmg
      rw [hmg] at this
      cases this; rfl
    subst e
    refine ⟨fdd, fun s u => ?_, fun base _ _ => ?_⟩
    · obtain ⟨oc, od, kV, doc, pm, an, cdv, ct, osl, rfl, _, _⟩ := h2.ex
      exact .of_eq (hb kV doc pm an cdv ct u)
    · obtain ⟨a', fdd', ps', g1, g2, g3, g4⟩ := (TF.tb (P := l.prog) (w := w) (base := base) KX G hd hfs N).fn law.name law.fd hlaw
      have : FnOk l.prog w (K w.params) mg base (L2.CX l.prog w) N a fdd ["script"] (spF ⟨K w.params, w⟩ mg law.fd.np (callF (lookC cs) (look ds) N law.name)) := by
        have D0 := mtDef_ok (hd.of law hmem)
        cases N with
        | zero =>
          have no : ∀ vs H Q E, ¬ spF ⟨K w.params, w⟩ mg law.fd.np (callF (lookC cs) (look ds) 0 law.name) vs H Q E := fun vs H Q E z => by
            obtain ⟨_, _, _, _, _, z⟩ := z
            exact z
          exact ⟨fun vs H Q E z => absurd z (no vs H Q E), fun A outer s H args us vs Q E _ _ _ _ z => absurd z (no vs H Q E)⟩
        | succ n =>
          rw [← hP]
          refine def_ok h2 (hd.of law hmem) hlaw (TF.tb (P := l.prog) (w := w) (base := base) KX G hd hfs n) hfs (fun x hx X e1 e2 => ?_) (TF.exms KX G)
          obtain ⟨C0, q1, q2⟩ := TF.exc.of x hx
          have hm := PySem.W.mg_of KX G q1
          exact ⟨C0, by rw [e2]; exact hm, q2 X e1 (by rw [e2]; exact hm)⟩
      refine this.imp fun vs H Q E z => ?_
      obtain ⟨b, ns, rfl, hS, hl, hq⟩ := z
      have D0 := mtDef_ok (hd.of law hmem)
      obtain ⟨outs, ho⟩ := plain ns hl
      have rd : Rd H b (.lst (ns.map V.int)) := by
        rcases hS with hS | ⟨o, its, n, e, hc, _⟩
        · exact hS
        · exact absurd hc (noLst_ok TF.nl e)
      refine ⟨by rw [D0.np, hP]; rfl, (fun x => x = b), [fz (.list (ns.map PyData.int))], fun x hx => ?_, ⟨rfl, fun i v sv h1 h2 => ?_, fun i j x sv sw h1 h2 h3 h4 m1 m2 => ?_⟩, ?_⟩
      · rw [hx]
        rcases rd with rd | ⟨o, rd⟩ <;> (rw [rd]; exact fun z => nomatch z)
      · cases i with
        | zero =>
          cases h1; cases h2
          exact .lst rfl rd (rps_ints ns)
        | succ i => simp at h1
      · cases i with
        | zero => cases h3; exact absurd rfl m1
        | succ i => simp at h1
      · rw [ho]
        intro F' H' v l o r
        have : v = .bl true := by
          have r' : Rp ⟨K w.params, w⟩ F' H' v (.bool true) := r
          cases r'; rfl
        rw [this]
        exact hq H'
  · obtain ⟨_, _, _, _, _, _, _, _, _, _, _, _, z⟩ := z
    exact z
end RH
set_option maxRecDepth 100000
set_option maxHeartbeats 4000000
/-! Rows for the plain parts: the meaning of the mini language, step by step. -/
namespace RH
open PySem L2

@[simp] theorem putOuts_nil (σ : EnvD) (o : EnvD) : putOuts σ [] o = σ := by cases o <;> rfl
@[simp] theorem putOuts_val (σ : EnvD) (a : SV) (os : List Opd) (o : EnvD) : putOuts σ (.val a :: os) o = putOuts σ os o.tail := by
  cases o with
  | nil => cases os <;> first | rfl | (rename_i x _; cases x <;> rfl)
  | cons x r => rfl
@[simp] theorem putOuts_slot (σ : EnvD) (i : Nat) (os : List Opd) (x : Option SV) (o : EnvD) : putOuts σ (.slot i :: os) (x :: o) = putOuts (setOwn σ i x) os o := rfl
@[simp] theorem slotAt_0 (x : Option SV) (r : EnvD) : slotAt (x :: r) 0 = x := rfl
@[simp] theorem slotAt_s (x : Option SV) (r : EnvD) (i : Nat) : slotAt (x :: r) (i + 1) = slotAt r i := rfl
@[simp] theorem slotAt_n (i : Nat) : slotAt [] i = none := by unfold slotAt; simp
/-- reading by what is there -/
def rdVk (i : Nat) (σ : EnvD) : Option SV → R (SV × EnvD)
  | some ⟨.frz, d⟩ => .ok (fz d, σ)
  | some ⟨.own, d⟩ => .ok (fz d, σ.set i (some (fz d)))
  | _ => .bad
def rdOk (i : Nat) (σ : EnvD) : Option SV → R (Opd × EnvD)
  | some ⟨.frz, d⟩ => .ok (.val (fz d), σ)
  | some _ => .ok (.slot i, σ)
  | none => .bad
@[simp] theorem rdV_k (i : Nat) (σ : EnvD) : rdV i σ = rdVk i σ (slotAt σ i) := rfl
@[simp] theorem rdO_k (i : Nat) (σ : EnvD) : rdO i σ = rdOk i σ (slotAt σ i) := rfl
@[simp] theorem rdVk_f (i : Nat) (σ : EnvD) (d : D) : rdVk i σ (some ⟨.frz, d⟩) = .ok (fz d, σ) := rfl
@[simp] theorem rdVk_o (i : Nat) (σ : EnvD) (d : D) : rdVk i σ (some ⟨.own, d⟩) = .ok (fz d, σ.set i (some (fz d))) := rfl
@[simp] theorem rdOk_f (i : Nat) (σ : EnvD) (d : D) : rdOk i σ (some ⟨.frz, d⟩) = .ok (.val (fz d), σ) := rfl
@[simp] theorem rdOk_o (i : Nat) (σ : EnvD) (d : D) : rdOk i σ (some ⟨.own, d⟩) = .ok (.slot i, σ) := rfl
@[simp] theorem rdOk_l (i : Nat) (σ : EnvD) (d : D) : rdOk i σ (some ⟨.lck, d⟩) = .ok (.slot i, σ) := rfl
@[simp] theorem getO_v (σ : EnvD) (s : SV) : getO σ (.val s) = some s := rfl
@[simp] theorem getO_s (σ : EnvD) (i : Nat) : getO σ (.slot i) = slotAt σ i := rfl
@[simp] theorem getOs_n (σ : EnvD) : getOs σ [] = some [] := rfl
@[simp] theorem getOs_c (σ : EnvD) (o : Opd) (os : List Opd) : getOs σ (o :: os) = (getO σ o).bind fun x => (getOs σ os).map (x :: ·) := rfl
@[simp] theorem ownSlots_n (σ : EnvD) : ownSlots σ [] = [] := rfl
@[simp] theorem ownSlots_v (σ : EnvD) (s : SV) (os : List Opd) : ownSlots σ (.val s :: os) = ownSlots σ os := rfl
def ownK (i : Nat) : Option SV → List Nat
  | some ⟨.frz, _⟩ => []
  | _ => [i]
@[simp] theorem ownSlots_s (σ : EnvD) (i : Nat) (os : List Opd) : ownSlots σ (.slot i :: os) = ownK i (slotAt σ i) ++ ownSlots σ os := rfl
@[simp] theorem ownK_o (i : Nat) (d : D) : ownK i (some ⟨.own, d⟩) = [i] := rfl
@[simp] theorem ownK_l (i : Nat) (d : D) : ownK i (some ⟨.lck, d⟩) = [i] := rfl
def setK (σ : EnvD) (i : Nat) (o : Option SV) : Option SV → EnvD
  | some ⟨.own, _⟩ => σ.set i o
  | _ => σ
@[simp] theorem setOwn_k (σ : EnvD) (i : Nat) (o : Option SV) : setOwn σ i o = setK σ i o (slotAt σ i) := rfl
@[simp] theorem setK_o (σ : EnvD) (i : Nat) (o : Option SV) (d : D) : setK σ i o (some ⟨.own, d⟩) = σ.set i o := rfl
@[simp] theorem setK_l (σ : EnvD) (i : Nat) (o : Option SV) (d : D) : setK σ i o (some ⟨.lck, d⟩) = σ := rfl
@[simp] theorem setK_f (σ : EnvD) (i : Nat) (o : Option SV) (d : D) : setK σ i o (some ⟨.frz, d⟩) = σ := rfl
@[simp] theorem asB_b (m : Md) (b : Bool) : asB ⟨m, .bool b⟩ = some b := rfl
@[simp] theorem asI_i (m : Md) (i : Int) : asI ⟨m, .int i⟩ = some i := rfl
@[simp] theorem isVar_var (i : Nat) : isVar (.var i) = some i := rfl

section
variable (C : Str → Option D) (cf : Str → List SV → RF)
/-! what follows, by names (so that simp works from the front alone) -/
def valK : SV × EnvD → R (Opd × EnvD) | (v, σ) => .ok (.val v, σ)
def opK2 (σ : EnvD) : Option SV → R (SV × EnvD)
  | some r => .ok (r, σ)
  | none => .bad
def opK1 (o : Op) (σ : EnvD) : Option (List SV) → R (SV × EnvD)
  | some svs => opK2 σ (opD o (svs.map (·.d)))
  | none => .bad
def opK (o : Op) : List Opd × EnvD → R (SV × EnvD) | (os, σ) => opK1 o σ (getOs σ os)
def gloK (σ : EnvD) : Option D → R (SV × EnvD)
  | some d => .ok (fz d, σ)
  | none => .bad
def andK1 (b : ME) (σ : EnvD) : Option Bool → R (SV × EnvD)
  | some c => if c = true then evV C cf b σ else .ok (fz (.bool false), σ)
  | none => .bad
def andK (b : ME) : SV × EnvD → R (SV × EnvD) | (v, σ) => andK1 C cf b σ (asB v)
def orK1 (b : ME) (σ : EnvD) : Option Bool → R (SV × EnvD)
  | some c => if c = true then .ok (fz (.bool true), σ) else evV C cf b σ
  | none => .bad
def orK (b : ME) : SV × EnvD → R (SV × EnvD) | (v, σ) => orK1 C cf b σ (asB v)
def notK1 (σ : EnvD) : Option Bool → R (SV × EnvD)
  | some c => .ok (fz (.bool (!c)), σ)
  | none => .bad
def notK : SV × EnvD → R (SV × EnvD) | (v, σ) => notK1 σ (asB v)
def chK5 (o2 : Op) (w : SV) : SV × EnvD → R (SV × EnvD) | (z, σ) => opK2 σ (opD o2 [w.d, z.d])
def chK4 (o2 : Op) (c : ME) (w : SV) (σ : EnvD) : Option Bool → R (SV × EnvD)
  | some t => if t = true then (evV C cf c σ).bind (chK5 o2 w) else .ok (fz (.bool false), σ)
  | none => .bad
def chK3 (o2 : Op) (c : ME) (w : SV) (σ : EnvD) : Option SV → R (SV × EnvD)
  | some r => chK4 C cf o2 c w σ (asB r)
  | none => .bad
def chK2 (o1 o2 : Op) (c : ME) (v : SV) : SV × EnvD → R (SV × EnvD) | (w, σ) => chK3 C cf o2 c w σ (opD o1 [v.d, w.d])
def chK (o1 o2 : Op) (b c : ME) : SV × EnvD → R (SV × EnvD) | (v, σ) => (evV C cf b σ).bind (chK2 C cf o1 o2 c v)
def ifK1 (a b : ME) (σ : EnvD) : Option Bool → R (SV × EnvD)
  | some t => if t = true then evV C cf a σ else evV C cf b σ
  | none => .bad
def ifK (a b : ME) : SV × EnvD → R (SV × EnvD) | (v, σ) => ifK1 C cf a b σ (asB v)
def tupK : List D × EnvD → R (SV × EnvD) | (ds, σ) => if ds.length ≤ sizeLine then .ok (fz (.tuple ds), σ) else .bad
def lstK : List D × EnvD → R (SV × EnvD) | (ds, σ) => if ds.length ≤ sizeLine then .ok (ow (.list ds), σ) else .bad
def dctK1 (σ : EnvD) : Option D → R (SV × EnvD)
  | some d => .ok (ow d, σ)
  | none => .bad
def dctK : List D × EnvD → R (SV × EnvD) | (ds, σ) => dctK1 σ (dctD ds)
/-- a call's end -/
def callK (p : List Opd × EnvD) : RF → R (SV × EnvD)
  | .ok r outs => .ok (r, putOuts p.2 p.1 outs)
  | .exc c outs => .exc c (putOuts p.2 p.1 outs)
  | .bad => .bad
def clK1 (f : Str) (os : List Opd) (σ : EnvD) : Option (List SV) → R (SV × EnvD)
  | some svs => if (ownSlots σ os).Nodup then callK (os, σ) (cf f svs) else .bad
  | none => .bad
def clK (f : Str) : List Opd × EnvD → R (SV × EnvD) | (os, σ) => clK1 cf f os σ (getOs σ os)
def mtK2 (i : Nat) (σ : EnvD) : Option (D × D) → R (SV × EnvD)
  | some r => .ok (fz r.1, σ.set i (some (ow r.2)))
  | none => .bad
def mtK1 (m : Str) (i : Nat) (ds : List D) (σ : EnvD) : Option SV → R (SV × EnvD)
  | some ⟨.own, d⟩ => mtK2 i σ (methD m d ds)
  | _ => .bad
def mtK (m : Str) (i : Nat) : List D × EnvD → R (SV × EnvD) | (ds, σ) => mtK1 m i ds σ (slotAt σ i)
/-- a slice's bounds -/
def bdK1 (σ : EnvD) : Option Int → R (Option Int × EnvD)
  | some i => .ok (some i, σ)
  | none => .bad
def bdK : SV × EnvD → R (Option Int × EnvD) | (v, σ) => bdK1 σ (asI v)
def bdE (l : ME) (σ : EnvD) : R (Option Int × EnvD) := match isNoneM l with
  | true => .ok (none, σ)
  | false => (evV C cf l σ).bind bdK
def slK3 (q r : Option Int) (σ : EnvD) : Option SV → R (SV × EnvD)
  | some s => opK2 σ (slD s.d q r)
  | none => .bad
def slK2 (o : Opd) (q : Option Int) : Option Int × EnvD → R (SV × EnvD) | (r, σ) => slK3 q r σ (getO σ o)
def slK1 (h : ME) (o : Opd) : Option Int × EnvD → R (SV × EnvD) | (q, σ) => (bdE C cf h σ).bind (slK2 o q)
def slK (l h : ME) : Opd × EnvD → R (SV × EnvD) | (o, σ) => (bdE C cf l σ).bind (slK1 C cf h o)
def gdK4 (k x : SV) (σ : EnvD) : Option SV → R (SV × EnvD)
  | some s => opK2 σ (dGet [s.d, k.d, x.d])
  | none => .bad
def gdK3 (o : Opd) (k : SV) : SV × EnvD → R (SV × EnvD) | (x, σ) => gdK4 k x σ (getO σ o)
def gdK2 (x : ME) (o : Opd) : SV × EnvD → R (SV × EnvD) | (k, σ) => (evV C cf x σ).bind (gdK3 o k)
def gdK1 (k x : ME) (o : Opd) (σ : EnvD) : Option SV → R (SV × EnvD)
  | some s => if isDictD s.d then (evV C cf k σ).bind (gdK2 C cf x o) else .bad
  | none => .bad
def gdK (k x : ME) : Opd × EnvD → R (SV × EnvD) | (o, σ) => gdK1 C cf k x o σ (getO σ o)
def jnK2 (s : SV) (σ : EnvD) : Option SV → R (SV × EnvD)
  | some l => opK2 σ (dJoin [s.d, l.d])
  | none => .bad
def jnK1 (s : SV) : Opd × EnvD → R (SV × EnvD) | (o, σ) => jnK2 s σ (getO σ o)
def jnK (e : ME) : SV × EnvD → R (SV × EnvD) | (s, σ) => if isStrD s.d then (evA1 C cf e σ).bind (jnK1 s) else .bad
def vsK2 (d : D) : List D × EnvD → R (List D × EnvD) | (ds, σ) => .ok (d :: ds, σ)
def vsK (es : MEs) : SV × EnvD → R (List D × EnvD) | (v, σ) => (evVs C cf es σ).bind (vsK2 v.d)
def asK2 (o : Opd) : List Opd × EnvD → R (List Opd × EnvD) | (os, σ) => .ok (o :: os, σ)
def asK (es : MEs) : Opd × EnvD → R (List Opd × EnvD) | (o, σ) => (evAs C cf es σ).bind (asK2 o)
def ssK2 (v : SV) : List SV × EnvD → R (List SV × EnvD) | (vs, σ) => .ok (v :: vs, σ)
def ssK (es : MEs) : SV × EnvD → R (List SV × EnvD) | (v, σ) => (evSs C cf es σ).bind (ssK2 v)
def tsK1 (cs : MEs) (σ : EnvD) : Option Bool → R (Bool × EnvD)
  | some t => if t = true then evT C cf cs σ else .ok (false, σ)
  | none => .bad
def tsK (cs : MEs) : SV × EnvD → R (Bool × EnvD) | (v, σ) => tsK1 C cf cs σ (asB v)
def tbK1 (σ : EnvD) : Option Bool → R (Bool × EnvD)
  | some t => .ok (t, σ)
  | none => .bad
def tbK : SV × EnvD → R (Bool × EnvD) | (v, σ) => tbK1 σ (asB v)
section
variable (σ : EnvD)
@[simp] theorem valK_e (v : SV) : valK (v, σ) = .ok (.val v, σ) := rfl
@[simp] theorem opK2_s (r : SV) : opK2 σ (some r) = .ok (r, σ) := rfl
@[simp] theorem opK1_s (o : Op) (svs : List SV) : opK1 o σ (some svs) = opK2 σ (opD o (svs.map (·.d))) := rfl
@[simp] theorem opK_e (o : Op) (os : List Opd) : opK o (os, σ) = opK1 o σ (getOs σ os) := rfl
@[simp] theorem gloK_s (d : D) : gloK σ (some d) = .ok (fz d, σ) := rfl
@[simp] theorem andK1_s (b : ME) (c : Bool) : andK1 C cf b σ (some c) = if c = true then evV C cf b σ else .ok (fz (.bool false), σ) := rfl
@[simp] theorem andK_e (b : ME) (v : SV) : andK C cf b (v, σ) = andK1 C cf b σ (asB v) := rfl
@[simp] theorem orK1_s (b : ME) (c : Bool) : orK1 C cf b σ (some c) = if c = true then .ok (fz (.bool true), σ) else evV C cf b σ := rfl
@[simp] theorem orK_e (b : ME) (v : SV) : orK C cf b (v, σ) = orK1 C cf b σ (asB v) := rfl
@[simp] theorem notK1_s (c : Bool) : notK1 σ (some c) = .ok (fz (.bool (!c)), σ) := rfl
@[simp] theorem notK_e (v : SV) : notK (v, σ) = notK1 σ (asB v) := rfl
@[simp] theorem chK5_e (o2 : Op) (w z : SV) : chK5 o2 w (z, σ) = opK2 σ (opD o2 [w.d, z.d]) := rfl
@[simp] theorem chK4_s (o2 : Op) (c : ME) (w : SV) (t : Bool) : chK4 C cf o2 c w σ (some t) = if t = true then (evV C cf c σ).bind (chK5 o2 w) else .ok (fz (.bool false), σ) := rfl
@[simp] theorem chK3_s (o2 : Op) (c : ME) (w r : SV) : chK3 C cf o2 c w σ (some r) = chK4 C cf o2 c w σ (asB r) := rfl
@[simp] theorem chK2_e (o1 o2 : Op) (c : ME) (v w : SV) : chK2 C cf o1 o2 c v (w, σ) = chK3 C cf o2 c w σ (opD o1 [v.d, w.d]) := rfl
@[simp] theorem chK_e (o1 o2 : Op) (b c : ME) (v : SV) : chK C cf o1 o2 b c (v, σ) = (evV C cf b σ).bind (chK2 C cf o1 o2 c v) := rfl
@[simp] theorem ifK1_s (a b : ME) (t : Bool) : ifK1 C cf a b σ (some t) = if t = true then evV C cf a σ else evV C cf b σ := rfl
@[simp] theorem ifK_e (a b : ME) (v : SV) : ifK C cf a b (v, σ) = ifK1 C cf a b σ (asB v) := rfl
@[simp] theorem tupK_e (ds : List D) : tupK (ds, σ) = if ds.length ≤ sizeLine then .ok (fz (.tuple ds), σ) else .bad := rfl
@[simp] theorem lstK_e (ds : List D) : lstK (ds, σ) = if ds.length ≤ sizeLine then .ok (ow (.list ds), σ) else .bad := rfl
@[simp] theorem dctK1_s (d : D) : dctK1 σ (some d) = .ok (ow d, σ) := rfl
@[simp] theorem dctK_e (ds : List D) : dctK (ds, σ) = dctK1 σ (dctD ds) := rfl
@[simp] theorem callK_ok (p : List Opd × EnvD) (r : SV) (outs : EnvD) : callK p (.ok r outs) = .ok (r, putOuts p.2 p.1 outs) := rfl
@[simp] theorem callK_exc (p : List Opd × EnvD) (c : Str) (outs : EnvD) : callK p (.exc c outs) = .exc c (putOuts p.2 p.1 outs) := rfl
@[simp] theorem clK1_s (f : Str) (os : List Opd) (svs : List SV) : clK1 cf f os σ (some svs) = if (ownSlots σ os).Nodup then callK (os, σ) (cf f svs) else .bad := rfl
@[simp] theorem clK_e (f : Str) (os : List Opd) : clK cf f (os, σ) = clK1 cf f os σ (getOs σ os) := rfl
@[simp] theorem mtK2_s (i : Nat) (r : D × D) : mtK2 i σ (some r) = .ok (fz r.1, σ.set i (some (ow r.2))) := rfl
@[simp] theorem mtK1_s (m : Str) (i : Nat) (ds : List D) (d : D) : mtK1 m i ds σ (some ⟨.own, d⟩) = mtK2 i σ (methD m d ds) := rfl
@[simp] theorem mtK_e (m : Str) (i : Nat) (ds : List D) : mtK m i (ds, σ) = mtK1 m i ds σ (slotAt σ i) := rfl
@[simp] theorem bdK1_s (i : Int) : bdK1 σ (some i) = .ok (some i, σ) := rfl
@[simp] theorem bdK_e (v : SV) : bdK (v, σ) = bdK1 σ (asI v) := rfl
@[simp] theorem bdE_n : bdE C cf (.cst .none) σ = .ok (none, σ) := rfl
theorem bdE_e (l : ME) (h : isNoneM l = false) : bdE C cf l σ = (evV C cf l σ).bind bdK := by unfold bdE; rw [h]
@[simp] theorem bdE_i (i : Int) : bdE C cf (.cst (.int i)) σ = (evV C cf (.cst (.int i)) σ).bind bdK := rfl
@[simp] theorem bdE_var (i : Nat) : bdE C cf (.var i) σ = (evV C cf (.var i) σ).bind bdK := rfl
@[simp] theorem bdE_glo (i : Str) : bdE C cf (.glo i) σ = (evV C cf (.glo i) σ).bind bdK := rfl
@[simp] theorem bdE_op (o : Op) (es : MEs) : bdE C cf (.op o es) σ = (evV C cf (.op o es) σ).bind bdK := rfl
@[simp] theorem bdE_call (o : Str) (es : MEs) : bdE C cf (.call o es) σ = (evV C cf (.call o es) σ).bind bdK := rfl
@[simp] theorem slK3_s (q r : Option Int) (s : SV) : slK3 q r σ (some s) = opK2 σ (slD s.d q r) := rfl
@[simp] theorem slK2_e (o : Opd) (q r : Option Int) : slK2 o q (r, σ) = slK3 q r σ (getO σ o) := rfl
@[simp] theorem slK1_e (h : ME) (o : Opd) (q : Option Int) : slK1 C cf h o (q, σ) = (bdE C cf h σ).bind (slK2 o q) := rfl
@[simp] theorem slK_e (l h : ME) (o : Opd) : slK C cf l h (o, σ) = (bdE C cf l σ).bind (slK1 C cf h o) := rfl
@[simp] theorem gdK4_s (k x s : SV) : gdK4 k x σ (some s) = opK2 σ (dGet [s.d, k.d, x.d]) := rfl
@[simp] theorem gdK3_e (o : Opd) (k x : SV) : gdK3 o k (x, σ) = gdK4 k x σ (getO σ o) := rfl
@[simp] theorem gdK2_e (x : ME) (o : Opd) (k : SV) : gdK2 C cf x o (k, σ) = (evV C cf x σ).bind (gdK3 o k) := rfl
@[simp] theorem gdK1_s (k x : ME) (o : Opd) (s : SV) : gdK1 C cf k x o σ (some s) = if isDictD s.d then (evV C cf k σ).bind (gdK2 C cf x o) else .bad := rfl
@[simp] theorem gdK_e (k x : ME) (o : Opd) : gdK C cf k x (o, σ) = gdK1 C cf k x o σ (getO σ o) := rfl
@[simp] theorem jnK2_s (s l : SV) : jnK2 s σ (some l) = opK2 σ (dJoin [s.d, l.d]) := rfl
@[simp] theorem jnK1_e (s : SV) (o : Opd) : jnK1 s (o, σ) = jnK2 s σ (getO σ o) := rfl
@[simp] theorem jnK_e (e : ME) (s : SV) : jnK C cf e (s, σ) = if isStrD s.d then (evA1 C cf e σ).bind (jnK1 s) else .bad := rfl
@[simp] theorem vsK2_e (d : D) (ds : List D) : vsK2 d (ds, σ) = .ok (d :: ds, σ) := rfl
@[simp] theorem vsK_e (es : MEs) (v : SV) : vsK C cf es (v, σ) = (evVs C cf es σ).bind (vsK2 v.d) := rfl
@[simp] theorem asK2_e (o : Opd) (os : List Opd) : asK2 o (os, σ) = .ok (o :: os, σ) := rfl
@[simp] theorem asK_e (es : MEs) (o : Opd) : asK C cf es (o, σ) = (evAs C cf es σ).bind (asK2 o) := rfl
@[simp] theorem ssK2_e (v : SV) (vs : List SV) : ssK2 v (vs, σ) = .ok (v :: vs, σ) := rfl
@[simp] theorem ssK_e (es : MEs) (v : SV) : ssK C cf es (v, σ) = (evSs C cf es σ).bind (ssK2 v) := rfl
@[simp] theorem tsK1_s (cs : MEs) (t : Bool) : tsK1 C cf cs σ (some t) = if t = true then evT C cf cs σ else .ok (false, σ) := rfl
@[simp] theorem tsK_e (cs : MEs) (v : SV) : tsK C cf cs (v, σ) = tsK1 C cf cs σ (asB v) := rfl
@[simp] theorem tbK1_s (t : Bool) : tbK1 σ (some t) = .ok (t, σ) := rfl
@[simp] theorem tbK_e (v : SV) : tbK (v, σ) = tbK1 σ (asB v) := rfl
end
theorem ofOpt_bind {α β : Type} (o : Option α) (f : α → R β) : (ofOpt o).bind f = (match o with | some a => f a | none => .bad) := by cases o <;> rfl
theorem bind_K {α β : Type} {r : R α} {f g : α → R β} (h : ∀ a, f a = g a) : r.bind f = r.bind g := by rw [show f = g from funext h]
section
variable (σ : EnvD)
@[simp] theorem e_var (i : Nat) : evV C cf (.var i) σ = rdVk i σ (slotAt σ i) := by rw [evV]; rfl
@[simp] theorem e_cst (d : D) : evV C cf (.cst d) σ = .ok (fz d, σ) := by rw [evV]
@[simp] theorem e_glo (x : Str) : evV C cf (.glo x) σ = gloK σ (C x) := by rw [evV, ofOpt_bind]; cases C x <;> rfl
@[simp] theorem e_op (o : Op) (es : MEs) : evV C cf (.op o es) σ = (evAs C cf es σ).bind (opK o) := by
  rw [evV]
  refine bind_K fun ⟨os, s⟩ => ?_
  rw [ofOpt_bind, opK_e]
  cases getOs s os with
  | none => rfl
  | some svs => dsimp only; rw [ofOpt_bind, opK1_s]; cases opD o (svs.map (·.d)) <;> rfl
@[simp] theorem e_and (a b : ME) : evV C cf (.and a b) σ = (evV C cf a σ).bind (andK C cf b) := by
  rw [evV]
  refine bind_K fun ⟨v, s⟩ => ?_
  rw [ofOpt_bind, andK_e]
  cases asB v <;> rfl
@[simp] theorem e_or (a b : ME) : evV C cf (.or a b) σ = (evV C cf a σ).bind (orK C cf b) := by
  rw [evV]
  refine bind_K fun ⟨v, s⟩ => ?_
  rw [ofOpt_bind, orK_e]
  cases asB v <;> rfl
@[simp] theorem e_not (a : ME) : evV C cf (.not a) σ = (evV C cf a σ).bind notK := by
  rw [evV]
  refine bind_K fun ⟨v, s⟩ => ?_
  rw [ofOpt_bind, notK_e]
  cases asB v <;> rfl
@[simp] theorem e_chain (o1 o2 : Op) (a b c : ME) : evV C cf (.chain o1 o2 a b c) σ = (evV C cf a σ).bind (chK C cf o1 o2 b c) := by
  rw [evV]
  refine bind_K fun ⟨v, s⟩ => ?_
  rw [chK_e]
  refine bind_K fun ⟨w, s1⟩ => ?_
  rw [ofOpt_bind, chK2_e]
  cases opD o1 [v.d, w.d] with
  | none => rfl
  | some r =>
    dsimp only
    rw [ofOpt_bind, chK3_s]
    cases asB r with
    | none => rfl
    | some t =>
      dsimp only
      rw [chK4_s]
      cases t with
      | false => rfl
      | true =>
        rw [if_pos rfl, if_pos rfl]
        refine bind_K fun ⟨z, s2⟩ => ?_
        rw [ofOpt_bind, chK5_e]
        cases opD o2 [w.d, z.d] <;> rfl
@[simp] theorem e_ife (c a b : ME) : evV C cf (.ife c a b) σ = (evV C cf c σ).bind (ifK C cf a b) := by
  rw [evV]
  refine bind_K fun ⟨v, s⟩ => ?_
  rw [ofOpt_bind, ifK_e]
  cases asB v <;> rfl
@[simp] theorem e_tup (es : MEs) : evV C cf (.tup es) σ = (evVs C cf es σ).bind tupK := by
  rw [evV]
  exact bind_K fun ⟨v, s⟩ => rfl
@[simp] theorem e_lst (es : MEs) : evV C cf (.lst es) σ = (evVs C cf es σ).bind lstK := by
  rw [evV]
  exact bind_K fun ⟨v, s⟩ => rfl
@[simp] theorem e_dct (es : MEs) : evV C cf (.dct es) σ = (evVs C cf es σ).bind dctK := by
  rw [evV]
  refine bind_K fun ⟨v, s⟩ => ?_
  rw [ofOpt_bind, dctK_e]
  cases dctD v <;> rfl
@[simp] theorem e_call (f : Str) (es : MEs) : evV C cf (.call f es) σ = (evAs C cf es σ).bind (clK cf f) := by
  rw [evV]
  refine bind_K fun ⟨os, s⟩ => ?_
  rw [ofOpt_bind, clK_e]
  cases getOs s os with
  | none => rfl
  | some svs =>
    dsimp only
    rw [clK1_s]
    by_cases h : (ownSlots s os).Nodup
    · rw [if_pos h, if_pos h]; cases cf f svs <;> rfl
    · rw [if_neg h, if_neg h]
@[simp] theorem e_meth (m : Str) (i : Nat) (es : MEs) : evV C cf (.meth m i es) σ = if isOwnL (slotAt σ i) = true then (evVs C cf es σ).bind (mtK m i) else .bad := by
  rw [evV]
  by_cases h : isOwnL (slotAt σ i) = true
  · rw [if_pos h, if_pos h]
    refine bind_K fun ⟨ds, s⟩ => ?_
    rw [mtK_e]
    dsimp only
    cases slotAt s i with
    | none => rfl
    | some sv =>
      obtain ⟨md, d⟩ := sv
      cases md with
      | frz => rfl
      | lck => rfl
      | own =>
        dsimp only
        rw [ofOpt_bind, mtK1_s]
        cases methD m d ds <;> rfl
  · rw [if_neg h, if_neg h]
@[simp] theorem isOwnL_l (l : List D) : isOwnL (some (ow (.list l))) = true := rfl
theorem bd_is (l : ME) : (if isNoneM l then (R.ok (none, σ) : R (Option Int × EnvD)) else (evV C cf l σ).bind fun q => (ofOpt (asI q.1)).bind fun i => .ok (some i, q.2)) = bdE C cf l σ := by
  unfold bdE
  cases isNoneM l with
  | true => rfl
  | false =>
    rw [if_neg Bool.false_ne_true]
    refine bind_K fun ⟨v, s⟩ => ?_
    rw [ofOpt_bind, bdK_e]
    cases asI v <;> rfl
@[simp] theorem e_slice (a l h : ME) : evV C cf (.slice a l h) σ = (evA1 C cf a σ).bind (slK C cf l h) := by
  rw [evV]
  refine bind_K (r := evA1 C cf a σ) fun ⟨o, s⟩ => ?_
  dsimp only
  rw [bd_is, slK_e]
  refine bind_K fun ⟨q, s1⟩ => ?_
  dsimp only
  rw [bd_is, slK1_e]
  refine bind_K fun ⟨r, s2⟩ => ?_
  dsimp only
  rw [ofOpt_bind, slK2_e]
  cases getO s2 o with
  | none => rfl
  | some sv =>
    dsimp only
    rw [ofOpt_bind, slK3_s]
    cases slD sv.d q r <;> rfl
@[simp] theorem e_getd (o k x : ME) : evV C cf (.getd o k x) σ = (evA1 C cf o σ).bind (gdK C cf k x) := by
  rw [evV]
  refine bind_K (r := evA1 C cf o σ) fun ⟨o, s⟩ => ?_
  dsimp only
  rw [ofOpt_bind, gdK_e]
  cases getO s o with
  | none => rfl
  | some sv =>
    dsimp only
    rw [gdK1_s]
    by_cases h : isDictD sv.d
    · rw [if_pos h, if_pos h]
      refine bind_K fun ⟨k, s1⟩ => ?_
      rw [gdK2_e]
      refine bind_K fun ⟨x, s2⟩ => ?_
      dsimp only
      rw [ofOpt_bind, gdK3_e]
      cases getO s2 o with
      | none => rfl
      | some sv =>
        dsimp only
        rw [ofOpt_bind, gdK4_s]
        cases dGet [sv.d, k.d, x.d] <;> rfl
    · rw [if_neg h, if_neg h]
@[simp] theorem e_join (o e : ME) : evV C cf (.join o e) σ = (evV C cf o σ).bind (jnK C cf e) := by
  rw [evV]
  refine bind_K fun ⟨v, s⟩ => ?_
  rw [jnK_e]
  dsimp only
  by_cases h : isStrD v.d
  · rw [if_pos h, if_pos h]
    refine bind_K (r := evA1 C cf e s) fun ⟨o, s1⟩ => ?_
    dsimp only
    rw [ofOpt_bind, jnK1_e]
    cases getO s1 o with
    | none => rfl
    | some sv =>
      dsimp only
      rw [ofOpt_bind, jnK2_s]
      cases dJoin [v.d, sv.d] <;> rfl
  · rw [if_neg h, if_neg h]
@[simp] theorem e_vs_n : evVs C cf .nil σ = .ok ([], σ) := by rw [evVs]
@[simp] theorem e_vs_c (e : ME) (es : MEs) : evVs C cf (.cons e es) σ = (evV C cf e σ).bind (vsK C cf es) := by
  rw [evVs]
  refine bind_K fun ⟨v, s⟩ => ?_
  rw [vsK_e]
  exact bind_K fun ⟨ds, s1⟩ => rfl
@[simp] theorem e_as_n : evAs C cf .nil σ = .ok ([], σ) := by rw [evAs]
@[simp] theorem e_as_c (e : ME) (es : MEs) : evAs C cf (.cons e es) σ = (evA1 C cf e σ).bind (asK C cf es) := by
  rw [evAs]
  refine bind_K (r := evA1 C cf e σ) fun ⟨v, s⟩ => ?_
  rw [asK_e]
  exact bind_K fun ⟨ds, s1⟩ => rfl
@[simp] theorem e_a1_var (i : Nat) : evA1 C cf (.var i) σ = rdOk i σ (slotAt σ i) := rfl
theorem e_a1 (e : ME) (h : isVar e = none) : evA1 C cf e σ = (evV C cf e σ).bind valK := by
  unfold evA1
  rw [h]
  exact bind_K fun ⟨v, s⟩ => rfl
@[simp] theorem e_a1_cst (d : D) : evA1 C cf (.cst d) σ = (evV C cf (.cst d) σ).bind valK := e_a1 C cf σ _ rfl
@[simp] theorem e_a1_glo (d : Str) : evA1 C cf (.glo d) σ = (evV C cf (.glo d) σ).bind valK := e_a1 C cf σ _ rfl
@[simp] theorem e_a1_op (o : Op) (es : MEs) : evA1 C cf (.op o es) σ = (evV C cf (.op o es) σ).bind valK := e_a1 C cf σ _ rfl
@[simp] theorem e_a1_and (a b : ME) : evA1 C cf (.and a b) σ = (evV C cf (.and a b) σ).bind valK := e_a1 C cf σ _ rfl
@[simp] theorem e_a1_or (a b : ME) : evA1 C cf (.or a b) σ = (evV C cf (.or a b) σ).bind valK := e_a1 C cf σ _ rfl
@[simp] theorem e_a1_not (a : ME) : evA1 C cf (.not a) σ = (evV C cf (.not a) σ).bind valK := e_a1 C cf σ _ rfl
@[simp] theorem e_a1_ife (a b c : ME) : evA1 C cf (.ife a b c) σ = (evV C cf (.ife a b c) σ).bind valK := e_a1 C cf σ _ rfl
@[simp] theorem e_a1_tup (es : MEs) : evA1 C cf (.tup es) σ = (evV C cf (.tup es) σ).bind valK := e_a1 C cf σ _ rfl
@[simp] theorem e_a1_lst (es : MEs) : evA1 C cf (.lst es) σ = (evV C cf (.lst es) σ).bind valK := e_a1 C cf σ _ rfl
@[simp] theorem e_a1_dct (es : MEs) : evA1 C cf (.dct es) σ = (evV C cf (.dct es) σ).bind valK := e_a1 C cf σ _ rfl
@[simp] theorem e_a1_call (f : Str) (es : MEs) : evA1 C cf (.call f es) σ = (evV C cf (.call f es) σ).bind valK := e_a1 C cf σ _ rfl
@[simp] theorem e_a1_comp (own : List Nat) (p : MP) (it : MI) (cs : MEs) (e : ME) : evA1 C cf (.comp own p it cs e) σ = (evV C cf (.comp own p it cs e) σ).bind valK := e_a1 C cf σ _ rfl
@[simp] theorem e_a1_meth (m : Str) (i : Nat) (es : MEs) : evA1 C cf (.meth m i es) σ = (evV C cf (.meth m i es) σ).bind valK := e_a1 C cf σ _ rfl
@[simp] theorem e_a1_getd (a b c : ME) : evA1 C cf (.getd a b c) σ = (evV C cf (.getd a b c) σ).bind valK := e_a1 C cf σ _ rfl
@[simp] theorem e_a1_join (a b : ME) : evA1 C cf (.join a b) σ = (evV C cf (.join a b) σ).bind valK := e_a1 C cf σ _ rfl
@[simp] theorem e_a1_slice (a b c : ME) : evA1 C cf (.slice a b c) σ = (evV C cf (.slice a b c) σ).bind valK := e_a1 C cf σ _ rfl
@[simp] theorem e_a1_chain (o1 o2 : Op) (a b c : ME) : evA1 C cf (.chain o1 o2 a b c) σ = (evV C cf (.chain o1 o2 a b c) σ).bind valK := e_a1 C cf σ _ rfl
@[simp] theorem e_ss_n : evSs C cf .nil σ = .ok ([], σ) := by rw [evSs]
@[simp] theorem e_ss_c (e : ME) (es : MEs) : evSs C cf (.cons e es) σ = (evV C cf e σ).bind (ssK C cf es) := by
  rw [evSs]
  refine bind_K fun ⟨v, s⟩ => ?_
  rw [ssK_e]
  exact bind_K fun ⟨ds, s1⟩ => rfl
@[simp] theorem e_t_n : evT C cf .nil σ = .ok (true, σ) := by rw [evT]
@[simp] theorem e_t_c (c : ME) (cs : MEs) : evT C cf (.cons c cs) σ = (evV C cf c σ).bind (tsK C cf cs) := by
  rw [evT]
  refine bind_K fun ⟨v, s⟩ => ?_
  rw [ofOpt_bind, tsK_e]
  cases asB v <;> rfl
theorem e_B (c : ME) : evB C cf c σ = (evV C cf c σ).bind tbK := by
  unfold evB
  refine bind_K fun ⟨v, s⟩ => ?_
  rw [ofOpt_bind, tbK_e]
  cases asB v <;> rfl
variable (np : Nat) (pn : List Nat)
/-- what follows a statement -/
noncomputable def nextK (ss : MSs) : Fl → R Fl
  | .nx σ' => evSS C cf np pn ss σ'
  | f => .ok f
def exK : SV × EnvD → R Fl | (_, σ) => .ok (.nx σ)
def nxK (σ : EnvD) : R Fl := .ok (.nx σ)
def asgK (i : Nat) : SV × EnvD → R Fl | (v, σ) => (stR pn i v σ).bind nxK
def parK (is : List Nat) : List SV × EnvD → R Fl | (vs, σ) => (stRs pn is vs σ).bind nxK
noncomputable def ifsK1 (a b : MSs) (σ : EnvD) : Option Bool → R Fl
  | some t => if t = true then evSS C cf np pn a σ else evSS C cf np pn b σ
  | none => .bad
noncomputable def ifsK (a b : MSs) : SV × EnvD → R Fl | (v, σ) => ifsK1 C cf np pn a b σ (asB v)
def rtK : SV × EnvD → R Fl | (v, σ) => .ok (.rt v σ)
@[simp] theorem exK_e (v : SV) : exK (v, σ) = .ok (.nx σ) := rfl
@[simp] theorem nxK_e : nxK σ = .ok (.nx σ) := rfl
@[simp] theorem asgK_e (i : Nat) (v : SV) : asgK pn i (v, σ) = (stR pn i v σ).bind nxK := rfl
@[simp] theorem parK_e (is : List Nat) (vs : List SV) : parK pn is (vs, σ) = (stRs pn is vs σ).bind nxK := rfl
@[simp] theorem ifsK1_s (a b : MSs) (t : Bool) : ifsK1 C cf np pn a b σ (some t) = if t = true then evSS C cf np pn a σ else evSS C cf np pn b σ := rfl
@[simp] theorem ifsK_e (a b : MSs) (v : SV) : ifsK C cf np pn a b (v, σ) = ifsK1 C cf np pn a b σ (asB v) := rfl
@[simp] theorem rtK_e (v : SV) : rtK (v, σ) = .ok (.rt v σ) := rfl
@[simp] theorem s_nil : evSS C cf np pn .nil σ = .ok (.nx σ) := by rw [evSS]
@[simp] theorem s_cons (s : MS) (ss : MSs) : evSS C cf np pn (.cons s ss) σ = (evS C cf np pn s σ).bind (nextK C cf np pn ss) := by
  rw [evSS]
  congr 1
@[simp] theorem nextK_nx (ss : MSs) : nextK C cf np pn ss (.nx σ) = evSS C cf np pn ss σ := rfl
@[simp] theorem nextK_rt (ss : MSs) (v : SV) : nextK C cf np pn ss (.rt v σ) = .ok (.rt v σ) := rfl
@[simp] theorem nextK_bk (ss : MSs) : nextK C cf np pn ss (.bk σ) = .ok (.bk σ) := rfl
@[simp] theorem nextK_ct (ss : MSs) : nextK C cf np pn ss (.ct σ) = .ok (.ct σ) := rfl
@[simp] theorem s_expr (e : ME) : evS C cf np pn (.expr e) σ = (evV C cf e σ).bind exK := by
  rw [evS]
  exact bind_K fun ⟨v, s⟩ => rfl
@[simp] theorem s_set (i : Nat) (e : ME) : evS C cf np pn (.set i e) σ = (evV C cf e σ).bind (asgK pn i) := by
  rw [evS]
  exact bind_K fun ⟨v, s⟩ => rfl
@[simp] theorem s_par (is : List Nat) (es : MEs) : evS C cf np pn (.par is es) σ = (evSs C cf es σ).bind (parK pn is) := by
  rw [evS]
  exact bind_K fun ⟨v, s⟩ => rfl
@[simp] theorem s_ret0 : evS C cf np pn .ret0 σ = .ok (.rt (fz .none) σ) := by rw [evS]
@[simp] theorem s_ifs (c : ME) (a b : MSs) : evS C cf np pn (.ifs c a b) σ = (evV C cf c σ).bind (ifsK C cf np pn a b) := by
  rw [evS]
  refine bind_K fun ⟨v, s⟩ => ?_
  rw [ofOpt_bind, ifsK_e]
  cases asB v <;> rfl
@[simp] theorem s_raise (c : Str) : evS C cf np pn (.raise c) σ = .exc c σ := by rw [evS]
@[simp] theorem s_pass : evS C cf np pn .pass σ = .ok (.nx σ) := by rw [evS]
@[simp] theorem s_brk : evS C cf np pn .brk σ = .ok (.bk σ) := by rw [evS]
@[simp] theorem s_cont : evS C cf np pn .cont σ = .ok (.ct σ) := by rw [evS]
def retK (i : Nat) : Option SV → R Fl
  | some ⟨.own, d⟩ => if np ≤ i then .ok (.rt (ow d) σ) else .ok (.rt (fz d) (σ.set i (some (fz d))))
  | some ⟨.frz, d⟩ => .ok (.rt (fz d) σ)
  | _ => .bad
@[simp] theorem s_ret_var (i : Nat) : evS C cf np pn (.ret (.var i)) σ = retK σ np i (slotAt σ i) := by
  rw [evS]
  simp only [isVar, rdV]
  cases h : slotAt σ i with
  | none => rfl
  | some sv =>
    obtain ⟨m, d⟩ := sv
    cases m <;> simp [retK]
@[simp] theorem retK_o (i : Nat) (d : D) : retK σ np i (some ⟨.own, d⟩) = if np ≤ i then .ok (.rt (ow d) σ) else .ok (.rt (fz d) (σ.set i (some (fz d)))) := rfl
@[simp] theorem retK_f (i : Nat) (d : D) : retK σ np i (some ⟨.frz, d⟩) = .ok (.rt (fz d) σ) := rfl
theorem s_ret (e : ME) (h : isVar e = none) : evS C cf np pn (.ret e) σ = (evV C cf e σ).bind rtK := by
  rw [evS, h]
  exact bind_K fun ⟨v, s⟩ => rfl
@[simp] theorem s_ret_cst (d : D) : evS C cf np pn (.ret (.cst d)) σ = (evV C cf (.cst d) σ).bind rtK := s_ret C cf σ np pn _ rfl
@[simp] theorem s_ret_glo (d : Str) : evS C cf np pn (.ret (.glo d)) σ = (evV C cf (.glo d) σ).bind rtK := s_ret C cf σ np pn _ rfl
@[simp] theorem s_ret_op (o : Op) (es : MEs) : evS C cf np pn (.ret (.op o es)) σ = (evV C cf (.op o es) σ).bind rtK := s_ret C cf σ np pn _ rfl
@[simp] theorem s_ret_and (a b : ME) : evS C cf np pn (.ret (.and a b)) σ = (evV C cf (.and a b) σ).bind rtK := s_ret C cf σ np pn _ rfl
@[simp] theorem s_ret_or (a b : ME) : evS C cf np pn (.ret (.or a b)) σ = (evV C cf (.or a b) σ).bind rtK := s_ret C cf σ np pn _ rfl
@[simp] theorem s_ret_not (a : ME) : evS C cf np pn (.ret (.not a)) σ = (evV C cf (.not a) σ).bind rtK := s_ret C cf σ np pn _ rfl
@[simp] theorem s_ret_ife (a b c : ME) : evS C cf np pn (.ret (.ife a b c)) σ = (evV C cf (.ife a b c) σ).bind rtK := s_ret C cf σ np pn _ rfl
@[simp] theorem s_ret_tup (es : MEs) : evS C cf np pn (.ret (.tup es)) σ = (evV C cf (.tup es) σ).bind rtK := s_ret C cf σ np pn _ rfl
@[simp] theorem s_ret_lst (es : MEs) : evS C cf np pn (.ret (.lst es)) σ = (evV C cf (.lst es) σ).bind rtK := s_ret C cf σ np pn _ rfl
@[simp] theorem s_ret_dct (es : MEs) : evS C cf np pn (.ret (.dct es)) σ = (evV C cf (.dct es) σ).bind rtK := s_ret C cf σ np pn _ rfl
@[simp] theorem s_ret_call (f : Str) (es : MEs) : evS C cf np pn (.ret (.call f es)) σ = (evV C cf (.call f es) σ).bind rtK := s_ret C cf σ np pn _ rfl
@[simp] theorem s_ret_comp (own : List Nat) (p : MP) (it : MI) (cs : MEs) (e : ME) : evS C cf np pn (.ret (.comp own p it cs e)) σ = (evV C cf (.comp own p it cs e) σ).bind rtK := s_ret C cf σ np pn _ rfl
@[simp] theorem s_ret_chain (o1 o2 : Op) (a b c : ME) : evS C cf np pn (.ret (.chain o1 o2 a b c)) σ = (evV C cf (.chain o1 o2 a b c) σ).bind rtK := s_ret C cf σ np pn _ rfl
@[simp] theorem s_ret_slice (a b c : ME) : evS C cf np pn (.ret (.slice a b c)) σ = (evV C cf (.slice a b c) σ).bind rtK := s_ret C cf σ np pn _ rfl
@[simp] theorem s_ret_join (a b : ME) : evS C cf np pn (.ret (.join a b)) σ = (evV C cf (.join a b) σ).bind rtK := s_ret C cf σ np pn _ rfl
@[simp] theorem s_ret_getd (a b c : ME) : evS C cf np pn (.ret (.getd a b c)) σ = (evV C cf (.getd a b c) σ).bind rtK := s_ret C cf σ np pn _ rfl
def augK2 (i : Nat) (o : Op) (a : Int) (σ : EnvD) : Option Int → R Fl
  | some b => (stR pn i (fz (.int (augI o a b))) σ).bind nxK
  | none => .bad
def augK1 (i : Nat) (o : Op) (a : Int) : SV × EnvD → R Fl | (v, σ) => augK2 pn i o a σ (asI v)
noncomputable def augK (i : Nat) (o : Op) (e : ME) : Option SV → R Fl
  | some ⟨.frz, .int a⟩ => (evV C cf e σ).bind (augK1 pn i o a)
  | _ => .bad
@[simp] theorem augK2_s (i : Nat) (o : Op) (a b : Int) : augK2 pn i o a σ (some b) = (stR pn i (fz (.int (augI o a b))) σ).bind nxK := rfl
@[simp] theorem augK1_e (i : Nat) (o : Op) (a : Int) (v : SV) : augK1 pn i o a (v, σ) = augK2 pn i o a σ (asI v) := rfl
@[simp] theorem augK_i (i : Nat) (o : Op) (e : ME) (a : Int) : augK C cf σ pn i o e (some ⟨.frz, .int a⟩) = (evV C cf e σ).bind (augK1 pn i o a) := rfl
@[simp] theorem s_aug (i : Nat) (o : Op) (e : ME) : evS C cf np pn (.aug i o e) σ = augK C cf σ pn i o e (slotAt σ i) := by
  rw [evS]
  cases slotAt σ i with
  | none => rfl
  | some sv =>
    obtain ⟨m, d⟩ := sv
    cases m <;> cases d <;> first
      | rfl
      | (dsimp only
         rw [augK_i]
         refine bind_K fun ⟨v, s⟩ => ?_
         rw [ofOpt_bind, augK1_e]
         cases asI v <;> rfl)
def putK3 (i : Nat) (σ : EnvD) : Option D → R Fl
  | some d => .ok (.nx (σ.set i (some (ow d))))
  | none => .bad
def putK2 (i : Nat) (v k : D) (σ : EnvD) : Option SV → R Fl
  | some ⟨.own, d⟩ => putK3 i σ (putD d k v)
  | _ => .bad
def putK1 (i : Nat) (v : SV) : SV × EnvD → R Fl | (k, σ) => putK2 i v.d k.d σ (slotAt σ i)
def putK (i : Nat) (k : ME) : SV × EnvD → R Fl | (v, σ) => (evV C cf k σ).bind (putK1 i v)
@[simp] theorem putK3_s (i : Nat) (d : D) : putK3 i σ (some d) = .ok (.nx (σ.set i (some (ow d)))) := rfl
@[simp] theorem putK2_o (i : Nat) (v k d : D) : putK2 i v k σ (some ⟨.own, d⟩) = putK3 i σ (putD d k v) := rfl
@[simp] theorem putK1_e (i : Nat) (v k : SV) : putK1 i v (k, σ) = putK2 i v.d k.d σ (slotAt σ i) := rfl
@[simp] theorem putK_e (i : Nat) (k : ME) (v : SV) : putK C cf i k (v, σ) = (evV C cf k σ).bind (putK1 i v) := rfl
@[simp] theorem s_put (i : Nat) (k e : ME) : evS C cf np pn (.put i k e) σ = if isOwn (slotAt σ i) = true then (evV C cf e σ).bind (putK C cf i k) else .bad := by
  rw [evS]
  by_cases h : isOwn (slotAt σ i) = true
  · rw [if_pos h, if_pos h]
    refine bind_K fun ⟨v, s⟩ => ?_
    rw [putK_e]
    refine bind_K fun ⟨k, s1⟩ => ?_
    rw [putK1_e]
    dsimp only
    cases slotAt s1 i with
    | none => rfl
    | some sv =>
      obtain ⟨m, d⟩ := sv
      cases m with
      | frz => rfl
      | lck => rfl
      | own =>
        dsimp only
        rw [ofOpt_bind, putK2_o]
        cases putD d k.d v.d <;> rfl
  · rw [if_neg h, if_neg h]
@[simp] theorem isOwn_o (d : D) : isOwn (some ⟨.own, d⟩) = true := rfl
@[simp] theorem augI_add (a b : Int) : augI .add a b = a + b := rfl
@[simp] theorem augI_sub (a b : Int) : augI .sub a b = a - b := rfl
end
end
def stK (i : Nat) (sv : SV) (σ : EnvD) : Option SV → R EnvD
  | some ⟨.lck, _⟩ => .bad
  | _ => .ok (σ.set i (some sv))
@[simp] theorem stR_k (pn : List Nat) (i : Nat) (sv : SV) (σ : EnvD) : stR pn i sv σ = if i ∈ pn then .bad else stK i sv σ (slotAt σ i) := rfl
@[simp] theorem stK_n (i : Nat) (sv : SV) (σ : EnvD) : stK i sv σ none = .ok (σ.set i (some sv)) := rfl
@[simp] theorem stK_f (i : Nat) (sv : SV) (σ : EnvD) (d : D) : stK i sv σ (some ⟨.frz, d⟩) = .ok (σ.set i (some sv)) := rfl
@[simp] theorem stK_o (i : Nat) (sv : SV) (σ : EnvD) (d : D) : stK i sv σ (some ⟨.own, d⟩) = .ok (σ.set i (some sv)) := rfl
@[simp] theorem stRs_n (pn : List Nat) (σ : EnvD) : stRs pn [] [] σ = .ok σ := rfl
@[simp] theorem stRs_c (pn : List Nat) (i : Nat) (is : List Nat) (v : SV) (vs : List SV) (σ : EnvD) : stRs pn (i :: is) (v :: vs) σ = (stR pn i v σ).bind (stRs pn is vs) := rfl

/-! ### operations -/
@[simp] theorem o_add_i (a b : Int) : opD .add [.int a, .int b] = some (fz (.int (a + b))) := rfl
@[simp] theorem o_sub_i (a b : Int) : opD .sub [.int a, .int b] = some (fz (.int (a - b))) := rfl
/-- a number that may be multiplied -/
def big (a : Int) : Prop := a.natAbs < 2 ^ bigBits
instance (a : Int) : Decidable (big a) := inferInstanceAs (Decidable (a.natAbs < 2 ^ bigBits))
theorem big_of {a : Int} (h1 : -(2 ^ 200) < a) (h2 : a < 2 ^ 200) : big a := by
  unfold big
  have : (2 : Nat) ^ 200 ≤ 2 ^ bigBits := Nat.pow_le_pow_right (by decide) (by unfold bigBits; decide)
  have h : a.natAbs < 2 ^ 200 := by omega
  omega
/-- a number by which may be divided -/
def dvs (b : Int) : Prop := 0 < b ∧ b.natAbs < 2 ^ divBits
instance (b : Int) : Decidable (dvs b) := inferInstanceAs (Decidable (0 < b ∧ b.natAbs < 2 ^ divBits))
theorem dvs_of {a : Int} (h1 : 0 < a) (h2 : a < 2 ^ 200) : dvs a := by
  refine ⟨h1, ?_⟩
  have : (2 : Nat) ^ 200 ≤ 2 ^ divBits := Nat.pow_le_pow_right (by decide) (by unfold divBits; decide)
  have h : a.natAbs < 2 ^ 200 := by omega
  omega
@[simp] theorem o_mul_i (a b : Int) : opD .mul [.int a, .int b] = if big a ∧ big b then some (fz (.int (a * b))) else none := rfl
@[simp] theorem o_fdiv_i (a b : Int) : opD .fdiv [.int a, .int b] = if dvs b then some (fz (.int (a / b))) else none := by
  show (dFdiv a b).map fz = _
  unfold dFdiv
  by_cases h : dvs b
  · have h' : 0 < b ∧ b.natAbs < 2 ^ divBits := h
    rw [if_pos h', if_pos h]; rfl
  · have h' : ¬ (0 < b ∧ b.natAbs < 2 ^ divBits) := h
    rw [if_neg h', if_neg h]; rfl
@[simp] theorem o_mod_i (a b : Int) : opD .mod [.int a, .int b] = if 0 < b then some (fz (.int (a % b))) else if b ≠ 0 then some (fz (.int (a.fmod b))) else none := by
  show (dMod a b).map fz = _
  unfold dMod
  by_cases h : 0 < b
  · rw [if_pos (by omega), if_pos h, Int.fmod_eq_emod_of_nonneg _ (by omega)]; rfl
  · rw [if_neg h]
    split <;> rfl
@[simp] theorem o_pow_i (a b : Int) : opD .pow [.int a, .int b] = if 0 ≤ b ∧ b ≤ 1000000 ∧ a.natAbs < 2 ^ 64 then some (fz (.int (a ^ b.toNat))) else none := by
  show (dPow a b).map fz = _
  unfold dPow
  split <;> rfl
@[simp] theorem o_neg_i (a : Int) : opD .neg [.int a] = some (fz (.int (-a))) := rfl
@[simp] theorem o_lt_i (a b : Int) : opD .lt [.int a, .int b] = some (fz (.bool (decide (a < b)))) := rfl
@[simp] theorem o_le_i (a b : Int) : opD .le [.int a, .int b] = some (fz (.bool (decide (a ≤ b)))) := rfl
@[simp] theorem o_gt_i (a b : Int) : opD .gt [.int a, .int b] = some (fz (.bool (decide (b < a)))) := rfl
@[simp] theorem o_ge_i (a b : Int) : opD .ge [.int a, .int b] = some (fz (.bool (decide (b ≤ a)))) := rfl
@[simp] theorem o_eq_i (a b : Int) : opD .eq [.int a, .int b] = some (fz (.bool (decide (a = b)))) := by
  show dEq false [.int a, .int b] = _
  simp [dEq, okD, SeqAt.shaped, PyData.canLay0, PyData.depth, PyData.eqv]
  rfl
@[simp] theorem o_ne_i (a b : Int) : opD .ne [.int a, .int b] = some (fz (.bool (!decide (a = b)))) := by
  show dEq true [.int a, .int b] = _
  simp [dEq, okD, SeqAt.shaped, PyData.canLay0, PyData.depth, PyData.eqv]
  rfl
@[simp] theorem o_abs_i (a : Int) : opD .abs [.int a] = some (fz (.int (if a < 0 then -a else a))) := rfl
@[simp] theorem o_min_i (a b : Int) : opD .min2 [.int a, .int b] = some (fz (.int (if b < a then b else a))) := rfl
@[simp] theorem o_max_i (a b : Int) : opD .max2 [.int a, .int b] = some (fz (.int (if b > a then b else a))) := rfl
@[simp] theorem o_ix_l (xs : List D) (i : Int) : opD .ix [.list xs, .int i] = (atI xs i).map fz := rfl
@[simp] theorem o_ix_t (xs : List D) (i : Int) : opD .ix [.tuple xs, .int i] = (atI xs i).map fz := rfl
@[simp] theorem o_len_l (xs : List D) : opD .len [.list xs] = if xs.length ≤ sizeLine then some (fz (.int xs.length)) else none := rfl
@[simp] theorem o_len_t (xs : List D) : opD .len [.tuple xs] = if xs.length ≤ sizeLine then some (fz (.int xs.length)) else none := rfl
@[simp] theorem o_isi (t : Ty) (d : D) : opD (.isinst t) [d] = some (fz (.bool (dTy d t))) := rfl
@[simp] theorem o_isB (neg : Bool) (a b : Bool) : opD .isB [.bool a, .bool b] = some (fz (.bool (decide (a = b)))) := by
  show some (fz (.bool (decide (a = b) != false))) = _
  simp
@[simp] theorem o_isN (a : D) : opD .isN [a] = some (fz (.bool (isNoneD a))) := by
  show some (fz (.bool (isNoneD a != false))) = _
  simp
@[simp] theorem o_notN (a : D) : opD .notN [a] = some (fz (.bool (!isNoneD a))) := by
  show some (fz (.bool (isNoneD a != true))) = _
  simp
@[simp] theorem o_sum (xs : List Int) : opD .sum [.list (xs.map PyData.int)] = some (fz (.int xs.sum)) := by
  have : ints? (xs.map PyData.int) = some xs := by
    induction xs with
    | nil => rfl
    | cons a r ih => show ((ints? (r.map PyData.int)).map (a :: ·)) = _; rw [ih]; rfl
  show (ints? _).bind _ = _
  rw [this]
  rfl
theorem atI_at {α : Type} {xs : List α} {k : Nat} {x : α} (h : xs[k]? = some x) : atI xs (k : Int) = some x := atI_nat h
@[simp] theorem atI_0 {α : Type} (x : α) (r : List α) : atI (x :: r) 0 = some x := atI_at (k := 0) rfl
@[simp] theorem atI_1 {α : Type} (x y : α) (r : List α) : atI (x :: y :: r) 1 = some y := atI_at (k := 1) rfl
@[simp] theorem atI_2 {α : Type} (x y z : α) (r : List α) : atI (x :: y :: z :: r) 2 = some z := atI_at (k := 2) rfl
@[simp] theorem atI_3 {α : Type} (x y z u : α) (r : List α) : atI (x :: y :: z :: u :: r) 3 = some u := atI_at (k := 3) rfl
/-- the body's end -/
def runK (np : Nat) : R Fl → RF
  | .ok (.rt sv σ) => .ok sv (σ.take np)
  | .ok (.nx σ) => .ok (fz .none) (σ.take np)
  | .exc c σ => .exc c (σ.take np)
  | _ => .bad
@[simp] theorem runK_rt (np : Nat) (sv : SV) (σ : EnvD) : runK np (.ok (.rt sv σ)) = .ok sv (σ.take np) := rfl
@[simp] theorem runK_nx (np : Nat) (σ : EnvD) : runK np (.ok (.nx σ)) = .ok (fz .none) (σ.take np) := rfl
@[simp] theorem runK_exc (np : Nat) (c : Str) (σ : EnvD) : runK np (.exc c σ) = .exc c (σ.take np) := rfl
theorem run_is (C : Str → Option D) (cf : Str → List SV → RF) (np ns : Nat) (b : MSs) (args : List SV) (h : args.length = np) : runD C cf ⟨np, ns, b⟩ args = runK np (evSS C cf np (pins args) b (args.map some ++ List.replicate (ns - np) none)) := by
  unfold runD
  rw [if_pos h]
  rfl
theorem cal_of {C : Str → Option D} {Γ : Str → Option FD} {n : Nat} {f : Str} {np ns : Nat} {b : MSs} {a : List SV} (h : Γ f = some ⟨np, ns, b⟩) (hl : a.length = np) : callF C Γ (n + 1) f a = runK np (evSS C (callF C Γ n) np (pins a) b (a.map some ++ List.replicate (ns - np) none)) := by
  rw [callF, h]
  exact run_is _ _ _ _ _ _ hl

/-! ### what the callers hold -/
def pinsK : Nat → List SV → List Nat
  | _, [] => []
  | k, ⟨.frz, _⟩ :: r => pinsK (k + 1) r
  | k, ⟨.own, _⟩ :: r => k :: pinsK (k + 1) r
  | k, ⟨.lck, _⟩ :: r => k :: pinsK (k + 1) r
theorem pins_from (f : SV → Bool) (hf : ∀ d, f ⟨.frz, d⟩ = false ∧ f ⟨.own, d⟩ = true ∧ f ⟨.lck, d⟩ = true) : ∀ (l pre : List SV), ((List.range' pre.length l.length).filter fun i => match (pre ++ l)[i]? with | some s => f s | none => true) = pinsK pre.length l
  | [], pre => rfl
  | s :: l, pre => by
    have ih := pins_from f hf l (pre ++ [s])
    rw [List.length_append, List.length_singleton, List.append_assoc, List.singleton_append] at ih
    rw [List.length_cons, List.range'_succ, List.filter_cons, ih]
    have : (pre ++ s :: l)[pre.length]? = some s := by simp
    rw [this]
    dsimp only
    obtain ⟨m, d⟩ := s
    obtain ⟨h1, h2, h3⟩ := hf d
    cases m with
    | frz => rw [if_neg (by rw [h1]; exact Bool.false_ne_true)]; rfl
    | own => rw [if_pos h2]; rfl
    | lck => rw [if_pos h3]; rfl
@[simp] theorem pins_k (l : List SV) : pins l = pinsK 0 l := by
  have := pins_from (fun s => match s with | ⟨.frz, _⟩ => false | _ => true) (fun d => ⟨rfl, rfl, rfl⟩) l []
  rw [List.nil_append] at this
  rw [show pinsK 0 l = pinsK ([] : List SV).length l from rfl, ← this]
  unfold pins
  rw [List.range_eq_range']
  congr 1
  funext i
  cases l[i]? with
  | none => rfl
  | some s => obtain ⟨m, d⟩ := s; cases m <;> rfl
@[simp] theorem pinsK_n (k : Nat) : pinsK k [] = [] := rfl
@[simp] theorem pinsK_f (k : Nat) (d : D) (r : List SV) : pinsK k (⟨.frz, d⟩ :: r) = pinsK (k + 1) r := rfl
@[simp] theorem pinsK_o (k : Nat) (d : D) (r : List SV) : pinsK k (⟨.own, d⟩ :: r) = k :: pinsK (k + 1) r := rfl
@[simp] theorem pinsK_l (k : Nat) (d : D) (r : List SV) : pinsK k (⟨.lck, d⟩ :: r) = k :: pinsK (k + 1) r := rfl
/-- a call by values alone -/
def gotK (σ : EnvD) : RF → R (SV × EnvD)
  | .ok r _ => .ok (r, σ)
  | .exc c _ => .exc c σ
  | .bad => .bad
@[simp] theorem callK_0 (σ : EnvD) (rf : RF) : callK ([], σ) rf = gotK σ rf := by cases rf <;> simp [callK, gotK]
@[simp] theorem callK_1 (a : SV) (σ : EnvD) (rf : RF) : callK ([.val a], σ) rf = gotK σ rf := by cases rf <;> simp [callK, gotK]
@[simp] theorem callK_2 (a b : SV) (σ : EnvD) (rf : RF) : callK ([.val a, .val b], σ) rf = gotK σ rf := by cases rf <;> simp [callK, gotK]
@[simp] theorem callK_3 (a b c : SV) (σ : EnvD) (rf : RF) : callK ([.val a, .val b, .val c], σ) rf = gotK σ rf := by cases rf <;> simp [callK, gotK]
@[simp] theorem callK_4 (a b c d : SV) (σ : EnvD) (rf : RF) : callK ([.val a, .val b, .val c, .val d], σ) rf = gotK σ rf := by cases rf <;> simp [callK, gotK]
@[simp] theorem callK_5 (a b c d e : SV) (σ : EnvD) (rf : RF) : callK ([.val a, .val b, .val c, .val d, .val e], σ) rf = gotK σ rf := by cases rf <;> simp [callK, gotK]
@[simp] theorem callK_6 (a b c d e f : SV) (σ : EnvD) (rf : RF) : callK ([.val a, .val b, .val c, .val d, .val e, .val f], σ) rf = gotK σ rf := by cases rf <;> simp [callK, gotK]
@[simp] theorem gotK_ok (σ : EnvD) (r : SV) (o : EnvD) : gotK σ (.ok r o) = .ok (r, σ) := rfl
@[simp] theorem gotK_exc (σ : EnvD) (c : Str) (o : EnvD) : gotK σ (.exc c o) = .exc c σ := rfl
/-- a slot's value that may be stored over -/
def nl : Option SV → Prop
  | some ⟨.lck, _⟩ => False
  | _ => True
theorem stK_nl {i : Nat} {sv : SV} {σ : EnvD} {x : Option SV} (h : nl x) : stK i sv σ x = .ok (σ.set i (some sv)) := by
  cases x with
  | none => rfl
  | some s => obtain ⟨m, d⟩ := s; cases m <;> first | rfl | exact h.elim
@[simp] theorem nl_n : nl none := trivial
@[simp] theorem nl_f (d : D) : nl (some ⟨.frz, d⟩) := trivial
@[simp] theorem nl_o (d : D) : nl (some ⟨.own, d⟩) := trivial

/-! ### loops -/
theorem forR_inv {bnd : D → EnvD → Option EnvD} {body : EnvD → R Fl} (I : EnvD → Prop) : ∀ (xs : List D) (σ : EnvD), I σ → (∀ x ∈ xs, ∀ σ, I σ → ∃ σ1, bnd x σ = some σ1 ∧ ∃ σ2, body σ1 = .ok (.nx σ2) ∧ I σ2) → ∃ σ2, forR bnd body xs σ = .ok (.nx σ2) ∧ I σ2
  | [], σ, h, _ => ⟨σ, rfl, h⟩
  | x :: xs, σ, h, hb => by
    obtain ⟨σ1, e1, σ2, e2, h2⟩ := hb x List.mem_cons_self σ h
    obtain ⟨σ3, e3, h3⟩ := forR_inv I xs σ2 h2 fun y hy => hb y (List.mem_cons_of_mem _ hy)
    refine ⟨σ3, ?_, h3⟩
    rw [forR, e1, ofOpt_some, R.bind_ok, e2, R.bind_ok]
    exact e3
theorem whileR_f {tst : EnvD → R (Bool × EnvD)} {body : EnvD → R Fl} {σ σ1 : EnvD} (h : tst σ = .ok (false, σ1)) : whileR tst body σ = .ok (.nx σ1) := by
  rw [whileR_turn, h]; rfl
theorem whileR_t {tst : EnvD → R (Bool × EnvD)} {body : EnvD → R Fl} {σ σ1 σ2 : EnvD} (h : tst σ = .ok (true, σ1)) (hb : body σ1 = .ok (.nx σ2)) : whileR tst body σ = whileR tst body σ2 := by
  rw [whileR_turn, h, R.bind_ok, if_pos rfl, hb]; rfl
theorem s_while (C : Str → Option D) (cf : Str → List SV → RF) (σ : EnvD) (np : Nat) (pn : List Nat) (c : ME) (b : MSs) : evS C cf np pn (.while c b) σ = whileR (evB C cf c) (evSS C cf np pn b) σ := by rw [evS]; rfl
@[simp] theorem bindC_name (pn : List Nat) (i : Nat) (d : D) (σ : EnvD) : bindC pn (.name i) d σ = if free pn σ i = true then some (σ.set i (some (fz d))) else none := by
  unfold bindC
  simp [pat, bindP]
def freeK : Option SV → Bool
  | some ⟨.lck, _⟩ => false
  | _ => true
@[simp] theorem free_k (pn : List Nat) (σ : EnvD) (i : Nat) : free pn σ i = (!(pn.contains i) && freeK (slotAt σ i)) := rfl
theorem freeK_nl {x : Option SV} (h : nl x) : freeK x = true := by
  cases x with
  | none => rfl
  | some s => obtain ⟨m, d⟩ := s; cases m <;> first | rfl | exact h.elim
@[simp] theorem freeK_n : freeK none = true := rfl
@[simp] theorem freeK_f (d : D) : freeK (some ⟨.frz, d⟩) = true := rfl
@[simp] theorem freeK_o (d : D) : freeK (some ⟨.own, d⟩) = true := rfl
/-! ### comprehensions whose items are made of data alone -/
theorem comp_turns (C : Str → Option D) (cf : Str → List SV → RF) {i : Nat} {e : ME} {σ0 : EnvD} (g : D → SV) : ∀ (xs acc : List D) (y : Option SV), (∀ x ∈ xs, evV C cf e (σ0.set i (some (fz x))) = .ok (g x, σ0.set i (some (fz x)))) → acc.length + xs.length ≤ sizeLine →
    ∃ y', compR (fun σ => wipeD σ [i]) (bindP (.name i)) (evT C cf .nil) (evV C cf e) xs acc (σ0.set i y) = .ok (acc ++ xs.map (fun x => (g x).d), σ0.set i y')
  | [], acc, y, _, _ => ⟨y, by rw [compR]; simp⟩
  | x :: xs, acc, y, h, hl => by
    rw [List.length_cons] at hl
    obtain ⟨y', ih⟩ := comp_turns C cf g xs (acc ++ [(g x).d]) (some (fz x)) (fun z hz => h z (List.mem_cons_of_mem _ hz)) (by rw [List.length_append, List.length_singleton]; omega)
    refine ⟨y', ?_⟩
    rw [compR]
    have e1 : bindP (.name i) x (wipeD (σ0.set i y) [i]) = some (σ0.set i (some (fz x))) := by simp [wipeD, bindP, List.set_set]
    rw [e1, ofOpt_some, R.bind_ok, e_t_n, R.bind_ok, if_pos rfl]
    dsimp only
    rw [h x List.mem_cons_self, R.bind_ok, if_pos (by omega)]
    dsimp only
    rw [ih]
    simp
theorem comp_pure {C : Str → Option D} {cf : Str → List SV → RF} {i : Nat} {it : MI} {e : ME} {σ σ0 : EnvD} {xs : List D} {held : List Nat} (hit : evI C cf it σ = .ok (⟨xs, [], held⟩, σ0)) (hh : held.any ([i].contains ·) = false) (hi : i < σ0.length) (hl : xs.length ≤ sizeLine) (g : D → SV)
    (he : ∀ x ∈ xs, evV C cf e (σ0.set i (some (fz x))) = .ok (g x, σ0.set i (some (fz x)))) : evV C cf (.comp [i] (.name i) it .nil e) σ = .ok (ow (.list (xs.map fun x => (g x).d)), σ0) := by
  rw [evV, hit, R.bind_ok]
  dsimp only
  rw [if_neg (by rw [hh]; exact Bool.false_ne_true)]
  obtain ⟨y', h⟩ := comp_turns C cf (i := i) (σ0 := σ0) (e := e) g xs [] none he (by simpa using hl)
  have h' : compR (fun σ => wipeD σ [i]) (bindP (.name i)) (evT C cf .nil) (evV C cf e) xs [] (wipeD (lendAll σ0 []) [i]) = .ok ([] ++ xs.map (fun x => (g x).d), σ0.set i y') := h
  rw [h', R.onX_ok, R.bind_ok]
  have : unlend (backD (lendAll σ0 []) (σ0.set i y') [i]) [] = σ0 := by
    show backD σ0 (σ0.set i y') [i] = σ0
    rw [backD, backD, List.set_set]
    apply List.ext_getElem?
    intro j
    rw [List.getElem?_set]
    by_cases ij : i = j
    · subst ij
      rw [if_pos rfl, if_pos hi]
      unfold slotAt
      rw [List.getElem?_eq_getElem hi]
      rfl
    · rw [if_neg ij]
  rw [this]
  simp
theorem i_rng1 {C : Str → Option D} {cf : Str → List SV → RF} {b : ME} {σ σ' : EnvD} {m : Md} {j : Int} (h : evV C cf b σ = .ok (⟨m, .int j⟩, σ')) (h1 : -(2 ^ 62) ≤ j) (h2 : j < 2 ^ 62) : evI C cf (.rng1 b) σ = .ok (⟨rangeD 0 j.toNat 1, [], []⟩, σ') := by
  rw [evI, h, R.bind_ok]
  have : i62 j = true := by unfold i62; simp; omega
  simp [this]
theorem rangeD_mem {n : Nat} {x : D} (h : x ∈ rangeD 0 n 1) : ∃ k : Nat, k < n ∧ x = .int k := by
  obtain ⟨i, hi, e⟩ := List.getElem_of_mem h
  obtain ⟨h1, h2⟩ := rangeD_get (i := i) (d := x) (by rw [List.getElem?_eq_getElem hi, e])
  exact ⟨i, h1, by rw [h2]; simp⟩
noncomputable def forK (l : List Nat) : Fl → R Fl
  | .nx σ' => .ok (.nx (unlend σ' l))
  | .rt sv σ' => .ok (.rt sv (unlend σ' l))
  | f => .ok f
theorem s_for (C : Str → Option D) (cf : Str → List SV → RF) (σ : EnvD) (np : Nat) (pn : List Nat) (p : MP) (it : MI) (b : MSs) : evS C cf np pn (.for p it b) σ = (evI C cf it σ).bind fun s => ((forR (bindC pn p) (evSS C cf np pn b) s.1.items (lendAll s.2 s.1.lent)).onX fun σ' => unlend σ' s.1.lent).bind (forK s.1.lent) := by
  rw [evS]
  congr 1
end RH
set_option maxRecDepth 100000
set_option maxHeartbeats 4000000
namespace RH.S
open PySem PySem.Spec L2
/-! ### data that can be compared -/
def Ok (n : Nat) (d : D) : Prop := d.canLay0 = true ∧ d.depth ≤ n
theorem canAll_iff : ∀ xs : List D, PyData.canLayAll0 xs = true ↔ ∀ x ∈ xs, PyData.canLay0 x = true
  | [] => by simp [PyData.canLayAll0]
  | x :: xs => by simp [PyData.canLayAll0, canAll_iff xs]
theorem depthAll_iff (n : Nat) : ∀ xs : List D, PyData.depthAll xs ≤ n ↔ ∀ x ∈ xs, PyData.depth x ≤ n
  | [] => by simp [PyData.depthAll]
  | x :: xs => by simp [PyData.depthAll, depthAll_iff n xs, Nat.max_le]
@[simp] theorem Ok_none (n : Nat) : Ok n .none := ⟨rfl, Nat.zero_le _⟩
@[simp] theorem Ok_int (n : Nat) (i : Int) : Ok n (.int i) := ⟨rfl, Nat.zero_le _⟩
@[simp] theorem Ok_bool (n : Nat) (i : Bool) : Ok n (.bool i) := ⟨rfl, Nat.zero_le _⟩
@[simp] theorem Ok_str (n : Nat) (x : Str) : Ok n (.str x) ↔ PyData.strOk x = true := by
  constructor
  · intro h; simpa [PyData.canLay0] using h.1
  · intro h; exact ⟨by simpa [PyData.canLay0] using h, Nat.zero_le _⟩
@[simp] theorem Ok_tuple (n : Nat) (xs : List D) : Ok (n + 1) (.tuple xs) ↔ ∀ x ∈ xs, Ok n x := by
  unfold Ok
  simp only [PyData.canLay0, PyData.depth, canAll_iff, Nat.add_le_add_iff_right, depthAll_iff]
  exact ⟨fun h x hx => ⟨h.1 x hx, h.2 x hx⟩, fun h => ⟨fun x hx => (h x hx).1, fun x hx => (h x hx).2⟩⟩
@[simp] theorem Ok_list (n : Nat) (xs : List D) : Ok (n + 1) (.list xs) ↔ ∀ x ∈ xs, Ok n x := by
  unfold Ok
  simp only [PyData.canLay0, PyData.depth, canAll_iff, Nat.add_le_add_iff_right, depthAll_iff]
  exact ⟨fun h x hx => ⟨h.1 x hx, h.2 x hx⟩, fun h => ⟨fun x hx => (h x hx).1, fun x hx => (h x hx).2⟩⟩
theorem Ok_le {m n : Nat} {d : D} (h : Ok m d) (hl : m ≤ n) : Ok n d := ⟨h.1, Nat.le_trans h.2 hl⟩
theorem okD_of {n : Nat} {d : D} (h : Ok n d) (hn : n ≤ 64) : okD d = true := by
  unfold okD SeqAt.shaped
  simp [h.1, Nat.le_trans h.2 hn]
theorem o_eq {a b : D} (ha : okD a = true) (hb : okD b = true) : opD .eq [a, b] = some (fz (.bool (PyData.eqv a b))) := by
  show dEq false [a, b] = _
  simp [dEq, ha, hb]
theorem o_ne {a b : D} (ha : okD a = true) (hb : okD b = true) : opD .ne [a, b] = some (fz (.bool (!PyData.eqv a b))) := by
  show dEq true [a, b] = _
  simp [dEq, ha, hb]
theorem eqv_self {a : D} (ha : okD a = true) : PyData.eqv a a = true := SeqAt.eqv_refl a (SeqAt.canLay_of_shaped ha)
@[simp] theorem eqv_tn (xs : List D) : PyData.eqv (.tuple xs) .none = false := rfl
@[simp] theorem eqv_nt (xs : List D) : PyData.eqv .none (.tuple xs) = false := rfl
@[simp] theorem eqv_nn : PyData.eqv .none .none = true := rfl
@[simp] theorem okD_none : okD .none = true := rfl
@[simp] theorem okD_int (i : Int) : okD (.int i) = true := rfl
@[simp] theorem okD_bool (i : Bool) : okD (.bool i) = true := rfl
/-! ### slices -/
theorem cut_lo {xs : List D} {i : Int} (h : 0 ≤ i) : cutD xs none (some i) = xs.take i.toNat := by
  obtain ⟨k, rfl⟩ := Int.eq_ofNat_of_zero_le h
  simp [cutD, HT.sIx_none, HT.sIx_nat]
theorem cut_hi {xs : List D} {i : Int} (h : 0 ≤ i) : cutD xs (some i) none = xs.drop i.toNat := by
  obtain ⟨k, rfl⟩ := Int.eq_ofNat_of_zero_le h
  simp [cutD, HT.sIx_none, HT.sIx_nat]
  rw [List.take_of_length_le (by simp)]
  by_cases hk : k ≤ xs.length
  · rw [Nat.min_eq_left hk]
  · rw [Nat.min_eq_right (by omega), List.drop_of_length_le (Nat.le_refl _), List.drop_of_length_le (by omega)]
theorem cut_lh {xs : List D} {i j : Int} (h : 0 ≤ i) (h2 : i ≤ j) : cutD xs (some i) (some j) = (xs.take j.toNat).drop i.toNat := by
  obtain ⟨k, rfl⟩ := Int.eq_ofNat_of_zero_le h
  obtain ⟨l, rfl⟩ := Int.eq_ofNat_of_zero_le (Int.le_trans h h2)
  simp only [cutD, HT.sIx_nat, Int.toNat_natCast, List.drop_take]
  by_cases hk : k ≤ xs.length
  · rw [Nat.min_eq_left hk]
    by_cases hl : l ≤ xs.length
    · rw [Nat.min_eq_left hl]
    · rw [Nat.min_eq_right (by omega)]
      rw [List.take_of_length_le (by simp), List.take_of_length_le (by simp; omega)]
  · rw [Nat.min_eq_right (a := k) (by omega), List.drop_of_length_le (Nat.le_refl _), List.drop_of_length_le (i := k) (by omega)]
    simp
@[simp] theorem sl_t (xs : List D) (p q : Option Int) : slD (.tuple xs) p q = some (fz (.tuple (cutD xs p q))) := rfl
@[simp] theorem sl_l (xs : List D) (p q : Option Int) : slD (.list xs) p q = some (ow (.list (cutD xs p q))) := rfl
@[simp] theorem o_add_t (a b : List D) : opD .add [.tuple a, .tuple b] = if a.length + b.length ≤ sizeLine then some (fz (.tuple (a ++ b))) else none := rfl
@[simp] theorem o_add_l (a b : List D) : opD .add [.list a, .list b] = if a.length + b.length ≤ sizeLine then some (ow (.list (a ++ b))) else none := rfl
@[simp] theorem atI_4 {α : Type} (x y z u v : α) (r : List α) : atI (x :: y :: z :: u :: v :: r) 4 = some v := atI_at (k := 4) rfl
@[simp] theorem atI_5 {α : Type} (x y z u v w : α) (r : List α) : atI (x :: y :: z :: u :: v :: w :: r) 5 = some w := atI_at (k := 5) rfl
@[simp] theorem atI_6 {α : Type} (x y z u v w t : α) (r : List α) : atI (x :: y :: z :: u :: v :: w :: t :: r) 6 = some t := atI_at (k := 6) rfl
@[simp] theorem o_tuple_l (xs : List D) : opD .tuple [.list xs] = some (fz (.tuple xs)) := rfl
@[simp] theorem o_tuple_t (xs : List D) : opD .tuple [.tuple xs] = some (fz (.tuple xs)) := rfl
@[simp] theorem o_list_l (xs : List D) : opD .list [.list xs] = some (ow (.list xs)) := rfl
@[simp] theorem o_list_t (xs : List D) : opD .list [.tuple xs] = some (ow (.list xs)) := rfl
theorem sz {n : Nat} (h : n ≤ 1000000) : n ≤ sizeLine := by rw [sizeLine_eq]; omega
/-! ### comprehensions -/
/-- one turn: the item drops out, or gives a datum; what is not the comprehension's own stays -/
def Turn (C : Str → Option D) (cf : Str → List SV → RF) (own : List Nat) (p : MP) (cs : MEs) (e : ME) (τ : EnvD) (g : D → Option D) (x : D) : Prop :=
  ∃ σ1, bindP p x (wipeD τ own) = some σ1 ∧ ((∃ σ2, evT C cf cs σ1 = .ok (false, σ2) ∧ wipeD σ2 own = wipeD τ own ∧ g x = none) ∨
    ∃ σ2 σ3 v, evT C cf cs σ1 = .ok (true, σ2) ∧ evV C cf e σ2 = .ok (v, σ3) ∧ wipeD σ3 own = wipeD τ own ∧ g x = some v.d)
theorem comp_go {C : Str → Option D} {cf : Str → List SV → RF} {own : List Nat} {p : MP} {cs : MEs} {e : ME} {τ : EnvD} {g : D → Option D} : ∀ (xs acc : List D) (σ : EnvD), wipeD σ own = wipeD τ own → (∀ x ∈ xs, Turn C cf own p cs e τ g x) → acc.length + xs.length ≤ sizeLine →
    ∃ σ', wipeD σ' own = wipeD τ own ∧ compR (fun σ => wipeD σ own) (bindP p) (evT C cf cs) (evV C cf e) xs acc σ = .ok (acc ++ xs.filterMap g, σ')
  | [], acc, σ, hw, _, _ => ⟨σ, hw, by rw [compR]; simp⟩
  | x :: xs, acc, σ, hw, h, hl => by
    rw [List.length_cons] at hl
    obtain ⟨σ1, hb, hc⟩ := h x List.mem_cons_self
    rw [compR]
    rw [hw, hb, ofOpt_some, R.bind_ok]
    rcases hc with ⟨σ2, ht, hw2, hg⟩ | ⟨σ2, σ3, v, ht, he, hw3, hg⟩
    · rw [ht, R.bind_ok]
      obtain ⟨σ', w', ih⟩ := comp_go xs acc σ2 hw2 (fun z hz => h z (List.mem_cons_of_mem _ hz)) (by omega)
      refine ⟨σ', w', ?_⟩
      rw [if_neg (by simp), ih, List.filterMap_cons_none hg]
    · rw [ht, R.bind_ok]
      obtain ⟨σ', w', ih⟩ := comp_go xs (acc ++ [v.d]) σ3 hw3 (fun z hz => h z (List.mem_cons_of_mem _ hz)) (by rw [List.length_append, List.length_singleton]; omega)
      refine ⟨σ', w', ?_⟩
      rw [if_pos rfl]
      dsimp only
      rw [he, R.bind_ok, if_pos (by omega)]
      dsimp only
      rw [ih, List.filterMap_cons_some hg, List.append_assoc, List.singleton_append]
theorem slotAt_getElem {σ : EnvD} {j : Nat} (h : j < σ.length) : slotAt σ j = σ[j] := by
  unfold slotAt; rw [List.getElem?_eq_getElem h]; rfl
theorem back_wipe {own : List Nat} {σ τ : EnvD} (h : wipeD σ own = wipeD τ own) : backD τ σ own = τ := by
  have hl : σ.length = τ.length := by rw [← wipeD_len own σ, h, wipeD_len]
  apply List.ext_getElem (by rw [backD_len, hl])
  intro j h1 h2
  rw [← slotAt_getElem h1, ← slotAt_getElem h2, backD_at own σ hl]
  by_cases hj : j ∈ own
  · rw [if_pos hj]
  · rw [if_neg hj]
    have e : (wipeD σ own)[j]? = (wipeD τ own)[j]? := by rw [h]
    rw [wipeD_get, wipeD_get, if_neg hj, if_neg hj] at e
    unfold slotAt
    rw [e]
theorem comp_is {C : Str → Option D} {cf : Str → List SV → RF} {own : List Nat} {p : MP} {it : MI} {cs : MEs} {e : ME} {σ σ0 : EnvD} {xs : List D} {lent held : List Nat} (hit : evI C cf it σ = .ok (⟨xs, lent, held⟩, σ0)) (hh : held.any (own.contains ·) = false) (hl : xs.length ≤ sizeLine) (g : D → Option D)
    (he : ∀ x ∈ xs, Turn C cf own p cs e (lendAll σ0 lent) g x) : evV C cf (.comp own p it cs e) σ = .ok (ow (.list (xs.filterMap g)), unlend (lendAll σ0 lent) lent) := by
  rw [evV, hit, R.bind_ok]
  dsimp only
  rw [if_neg (by rw [hh]; exact Bool.false_ne_true)]
  obtain ⟨σ', hw, h⟩ := comp_go (C := C) (cf := cf) (own := own) (p := p) (cs := cs) (e := e) (τ := lendAll σ0 lent) (g := g) xs [] (wipeD (lendAll σ0 lent) own) wipeD_idem he (by simpa using hl)
  rw [h, R.onX_ok, R.bind_ok]
  dsimp only
  rw [back_wipe hw, List.nil_append]
/-! ### sources of loops -/
theorem i_seq_v {C : Str → Option D} {cf : Str → List SV → RF} {σ : EnvD} {i : Nat} {d : D} {xs : List D} (h : slotAt σ i = some (fz d)) (hx : seqItems d = some xs) : evI C cf (.seq (.var i)) σ = .ok (⟨xs, [], []⟩, σ) := by
  rw [evI]
  simp [h, hx, lend, heldO]
theorem i_seq_o {C : Str → Option D} {cf : Str → List SV → RF} {σ : EnvD} {i : Nat} {d : D} {xs : List D} (h : slotAt σ i = some (ow d)) (hx : seqItems d = some xs) : evI C cf (.seq (.var i)) σ = .ok (⟨xs, [i], [i]⟩, σ) := by
  rw [evI]
  simp [h, hx, lend, heldO]
theorem i_seq_e {C : Str → Option D} {cf : Str → List SV → RF} {σ σ' : EnvD} {e : ME} {v : SV} {xs : List D} (hv : isVar e = none) (h : evV C cf e σ = .ok (v, σ')) (hx : seqItems v.d = some xs) : evI C cf (.seq e) σ = .ok (⟨xs, [], []⟩, σ') := by
  rw [evI, hv]
  simp [h, hx, lend, heldO]
/-! ### unpacking and try -/
section
variable (C : Str → Option D) (cf : Str → List SV → RF) (σ : EnvD) (np : Nat) (pn : List Nat)
def spK1 : Option EnvD → R Fl
  | some σ' => .ok (.nx σ')
  | none => .bad
def spK (p : MP) (q : SV × EnvD) : R Fl := spK1 (match p, q.1.d with
      | .tup ps, .list ds => bindC pn p (.tuple ds) q.2
      | _, d => bindC pn p d q.2)
@[simp] theorem spK1_s (σ' : EnvD) : spK1 (some σ') = .ok (.nx σ') := rfl
@[simp] theorem spK_l (ps : List MP) (m : Md) (ds : List D) : spK pn (.tup ps) (⟨m, .list ds⟩, σ) = spK1 (bindC pn (.tup ps) (.tuple ds) σ) := rfl
@[simp] theorem spK_t (ps : List MP) (m : Md) (ds : List D) : spK pn (.tup ps) (⟨m, .tuple ds⟩, σ) = spK1 (bindC pn (.tup ps) (.tuple ds) σ) := rfl
@[simp] theorem s_setp (p : MP) (e : ME) : evS C cf np pn (.setp p e) σ = (evV C cf e σ).bind (spK pn p) := by
  rw [evS]
  refine bind_K fun q => ?_
  have h : ∀ o : Option EnvD, ((ofOpt o).bind fun σ' => R.ok (Fl.nx σ')) = spK1 o := fun o => by cases o <;> rfl
  exact h _
@[simp] theorem pat_name (i : Nat) : pat (.name i) = [i] := by rw [pat]
@[simp] theorem pat_tup (ps : List MP) : pat (.tup ps) = pat.patAll ps := by rw [pat]
@[simp] theorem patAll_n : pat.patAll [] = [] := by rw [pat.patAll]
@[simp] theorem patAll_c (p : MP) (ps : List MP) : pat.patAll (p :: ps) = pat p ++ pat.patAll ps := by rw [pat.patAll]
@[simp] theorem bindP_name (i : Nat) (d : D) : bindP (.name i) d σ = some (σ.set i (some (fz d))) := by rw [bindP]
@[simp] theorem bindP_tup (ps : List MP) (ds : List D) : bindP (.tup ps) (.tuple ds) σ = bindPs ps ds σ := by rw [bindP]
@[simp] theorem bindPs_n : bindPs [] [] σ = some σ := by rw [bindPs]
@[simp] theorem bindPs_c (p : MP) (ps : List MP) (d : D) (ds : List D) : bindPs (p :: ps) (d :: ds) σ = (bindP p d σ).bind (bindPs ps ds) := by rw [bindPs]
@[simp] theorem bindC_tup (ps : List MP) (d : D) : bindC pn (.tup ps) d σ = if (pat.patAll ps).all (free pn σ) = true then bindP (.tup ps) d σ else none := by
  unfold bindC
  rw [pat_tup]
noncomputable def tryK1 (h : MSs) (x : Str) (s : EnvD) : Option Bool → R Fl
  | some true => evSS C cf np pn h s
  | some false => .exc x s
  | none => .bad
noncomputable def tryK (tab : List (Str × Bool)) (h : MSs) : R Fl → R Fl
  | .exc x s => tryK1 C cf np pn h x s (lookX tab x)
  | .ok f => .ok f
  | .bad => .bad
@[simp] theorem tryK1_t (h : MSs) (x : Str) (s : EnvD) : tryK1 C cf np pn h x s (some true) = evSS C cf np pn h s := rfl
@[simp] theorem tryK1_f (h : MSs) (x : Str) (s : EnvD) : tryK1 C cf np pn h x s (some false) = .exc x s := rfl
@[simp] theorem tryK_x (tab : List (Str × Bool)) (h : MSs) (x : Str) (s : EnvD) : tryK C cf np pn tab h (.exc x s) = tryK1 C cf np pn h x s (lookX tab x) := rfl
@[simp] theorem tryK_o (tab : List (Str × Bool)) (h : MSs) (f : Fl) : tryK C cf np pn tab h (.ok f) = .ok f := rfl
@[simp] theorem s_try (b : MSs) (c : Str) (tab : List (Str × Bool)) (h : MSs) : evS C cf np pn (.try1 b c tab h) σ = tryK C cf np pn tab h (evSS C cf np pn b σ) := by
  rw [evS]
  generalize evSS C cf np pn b σ = r
  cases r with
  | ok f => rfl
  | exc x s =>
    rw [tryK_x]
    dsimp only
    cases lookX tab x with
    | none => rfl
    | some t => cases t <;> rfl
  | bad => rfl
end
@[simp] theorem isNoneD_n : isNoneD .none = true := rfl
@[simp] theorem isNoneD_t (xs : List D) : isNoneD (.tuple xs) = false := rfl
@[simp] theorem isNoneD_l (xs : List D) : isNoneD (.list xs) = false := rfl
@[simp] theorem isNoneD_d (xs : List (D × D)) : isNoneD (.dict xs) = false := rfl
@[simp] theorem isNoneD_i (i : Int) : isNoneD (.int i) = false := rfl
@[simp] theorem isNoneD_s (i : Str) : isNoneD (.str i) = false := rfl
@[simp] theorem isNoneD_b (i : Bool) : isNoneD (.bool i) = false := rfl
/-! ### loops with a count -/
theorem forR_cnt {bnd : D → EnvD → Option EnvD} {body : EnvD → R Fl} (I : Nat → EnvD → Prop) (m : Nat) : ∀ (xs : List D) (n : Nat) (σ : EnvD), I n σ → n + xs.length ≤ m → (∀ x ∈ xs, ∀ n σ, n < m → I n σ → ∃ σ1, bnd x σ = some σ1 ∧ ∃ σ2, body σ1 = .ok (.nx σ2) ∧ I (n + 1) σ2) → ∃ σ2, forR bnd body xs σ = .ok (.nx σ2) ∧ I (n + xs.length) σ2
  | [], n, σ, h, _, _ => ⟨σ, rfl, h⟩
  | x :: xs, n, σ, h, hm, hb => by
    rw [List.length_cons] at hm
    obtain ⟨σ1, e1, σ2, e2, h2⟩ := hb x List.mem_cons_self n σ (by omega) h
    obtain ⟨σ3, e3, h3⟩ := forR_cnt I m xs (n + 1) σ2 h2 (by omega) fun y hy => hb y (List.mem_cons_of_mem _ hy)
    refine ⟨σ3, ?_, by rw [List.length_cons, Nat.add_comm xs.length, ← Nat.add_assoc]; exact h3⟩
    rw [forR, e1, ofOpt_some, R.bind_ok, e2, R.bind_ok]
    exact e3
end RH.S
set_option maxRecDepth 100000
set_option maxHeartbeats 4000000
namespace RH.S
open PySem PySem.Spec L2
/-! ### the law's own loop -/
def InvJ (sc : D) (m : Nat) (σ : EnvD) : Prop := ∃ js : List (Option SV), js.length = m ∧ (∀ x ∈ js, nl x) ∧ σ = some (fz sc) :: js
def rngM (A B : Int) : MI := .rng1 (.op .max2 (.cons (.cst (.int A)) (.cons (.op .min2 (.cons (.cst (.int B)) (.cons (.op .len (.cons (.var 0) .nil)) .nil))) .nil)))
theorem law_loop {C : Str → Option D} {Γ : Str → Option FD} {n m : Nat} {f : Str} {A B : Int} {body : MSs} {ns : List Int} (hn : ns.length ≤ 63) (hA : 0 ≤ A ∧ A < 1000) (hB : 0 ≤ B ∧ B < 1000)
    (h : Γ f = some ⟨1, m + 2, .cons (.for (.name 1) (rngM A B) body) (.cons (.ret (.cst (.bool true))) .nil)⟩)
    (hb : ∀ (k : Int), 0 ≤ k → k < 1000 → ∀ js : List (Option SV), js.length = m → (∀ x ∈ js, nl x) → ∃ σ2, evSS C (callF C Γ n) 1 [] body (some (fz (.list (ns.map PyData.int))) :: some (fz (.int k)) :: js) = .ok (.nx σ2) ∧ InvJ (.list (ns.map PyData.int)) (m + 1) σ2) :
    ∃ outs, callF C Γ (n + 1) f [fz (.list (ns.map PyData.int))] = .ok (fz (.bool true)) outs := by
  rw [cal_of h rfl]
  have hl : ns.length ≤ sizeLine := by rw [sizeLine_eq]; omega
  rw [s_cons, s_for]
  have e1 : evI C (callF C Γ n) (rngM A B) ([fz (.list (ns.map PyData.int))].map some ++ List.replicate (m + 2 - 1) none) = .ok (⟨rangeD 0 (max A (min B ns.length)).toNat 1, [], []⟩, [fz (.list (ns.map PyData.int))].map some ++ List.replicate (m + 2 - 1) none) := by
    unfold rngM
    refine i_rng1 (m := .frz) ?_ (by omega) (by omega)
    simp [hl]
    have : (if (ns.length : Int) < B then (ns.length : Int) else B) = min B ns.length := by split <;> omega
    rw [this]
    split <;> omega
  rw [e1, R.bind_ok]
  dsimp only
  have hI : InvJ (.list (ns.map PyData.int)) (m + 1) ([fz (.list (ns.map PyData.int))].map some ++ List.replicate (m + 2 - 1) none) := ⟨List.replicate (m + 1) none, by simp, fun x hx => by rw [(List.mem_replicate.mp hx).2]; trivial, rfl⟩
  obtain ⟨σ2, e, I⟩ := forR_inv (bnd := bindC [] (.name 1)) (body := evSS C (callF C Γ n) 1 [] body) (InvJ (.list (ns.map PyData.int)) (m + 1)) (rangeD 0 (max A (min B ns.length)).toNat 1) _ hI (fun x hx σ h => by
    obtain ⟨k, hk, rfl⟩ := rangeD_mem hx
    obtain ⟨js, hj, hnl, rfl⟩ := h
    cases js with
    | nil => simp at hj
    | cons j0 js =>
      refine ⟨some (fz (.list (ns.map PyData.int))) :: some (fz (.int k)) :: js, by simp [freeK_nl (hnl j0 List.mem_cons_self)], ?_⟩
      exact hb k (by omega) (by omega) js (by simpa using hj) fun x hx => hnl x (List.mem_cons_of_mem _ hx))
  obtain ⟨js, _, _, rfl⟩ := I
  have hp : pins [fz (.list (ns.map PyData.int))] = [] := by simp
  rw [hp, show lendAll ([fz (.list (ns.map PyData.int))].map some ++ List.replicate (m + 2 - 1) none) [] = [fz (.list (ns.map PyData.int))].map some ++ List.replicate (m + 2 - 1) none from rfl, e]
  simp [unlend, forK]
/-- the same with one statement ahead of the loop -/
theorem law_loop1 {C : Str → Option D} {Γ : Str → Option FD} {n m : Nat} {f : Str} {A B : Int} {body : MSs} {ns : List Int} (hn : ns.length ≤ 63) (hA : 0 ≤ A ∧ A < 1000) (hB : 0 ≤ B ∧ B < 1000)
    {s0 : MS} (h : Γ f = some ⟨1, m + 2, .cons s0 (.cons (.for (.name 1) (rngM A B) body) (.cons (.ret (.cst (.bool true))) .nil))⟩)
    (hs0 : evS C (callF C Γ n) 1 [] s0 ([fz (.list (ns.map PyData.int))].map some ++ List.replicate (m + 2 - 1) none) = .ok (.nx ([fz (.list (ns.map PyData.int))].map some ++ List.replicate (m + 2 - 1) none)))
    (hb : ∀ (k : Int), 0 ≤ k → k < 1000 → ∀ js : List (Option SV), js.length = m → (∀ x ∈ js, nl x) → ∃ σ2, evSS C (callF C Γ n) 1 [] body (some (fz (.list (ns.map PyData.int))) :: some (fz (.int k)) :: js) = .ok (.nx σ2) ∧ InvJ (.list (ns.map PyData.int)) (m + 1) σ2) :
    ∃ outs, callF C Γ (n + 1) f [fz (.list (ns.map PyData.int))] = .ok (fz (.bool true)) outs := by
  rw [cal_of h rfl]
  have hl : ns.length ≤ sizeLine := by rw [sizeLine_eq]; omega
  have hp : pins [fz (.list (ns.map PyData.int))] = [] := by simp
  rw [hp, s_cons, hs0, R.bind_ok, nextK_nx, s_cons, s_for]
  have e1 : evI C (callF C Γ n) (rngM A B) ([fz (.list (ns.map PyData.int))].map some ++ List.replicate (m + 2 - 1) none) = .ok (⟨rangeD 0 (max A (min B ns.length)).toNat 1, [], []⟩, [fz (.list (ns.map PyData.int))].map some ++ List.replicate (m + 2 - 1) none) := by
    unfold rngM
    refine i_rng1 (m := .frz) ?_ (by omega) (by omega)
    simp [hl]
    have : (if (ns.length : Int) < B then (ns.length : Int) else B) = min B ns.length := by split <;> omega
    rw [this]
    split <;> omega
  rw [e1, R.bind_ok]
  dsimp only
  have hI : InvJ (.list (ns.map PyData.int)) (m + 1) ([fz (.list (ns.map PyData.int))].map some ++ List.replicate (m + 2 - 1) none) := ⟨List.replicate (m + 1) none, by simp, fun x hx => by rw [(List.mem_replicate.mp hx).2]; trivial, rfl⟩
  obtain ⟨σ2, e, I⟩ := forR_inv (bnd := bindC [] (.name 1)) (body := evSS C (callF C Γ n) 1 [] body) (InvJ (.list (ns.map PyData.int)) (m + 1)) (rangeD 0 (max A (min B ns.length)).toNat 1) _ hI (fun x hx σ h => by
    obtain ⟨k, hk, rfl⟩ := rangeD_mem hx
    obtain ⟨js, hj, hnl, rfl⟩ := h
    cases js with
    | nil => simp at hj
    | cons j0 js =>
      refine ⟨some (fz (.list (ns.map PyData.int))) :: some (fz (.int k)) :: js, by simp [freeK_nl (hnl j0 List.mem_cons_self)], ?_⟩
      exact hb k (by omega) (by omega) js (by simpa using hj) fun x hx => hnl x (List.mem_cons_of_mem _ hx))
  obtain ⟨js, _, _, rfl⟩ := I
  rw [show lendAll ([fz (.list (ns.map PyData.int))].map some ++ List.replicate (m + 2 - 1) none) [] = [fz (.list (ns.map PyData.int))].map some ++ List.replicate (m + 2 - 1) none from rfl, e]
  simp [unlend, forK]
theorem s_putS {C : Str → Option D} {cf : Str → List SV → RF} {np : Nat} {pn : List Nat} {i : Nat} {lo hi e : ME} {σ σ1 σ2 σ3 : EnvD} {d d3 d' : D} {v : SV} {m m' : Md} {a b : Int} (h1 : slotAt σ i = some (ow d)) (he : evV C cf e σ = .ok (v, σ1)) (hl : evV C cf lo σ1 = .ok (⟨m, .int a⟩, σ2)) (hh : evV C cf hi σ2 = .ok (⟨m', .int b⟩, σ3))
    (h3 : slotAt σ3 i = some (ow d3)) (hp : putSD d3 a b v.d = some d') : evS C cf np pn (.putS i lo hi e) σ = .ok (.nx (σ3.set i (some (ow d')))) := by
  rw [evS, h1, if_pos (show isOwn (some (ow d)) = true from rfl), he, R.bind_ok]
  dsimp only
  rw [hl, R.bind_ok]
  dsimp only
  rw [asI_i, ofOpt_some, R.bind_ok, hh, R.bind_ok]
  dsimp only
  rw [asI_i, ofOpt_some, R.bind_ok, h3]
  dsimp only
  rw [hp, ofOpt_some, R.bind_ok]
/-! ### comprehensions that draw -/
theorem back_wiped {own : List Nat} {σ τ : EnvD} (hl : σ.length = τ.length) : backD τ (wipeD σ own) own = backD τ σ own := by
  have hl2 : (wipeD σ own).length = τ.length := by rw [wipeD_len, hl]
  apply List.ext_getElem (by rw [backD_len, backD_len, wipeD_len])
  intro j h1 h2
  rw [← slotAt_getElem h1, ← slotAt_getElem h2, backD_at own _ hl2, backD_at own _ hl]
  split
  · rfl
  · rename_i hj
    unfold slotAt
    rw [wipeD_get, if_neg hj]
theorem comp_st_go {S : Type} {C : Str → Option D} {cf : Str → List SV → RF} {own : List Nat} {p : MP} {e : ME} (E : S → EnvD) (P : D → Prop) : ∀ (xs acc : List D) (s : S) (σ : EnvD), wipeD σ own = E s →
    (∀ s, ∀ x ∈ xs, ∃ σ1, bindP p x (E s) = some σ1 ∧ ∃ v σ3 s', evV C cf e σ1 = .ok (v, σ3) ∧ wipeD σ3 own = E s' ∧ P v.d) → acc.length + xs.length ≤ sizeLine →
    ∃ ds s' σ', ds.length = xs.length ∧ (∀ d ∈ ds, P d) ∧ wipeD σ' own = E s' ∧ compR (fun σ => wipeD σ own) (bindP p) (evT C cf .nil) (evV C cf e) xs acc σ = .ok (acc ++ ds, σ')
  | [], acc, s, σ, hw, _, _ => ⟨[], s, σ, rfl, fun _ h => (nomatch h), hw, by rw [compR, List.append_nil]⟩
  | x :: xs, acc, s, σ, hw, h, hl => by
    rw [List.length_cons] at hl
    obtain ⟨σ1, hb, v, σ3, s', he, hw3, hP⟩ := h s x List.mem_cons_self
    obtain ⟨ds, s2, σ', hd, hPd, hw', ih⟩ := comp_st_go E P xs (acc ++ [v.d]) s' σ3 hw3 (fun s z hz => h s z (List.mem_cons_of_mem _ hz)) (by rw [List.length_append, List.length_singleton]; omega)
    refine ⟨v.d :: ds, s2, σ', by rw [List.length_cons, List.length_cons, hd], fun d hm => ?_, hw', ?_⟩
    · rcases List.mem_cons.mp hm with rfl | hm
      · exact hP
      · exact hPd d hm
    · rw [compR, hw, hb, ofOpt_some, R.bind_ok, e_t_n, R.bind_ok, if_pos rfl]
      dsimp only
      rw [he, R.bind_ok, if_pos (by omega)]
      dsimp only
      rw [ih, List.append_assoc, List.singleton_append]
/-- every turn gives a thing of one kind; the state goes on -/
theorem comp_st {S : Type} {C : Str → Option D} {cf : Str → List SV → RF} {own : List Nat} {p : MP} {it : MI} {e : ME} {σ σ0 : EnvD} {xs : List D} {lent held : List Nat} (E : S → EnvD) (P : D → Prop) (s0 : S)
    (hit : evI C cf it σ = .ok (⟨xs, lent, held⟩, σ0)) (hh : held.any (own.contains ·) = false) (hl : xs.length ≤ sizeLine) (h0 : wipeD (lendAll σ0 lent) own = E s0) (hlen : ∀ s, (E s).length = (E s0).length)
    (he : ∀ s, ∀ x ∈ xs, ∃ σ1, bindP p x (E s) = some σ1 ∧ ∃ v σ3 s', evV C cf e σ1 = .ok (v, σ3) ∧ wipeD σ3 own = E s' ∧ P v.d) :
    ∃ ds s', ds.length = xs.length ∧ (∀ d ∈ ds, P d) ∧ evV C cf (.comp own p it .nil e) σ = .ok (ow (.list ds), unlend (backD (lendAll σ0 lent) (E s') own) lent) := by
  obtain ⟨ds, s', σ', hd, hP, hw, h⟩ := comp_st_go (C := C) (cf := cf) (own := own) (p := p) (e := e) E P xs [] s0 (wipeD (lendAll σ0 lent) own) (by rw [wipeD_idem, h0]) he (by simpa using hl)
  refine ⟨ds, s', hd, hP, ?_⟩
  rw [evV, hit, R.bind_ok]
  dsimp only
  rw [if_neg (by rw [hh]; exact Bool.false_ne_true), h, R.onX_ok, R.bind_ok]
  dsimp only
  have e1 : σ'.length = (lendAll σ0 lent).length := by
    have := congrArg List.length hw
    rw [wipeD_len, hlen, ← h0, wipeD_len] at this
    exact this
  rw [← hw, back_wiped e1, List.nil_append]
theorem list_of {α : Type} {f : α → D} {Q : α → Prop} : ∀ {ds : List D}, (∀ d ∈ ds, ∃ a, Q a ∧ d = f a) → ∃ as : List α, ds = as.map f ∧ ∀ a ∈ as, Q a
  | [], _ => ⟨[], rfl, fun _ h => (nomatch h)⟩
  | d :: ds, h => by
    obtain ⟨a, ha, rfl⟩ := h d List.mem_cons_self
    obtain ⟨as, rfl, hq⟩ := list_of fun d hd => h d (List.mem_cons_of_mem _ hd)
    exact ⟨a :: as, rfl, fun b hb => by
      rcases List.mem_cons.mp hb with rfl | hb
      · exact ha
      · exact hq b hb⟩
@[simp] theorem o_notB (a b : Bool) : opD .notB [.bool a, .bool b] = some (fz (.bool (!decide (a = b)))) := by
  show some (fz (.bool (decide (a = b) != true))) = _
  simp
/-! ### loops by what holds between two turns -/
theorem forR_ix {bnd : D → EnvD → Option EnvD} {body : EnvD → R Fl} (I : Nat → EnvD → Prop) : ∀ (xs : List D) (k : Nat) (σ : EnvD), I k σ → (∀ (n : Nat) (x : D) (σ : EnvD), xs[n]? = some x → I (k + n) σ → ∃ σ1, bnd x σ = some σ1 ∧ ∃ σ2, body σ1 = .ok (.nx σ2) ∧ I (k + n + 1) σ2) →
    ∃ σ2, forR bnd body xs σ = .ok (.nx σ2) ∧ I (k + xs.length) σ2
  | [], k, σ, h, _ => ⟨σ, rfl, h⟩
  | x :: xs, k, σ, h, hb => by
    obtain ⟨σ1, e1, σ2, e2, h2⟩ := hb 0 x σ rfl h
    obtain ⟨σ3, e3, h3⟩ := forR_ix I xs (k + 1) σ2 h2 fun n y σ hy hI => by
      have := hb (n + 1) y σ (by simpa using hy) (by rw [show k + (n + 1) = k + 1 + n by omega]; exact hI)
      rw [show k + (n + 1) = k + 1 + n by omega] at this
      exact this
    refine ⟨σ3, ?_, by rw [List.length_cons, show k + (xs.length + 1) = k + 1 + xs.length by omega]; exact h3⟩
    rw [forR, e1, ofOpt_some, R.bind_ok, e2, R.bind_ok]
    exact e3
theorem forR_ix0 {bnd : D → EnvD → Option EnvD} {body : EnvD → R Fl} (I : Nat → EnvD → Prop) (xs : List D) (σ : EnvD) (h : I 0 σ) (hb : ∀ (n : Nat) (x : D) (σ : EnvD), xs[n]? = some x → I n σ → ∃ σ1, bnd x σ = some σ1 ∧ ∃ σ2, body σ1 = .ok (.nx σ2) ∧ I (n + 1) σ2) :
    ∃ σ2, forR bnd body xs σ = .ok (.nx σ2) ∧ I xs.length σ2 := by
  have := forR_ix I xs 0 σ h fun n x σ hx hI => by
    rw [Nat.zero_add] at hI ⊢
    exact hb n x σ hx hI
  rwa [Nat.zero_add] at this
theorem whileR_inv {tst : EnvD → R (Bool × EnvD)} {body : EnvD → R Fl} (I : Nat → EnvD → Prop) (J : EnvD → Prop) : ∀ (k : Nat) (σ : EnvD), I k σ → (∀ k σ, I k σ → (∃ σ1, tst σ = .ok (false, σ1) ∧ J σ1) ∨ ∃ σ1 σ2 k', tst σ = .ok (true, σ1) ∧ body σ1 = .ok (.nx σ2) ∧ k' < k ∧ I k' σ2) →
    ∃ σ', whileR tst body σ = .ok (.nx σ') ∧ J σ' := by
  intro k
  induction k using Nat.strongRecOn with
  | ind k ih =>
    intro σ h hs
    rcases hs k σ h with ⟨σ1, e1, j⟩ | ⟨σ1, σ2, k', e1, e2, hk, h2⟩
    · exact ⟨σ1, whileR_f e1, j⟩
    · obtain ⟨σ', e, j⟩ := ih k' hk σ2 h2 hs
      exact ⟨σ', by rw [whileR_t e1 e2]; exact e, j⟩
theorem rangeD_at {n i : Nat} {x : D} (h : (rangeD 0 n 1)[i]? = some x) : i < n ∧ x = .int (i : Int) := by
  obtain ⟨h1, h2⟩ := rangeD_get h
  exact ⟨h1, by rw [h2]; simp⟩
/-! ### comprehensions over things of one form -/
theorem comp_map {α : Type} {C : Str → Option D} {cf : Str → List SV → RF} {i : Nat} {it : MI} {e : ME} {σ σ0 : EnvD} {lent held : List Nat} (enc : α → D) (g : α → D) (as : List α)
    (hit : evI C cf it σ = .ok (⟨as.map enc, lent, held⟩, σ0)) (hh : held.any ([i].contains ·) = false) (hl : as.length ≤ sizeLine) (hi : i < σ0.length)
    (he : ∀ a ∈ as, ∃ m, evV C cf e ((lendAll σ0 lent).set i (some (fz (enc a)))) = .ok (⟨m, g a⟩, (lendAll σ0 lent).set i (some (fz (enc a))))) :
    evV C cf (.comp [i] (.name i) it .nil e) σ = .ok (ow (.list (as.map g)), unlend (lendAll σ0 lent) lent) := by
  have hlen : (lendAll σ0 lent).length = σ0.length := by
    unfold lendAll
    clear hit he hh
    induction lent generalizing σ0 with
    | nil => rfl
    | cons j r ih =>
      rw [List.foldl_cons]
      have h1 : (setMd .lck σ0 j).length = σ0.length := by
        unfold setMd
        cases slotAt σ0 j with
        | none => rfl
        | some s => simp
      rw [ih (by rw [h1]; exact hi), h1]
  have key := comp_st (C := C) (cf := cf) (own := [i]) (p := .name i) (it := it) (e := e) (σ := σ) (σ0 := σ0) (xs := as.map enc) (lent := lent) (held := held) (fun _ : Unit => wipeD (lendAll σ0 lent) [i]) (fun _ => True) () hit hh (by simpa using hl) rfl (fun _ => rfl) (fun _ x hx => by
    obtain ⟨a, ha, rfl⟩ := List.mem_map.mp hx
    obtain ⟨m, e1⟩ := he a ha
    exact ⟨(lendAll σ0 lent).set i (some (fz (enc a))), by simp [wipeD], _, _, (), e1, by simp [wipeD], trivial⟩)
  -- the items, one by one
  have go : ∀ (as : List α) (acc : List D) (σ1 : EnvD), wipeD σ1 [i] = wipeD (lendAll σ0 lent) [i] → (∀ a ∈ as, ∃ m, evV C cf e ((lendAll σ0 lent).set i (some (fz (enc a)))) = .ok (⟨m, g a⟩, (lendAll σ0 lent).set i (some (fz (enc a))))) → acc.length + as.length ≤ sizeLine →
      ∃ σ', wipeD σ' [i] = wipeD (lendAll σ0 lent) [i] ∧ compR (fun σ => wipeD σ [i]) (bindP (.name i)) (evT C cf .nil) (evV C cf e) (as.map enc) acc σ1 = .ok (acc ++ as.map g, σ') := by
    intro as
    induction as with
    | nil => intro acc σ1 h1 _ _; exact ⟨σ1, h1, by rw [List.map_nil, List.map_nil, compR, List.append_nil]⟩
    | cons a as ih =>
      intro acc σ1 h1 h2 h3
      rw [List.length_cons] at h3
      obtain ⟨m, e1⟩ := h2 a List.mem_cons_self
      obtain ⟨σ', w', e2⟩ := ih (acc ++ [g a]) ((lendAll σ0 lent).set i (some (fz (enc a)))) (by simp [wipeD]) (fun b hb => h2 b (List.mem_cons_of_mem _ hb)) (by rw [List.length_append, List.length_singleton]; omega)
      refine ⟨σ', w', ?_⟩
      rw [List.map_cons, compR, h1, show bindP (.name i) (enc a) (wipeD (lendAll σ0 lent) [i]) = some ((lendAll σ0 lent).set i (some (fz (enc a)))) by simp [wipeD], ofOpt_some, R.bind_ok, e_t_n, R.bind_ok, if_pos rfl]
      dsimp only
      rw [e1, R.bind_ok, if_pos (by omega)]
      dsimp only
      rw [e2, List.map_cons, List.append_assoc, List.singleton_append]
  obtain ⟨σ', hw, e2⟩ := go as [] (wipeD (lendAll σ0 lent) [i]) wipeD_idem he (by simpa using hl)
  rw [evV, hit, R.bind_ok]
  dsimp only
  rw [if_neg (by rw [hh]; exact Bool.false_ne_true), e2, R.onX_ok, R.bind_ok]
  dsimp only
  rw [back_wipe hw, List.nil_append]
theorem comp_filt {α : Type} {C : Str → Option D} {cf : Str → List SV → RF} {i : Nat} {it : MI} {c e : ME} {σ σ0 : EnvD} {lent held : List Nat} (enc : α → D) (p : α → Bool) (g : α → D) (as : List α)
    (hit : evI C cf it σ = .ok (⟨as.map enc, lent, held⟩, σ0)) (hh : held.any ([i].contains ·) = false) (hl : as.length ≤ sizeLine)
    (hc : ∀ a ∈ as, ∃ m, evV C cf c ((lendAll σ0 lent).set i (some (fz (enc a)))) = .ok (⟨m, .bool (p a)⟩, (lendAll σ0 lent).set i (some (fz (enc a)))))
    (he : ∀ a ∈ as, p a = true → ∃ m, evV C cf e ((lendAll σ0 lent).set i (some (fz (enc a)))) = .ok (⟨m, g a⟩, (lendAll σ0 lent).set i (some (fz (enc a))))) :
    evV C cf (.comp [i] (.name i) it (.cons c .nil) e) σ = .ok (ow (.list ((as.filter p).map g)), unlend (lendAll σ0 lent) lent) := by
  have go : ∀ (as : List α) (acc : List D) (σ1 : EnvD), wipeD σ1 [i] = wipeD (lendAll σ0 lent) [i] → (∀ a ∈ as, ∃ m, evV C cf c ((lendAll σ0 lent).set i (some (fz (enc a)))) = .ok (⟨m, .bool (p a)⟩, (lendAll σ0 lent).set i (some (fz (enc a))))) → (∀ a ∈ as, p a = true → ∃ m, evV C cf e ((lendAll σ0 lent).set i (some (fz (enc a)))) = .ok (⟨m, g a⟩, (lendAll σ0 lent).set i (some (fz (enc a))))) → acc.length + as.length ≤ sizeLine →
      ∃ σ', wipeD σ' [i] = wipeD (lendAll σ0 lent) [i] ∧ compR (fun σ => wipeD σ [i]) (bindP (.name i)) (evT C cf (.cons c .nil)) (evV C cf e) (as.map enc) acc σ1 = .ok (acc ++ (as.filter p).map g, σ') := by
    intro as
    induction as with
    | nil => intro acc σ1 h1 _ _ _; exact ⟨σ1, h1, by rw [List.filter_nil, List.map_nil, List.map_nil, compR, List.append_nil]⟩
    | cons a as ih =>
      intro acc σ1 h1 h2 h3 h4
      rw [List.length_cons] at h4
      obtain ⟨m, e1⟩ := h2 a List.mem_cons_self
      have hcc : evT C cf (.cons c .nil) ((lendAll σ0 lent).set i (some (fz (enc a)))) = .ok (p a, (lendAll σ0 lent).set i (some (fz (enc a)))) := by
        rw [e_t_c, e1]
        cases p a <;> simp
      rw [List.map_cons, compR, h1, show bindP (.name i) (enc a) (wipeD (lendAll σ0 lent) [i]) = some ((lendAll σ0 lent).set i (some (fz (enc a)))) by simp [wipeD], ofOpt_some, R.bind_ok, hcc, R.bind_ok]
      cases hp : p a with
      | false =>
        rw [if_neg Bool.false_ne_true, List.filter_cons_of_neg (by rw [hp]; exact Bool.false_ne_true)]
        exact ih acc _ (by simp [wipeD]) (fun b hb => h2 b (List.mem_cons_of_mem _ hb)) (fun b hb => h3 b (List.mem_cons_of_mem _ hb)) (by omega)
      | true =>
        obtain ⟨m', e3⟩ := h3 a List.mem_cons_self hp
        rw [if_pos rfl, List.filter_cons_of_pos hp]
        dsimp only
        rw [e3, R.bind_ok, if_pos (by omega)]
        dsimp only
        obtain ⟨σ', w', e2⟩ := ih (acc ++ [g a]) ((lendAll σ0 lent).set i (some (fz (enc a)))) (by simp [wipeD]) (fun b hb => h2 b (List.mem_cons_of_mem _ hb)) (fun b hb => h3 b (List.mem_cons_of_mem _ hb)) (by rw [List.length_append, List.length_singleton]; omega)
        exact ⟨σ', w', by rw [e2, List.map_cons, List.append_assoc, List.singleton_append]⟩
  obtain ⟨σ', hw, e2⟩ := go as [] (wipeD (lendAll σ0 lent) [i]) wipeD_idem hc he (by simpa using hl)
  rw [evV, hit, R.bind_ok]
  dsimp only
  rw [if_neg (by rw [hh]; exact Bool.false_ne_true), e2, R.onX_ok, R.bind_ok]
  dsimp only
  rw [back_wipe hw, List.nil_append]
theorem rangeD_map (n : Nat) : rangeD 0 n 1 = (List.range n).map fun k : Nat => PyData.int (k : Int) := by
  unfold rangeD
  refine List.map_congr_left fun k _ => ?_
  simp
end RH.S
namespace RH.S
open PySem PySem.Spec L2
set_option maxRecDepth 100000
def top (i : Nat) : Stmt := PySem.Challenge.pw_reelhouse_k03_whole_codes_there_and_back.main.body.getD i (.Pass ⟨0, 0, 0, 0⟩)
def fd_is_int : FD := ⟨1, 1,
  (.cons (.ret (.and (.op (.isinst .int) (.cons (.var 0) .nil)) (.not (.op (.isinst .bool) (.cons (.var 0) .nil))))) <|
    .nil)⟩
def N_is_int : List Str := ["thing"]
def P_is_int : List Str := ["thing"]
def fd_count_of : FD := ⟨1, 1,
  (.cons (.ret (.op .neg (.cons (.op .fdiv (.cons (.op .neg (.cons (.op .ix (.cons (.var 0) (.cons (.cst (.int 0)) .nil))) .nil)) (.cons (.op .ix (.cons (.var 0) (.cons (.cst (.int 1)) .nil))) .nil))) .nil))) <|
    .nil)⟩
def N_count_of : List Str := ["rate"]
def P_count_of : List Str := ["rate"]
def fd_left_of : FD := ⟨1, 1,
  (.cons (.ret (.ife (.op .eq (.cons (.op .ix (.cons (.var 0) (.cons (.cst (.int 1)) .nil))) (.cons (.cst (.int 1001)) .nil))) (.getd (.dct (.cons (.cst (.int 30)) (.cons (.cst (.int 2)) (.cons (.cst (.int 60)) (.cons (.cst (.int 4)) .nil))))) (.call "count_of" (.cons (.var 0) .nil)) (.cst (.int 0))) (.cst (.int 0)))) <|
    .nil)⟩
def N_left_of : List Str := ["rate"]
def P_left_of : List Str := ["rate"]
def fd_two_figures : FD := ⟨1, 1,
  (.cons (.ret (.op .add (.cons (.op .str (.cons (.op .fdiv (.cons (.var 0) (.cons (.glo "TEN") .nil))) .nil)) (.cons (.op .str (.cons (.op .mod (.cons (.var 0) (.cons (.glo "TEN") .nil))) .nil)) .nil)))) <|
    .nil)⟩
def N_two_figures : List Str := ["number"]
def P_two_figures : List Str := ["number"]
def fd_written : FD := ⟨3, 11,
  (.cons (.setp (.tup [(.name 3), (.name 4)]) (.op .divmod (.cons (.var 0) (.cons (.var 1) .nil)))) <|
    .cons (.setp (.tup [(.name 5), (.name 6)]) (.op .divmod (.cons (.var 3) (.cons (.glo "MINUTES") .nil)))) <|
    .cons (.setp (.tup [(.name 7), (.name 8)]) (.op .divmod (.cons (.var 5) (.cons (.glo "MINUTES") .nil)))) <|
    .cons (.set 9 (.comp [10] (.name 10) (.seq (.tup (.cons (.var 7) (.cons (.var 8) (.cons (.var 6) .nil))))) .nil (.call "two_figures" (.cons (.var 10) .nil)))) <|
    .cons (.ret (.op .add (.cons (.op .add (.cons (.join (.cst (.str ":")) (.var 9)) (.cons (.var 2) .nil))) (.cons (.call "two_figures" (.cons (.var 4) .nil)) .nil)))) <|
    .nil)⟩
def N_written : List Str := ["number", "count", "sign", "seconds", "last", "minutes", "second", "hour", "minute", "words", "part"]
def P_written : List Str := ["number", "count", "sign"]
def fd_with_left : FD := ⟨2, 8,
  (.cons (.par [2, 3] (.cons (.call "left_of" (.cons (.var 1) .nil)) (.cons (.call "count_of" (.cons (.var 1) .nil)) .nil))) <|
    .cons (.set 4 (.op .sub (.cons (.op .mul (.cons (.glo "MINUTES") (.cons (.var 3) .nil))) (.cons (.var 2) .nil)))) <|
    .cons (.setp (.tup [(.name 5), (.name 6)]) (.op .divmod (.cons (.var 0) (.cons (.op .sub (.cons (.op .mul (.cons (.op .mul (.cons (.glo "TEN") (.cons (.glo "MINUTES") .nil))) (.cons (.var 3) .nil))) (.cons (.op .mul (.cons (.op .sub (.cons (.glo "TEN") (.cons (.cst (.int 1)) .nil))) (.cons (.var 2) .nil))) .nil))) .nil)))) <|
    .cons (.set 7 (.cst (.int 0))) <|
    .cons (.ifs (.op .ge (.cons (.var 6) (.cons (.op .mul (.cons (.glo "MINUTES") (.cons (.var 3) .nil))) .nil))) (.cons (.set 7 (.op .add (.cons (.cst (.int 1)) (.cons (.op .fdiv (.cons (.op .sub (.cons (.var 6) (.cons (.op .mul (.cons (.glo "MINUTES") (.cons (.var 3) .nil))) .nil))) (.cons (.var 4) .nil))) .nil)))) <|
      .nil) (.nil)) <|
    .cons (.ret (.op .add (.cons (.var 0) (.cons (.op .mul (.cons (.var 2) (.cons (.op .add (.cons (.op .mul (.cons (.op .sub (.cons (.glo "TEN") (.cons (.cst (.int 1)) .nil))) (.cons (.var 5) .nil))) (.cons (.var 7) .nil))) .nil))) .nil)))) <|
    .nil)⟩
def N_with_left : List Str := ["frame", "rate", "left", "count", "short", "tens", "rest", "minutes"]
def P_with_left : List Str := ["frame", "rate"]
def fd_code_text : FD := ⟨3, 5,
  (.cons (.ifs (.or (.not (.call "is_int" (.cons (.var 0) .nil))) (.or (.op .lt (.cons (.var 0) (.cons (.cst (.int 0)) .nil))) (.and (.var 2) (.op .eq (.cons (.call "left_of" (.cons (.var 1) .nil)) (.cons (.cst (.int 0)) .nil)))))) (.cons (.raise "NoCode") <|
      .nil) (.nil)) <|
    .cons (.set 3 (.ife (.var 2) (.call "with_left" (.cons (.var 0) (.cons (.var 1) .nil))) (.var 0))) <|
    .cons (.set 4 (.call "count_of" (.cons (.var 1) .nil))) <|
    .cons (.ifs (.op .ge (.cons (.var 3) (.cons (.op .mul (.cons (.op .mul (.cons (.op .mul (.cons (.glo "HOURS") (.cons (.glo "MINUTES") .nil))) (.cons (.glo "MINUTES") .nil))) (.cons (.var 4) .nil))) .nil))) (.cons (.raise "NoCode") <|
      .nil) (.nil)) <|
    .cons (.ret (.call "written" (.cons (.var 3) (.cons (.var 4) (.cons (.ife (.var 2) (.cst (.str ";")) (.cst (.str ":"))) .nil))))) <|
    .nil)⟩
def N_code_text : List Str := ["frame", "rate", "left_out", "number", "count"]
def P_code_text : List Str := ["frame", "rate", "left_out"]
def fd_pair_of : FD := ⟨1, 2,
  (.cons (.ifs (.or (.op .ne (.cons (.op .len (.cons (.var 0) .nil)) (.cons (.cst (.int 2)) .nil))) (.not (.op .all (.cons (.comp [1] (.name 1) (.seq (.var 0)) .nil (.op .isin (.cons (.var 1) (.cons (.glo "FIGURES") .nil)))) .nil)))) (.cons (.raise "NoCode") <|
      .nil) (.nil)) <|
    .cons (.ret (.op .int (.cons (.var 0) .nil))) <|
    .nil)⟩
def N_pair_of : List Str := ["text", "sign"]
def P_pair_of : List Str := ["text"]
def fd_read_code : FD := ⟨2, 11,
  (.cons (.ifs (.or (.not (.op (.isinst .str) (.cons (.var 0) .nil))) (.or (.op .ne (.cons (.op .len (.cons (.var 0) .nil)) (.cons (.cst (.int 11)) .nil))) (.or (.op .ne (.cons (.op .add (.cons (.op .ix (.cons (.var 0) (.cons (.cst (.int 2)) .nil))) (.cons (.op .ix (.cons (.var 0) (.cons (.cst (.int 5)) .nil))) .nil))) (.cons (.cst (.str "::")) .nil))) (.op .notin (.cons (.op .ix (.cons (.var 0) (.cons (.cst (.int 8)) .nil))) (.cons (.cst (.str ":;")) .nil)))))) (.cons (.raise "NoCode") <|
      .nil) (.nil)) <|
    .cons (.par [2, 3] (.cons (.call "left_of" (.cons (.var 1) .nil)) (.cons (.call "count_of" (.cons (.var 1) .nil)) .nil))) <|
    .cons (.setp (.tup [(.name 4), (.name 5), (.name 6), (.name 7)]) (.comp [8] (.name 8) (.seq (.tup (.cons (.cst (.int 0)) (.cons (.cst (.int 3)) (.cons (.cst (.int 6)) (.cons (.cst (.int 9)) .nil)))))) .nil (.call "pair_of" (.cons (.slice (.var 0) (.var 8) (.op .add (.cons (.var 8) (.cons (.cst (.int 2)) .nil)))) .nil)))) <|
    .cons (.ifs (.or (.op .ge (.cons (.var 5) (.cons (.glo "MINUTES") .nil))) (.or (.op .ge (.cons (.var 6) (.cons (.glo "MINUTES") .nil))) (.op .ge (.cons (.var 7) (.cons (.var 3) .nil))))) (.cons (.raise "NoCode") <|
      .nil) (.nil)) <|
    .cons (.set 9 (.op .add (.cons (.op .mul (.cons (.op .add (.cons (.op .mul (.cons (.op .add (.cons (.op .mul (.cons (.var 4) (.cons (.glo "MINUTES") .nil))) (.cons (.var 5) .nil))) (.cons (.glo "MINUTES") .nil))) (.cons (.var 6) .nil))) (.cons (.var 3) .nil))) (.cons (.var 7) .nil)))) <|
    .cons (.ifs (.op .eq (.cons (.op .ix (.cons (.var 0) (.cons (.cst (.int 8)) .nil))) (.cons (.cst (.str ":")) .nil))) (.cons (.ret (.var 9)) <|
      .nil) (.nil)) <|
    .cons (.ifs (.or (.op .eq (.cons (.var 2) (.cons (.cst (.int 0)) .nil))) (.and (.op .eq (.cons (.var 6) (.cons (.cst (.int 0)) .nil))) (.and (.op .lt (.cons (.var 7) (.cons (.var 2) .nil))) (.op .ne (.cons (.op .mod (.cons (.var 5) (.cons (.glo "TEN") .nil))) (.cons (.cst (.int 0)) .nil)))))) (.cons (.raise "NoCode") <|
      .nil) (.nil)) <|
    .cons (.set 10 (.op .add (.cons (.op .mul (.cons (.var 4) (.cons (.glo "MINUTES") .nil))) (.cons (.var 5) .nil)))) <|
    .cons (.ret (.op .sub (.cons (.var 9) (.cons (.op .mul (.cons (.var 2) (.cons (.op .sub (.cons (.var 10) (.cons (.op .fdiv (.cons (.var 10) (.cons (.glo "TEN") .nil))) .nil))) .nil))) .nil)))) <|
    .nil)⟩
def N_read_code : List Str := ["text", "rate", "left", "count", "hour", "minute", "second", "last", "at", "number", "minutes"]
def P_read_code : List Str := ["text", "rate"]
def lb_greatest_0 : MSs := (.cons (.par [0, 1] (.cons (.var 1) (.cons (.op .mod (.cons (.var 0) (.cons (.var 1) .nil))) .nil))) <|
    .nil)
def fd_greatest : FD := ⟨2, 2,
  (.cons (.while (.op .ne (.cons (.var 1) (.cons (.cst (.int 0)) .nil))) lb_greatest_0) <|
    .cons (.ret (.op .abs (.cons (.var 0) .nil))) <|
    .nil)⟩
def N_greatest : List Str := ["one", "other"]
def P_greatest : List Str := ["one", "other"]
def fd_lowest : FD := ⟨2, 3,
  (.cons (.set 2 (.call "greatest" (.cons (.var 0) (.cons (.var 1) .nil)))) <|
    .cons (.ret (.tup (.cons (.op .fdiv (.cons (.var 0) (.cons (.var 2) .nil))) (.cons (.op .fdiv (.cons (.var 1) (.cons (.var 2) .nil))) .nil)))) <|
    .nil)⟩
def N_lowest : List Str := ["top", "bottom", "share"]
def P_lowest : List Str := ["top", "bottom"]
def fd_times : FD := ⟨2, 2,
  (.cons (.ret (.call "lowest" (.cons (.op .mul (.cons (.op .ix (.cons (.var 0) (.cons (.cst (.int 0)) .nil))) (.cons (.op .ix (.cons (.var 1) (.cons (.cst (.int 0)) .nil))) .nil))) (.cons (.op .mul (.cons (.op .ix (.cons (.var 0) (.cons (.cst (.int 1)) .nil))) (.cons (.op .ix (.cons (.var 1) (.cons (.cst (.int 1)) .nil))) .nil))) .nil)))) <|
    .nil)⟩
def N_times : List Str := ["one", "other"]
def P_times : List Str := ["one", "other"]
def fd_whole_part : FD := ⟨1, 1,
  (.cons (.ret (.op .fdiv (.cons (.op .ix (.cons (.var 0) (.cons (.cst (.int 0)) .nil))) (.cons (.op .ix (.cons (.var 0) (.cons (.cst (.int 1)) .nil))) .nil)))) <|
    .nil)⟩
def N_whole_part : List Str := ["one"]
def P_whole_part : List Str := ["one"]
def fd_moment : FD := ⟨2, 2,
  (.cons (.ret (.call "lowest" (.cons (.op .mul (.cons (.var 0) (.cons (.op .ix (.cons (.var 1) (.cons (.cst (.int 1)) .nil))) .nil))) (.cons (.op .ix (.cons (.var 1) (.cons (.cst (.int 0)) .nil))) .nil)))) <|
    .nil)⟩
def N_moment : List Str := ["frame", "rate"]
def P_moment : List Str := ["frame", "rate"]
def fd_frame_at : FD := ⟨2, 2,
  (.cons (.ret (.call "whole_part" (.cons (.call "times" (.cons (.var 0) (.cons (.var 1) .nil))) .nil))) <|
    .nil)⟩
def N_frame_at : List Str := ["seconds", "rate"]
def P_frame_at : List Str := ["seconds", "rate"]
def fd__law_well : FD := ⟨2, 5,
  (.cons (.set 2 (.cst (.int 0))) <|
    .cons (.ifs (.op .lt (.cons (.var 1) (.cons (.op .len (.cons (.var 0) .nil)) .nil))) (.cons (.set 2 (.op .ix (.cons (.var 0) (.cons (.var 1) .nil)))) <|
      .nil) (.nil)) <|
    .cons (.set 3 (.lst (.cons (.cst (.int 2147483647)) (.cons (.cst (.int 2147483629)) (.cons (.cst (.int 2147483587)) (.cons (.cst (.int 2147483579)) (.cons (.cst (.int 2147483563)) (.cons (.cst (.int 2147483549)) (.cons (.cst (.int 2147483543)) (.cons (.cst (.int 2147483497)) .nil)))))))))) <|
    .cons (.set 4 (.op .mod (.cons (.op .mul (.cons (.op .add (.cons (.op .mod (.cons (.var 2) (.cons (.cst (.int 2147483489)) .nil))) (.cons (.cst (.int 1)) .nil))) (.cons (.op .add (.cons (.cst (.int 48271)) (.cons (.op .mul (.cons (.cst (.int 2)) (.cons (.var 1) .nil))) .nil))) .nil))) (.cons (.cst (.int 2147483489)) .nil)))) <|
    .cons (.set 4 (.op .add (.cons (.op .add (.cons (.op .mod (.cons (.op .mul (.cons (.var 4) (.cons (.var 4) .nil))) (.cons (.cst (.int 2147483477)) .nil))) (.cons (.var 1) .nil))) (.cons (.cst (.int 1)) .nil)))) <|
    .cons (.ifs (.op .ge (.cons (.var 2) (.cons (.op .pow (.cons (.cst (.int 10)) (.cons (.cst (.int 18)) .nil))) .nil))) (.cons (.ret (.lst (.cons (.var 2) (.cons (.var 4) (.cons (.op .ix (.cons (.var 3) (.cons (.op .mod (.cons (.var 1) (.cons (.cst (.int 8)) .nil))) .nil))) .nil))))) <|
      .nil) (.nil)) <|
    .cons (.ret (.lst (.cons (.cst (.int 0)) (.cons (.var 4) (.cons (.op .ix (.cons (.var 3) (.cons (.op .mod (.cons (.var 1) (.cons (.cst (.int 8)) .nil))) .nil))) .nil))))) <|
    .nil)⟩
def N__law_well : List Str := ["script", "k", "cell", "primes", "seed"]
def P__law_well : List Str := ["script", "k"]
def fd__law_take : FD := ⟨2, 3,
  (.cons (.ifs (.op .gt (.cons (.op .ix (.cons (.var 0) (.cons (.cst (.int 0)) .nil))) (.cons (.cst (.int 0)) .nil))) (.cons (.set 2 (.op .mod (.cons (.op .ix (.cons (.var 0) (.cons (.cst (.int 0)) .nil))) (.cons (.var 1) .nil)))) <|
      .cons (.put 0 (.cst (.int 0)) (.op .fdiv (.cons (.op .ix (.cons (.var 0) (.cons (.cst (.int 0)) .nil))) (.cons (.var 1) .nil)))) <|
      .cons (.ret (.var 2)) <|
      .nil) (.nil)) <|
    .cons (.put 0 (.cst (.int 1)) (.op .add (.cons (.op .mod (.cons (.op .mul (.cons (.op .ix (.cons (.var 0) (.cons (.cst (.int 1)) .nil))) (.cons (.cst (.int 48271)) .nil))) (.cons (.op .ix (.cons (.var 0) (.cons (.cst (.int 2)) .nil))) .nil))) (.cons (.cst (.int 1)) .nil)))) <|
    .cons (.ret (.op .mod (.cons (.op .fdiv (.cons (.op .mod (.cons (.op .mul (.cons (.op .ix (.cons (.var 0) (.cons (.cst (.int 1)) .nil))) (.cons (.op .ix (.cons (.var 0) (.cons (.cst (.int 1)) .nil))) .nil))) (.cons (.cst (.int 2147483423)) .nil))) (.cons (.cst (.int 7)) .nil))) (.cons (.var 1) .nil)))) <|
    .nil)⟩
def N__law_take : List Str := ["well", "many", "got"]
def P__law_take : List Str := ["well", "many"]
def fd__law_rates : FD := ⟨0, 0,
  (.cons (.ret (.lst (.cons (.tup (.cons (.cst (.int 24)) (.cons (.cst (.int 1)) .nil))) (.cons (.tup (.cons (.cst (.int 25)) (.cons (.cst (.int 1)) .nil))) (.cons (.tup (.cons (.cst (.int 30)) (.cons (.cst (.int 1)) .nil))) (.cons (.tup (.cons (.cst (.int 50)) (.cons (.cst (.int 1)) .nil))) (.cons (.tup (.cons (.cst (.int 60)) (.cons (.cst (.int 1)) .nil))) (.cons (.tup (.cons (.cst (.int 24000)) (.cons (.cst (.int 1001)) .nil))) (.cons (.tup (.cons (.cst (.int 30000)) (.cons (.cst (.int 1001)) .nil))) (.cons (.tup (.cons (.cst (.int 60000)) (.cons (.cst (.int 1001)) .nil))) .nil)))))))))) <|
    .nil)⟩
def N__law_rates : List Str := []
def P__law_rates : List Str := []
def fd__law_rate : FD := ⟨1, 1,
  (.cons (.ret (.op .ix (.cons (.call "_law_rates" .nil) (.cons (.call "_law_take" (.cons (.var 0) (.cons (.cst (.int 8)) .nil))) .nil)))) <|
    .nil)⟩
def N__law_rate : List Str := ["well"]
def P__law_rate : List Str := ["well"]
def fd__law_drop : FD := ⟨1, 1,
  (.cons (.ret (.op .isin (.cons (.var 0) (.cons (.lst (.cons (.tup (.cons (.cst (.int 30000)) (.cons (.cst (.int 1001)) .nil))) (.cons (.tup (.cons (.cst (.int 60000)) (.cons (.cst (.int 1001)) .nil))) .nil))) .nil)))) <|
    .nil)⟩
def N__law_drop : List Str := ["rate"]
def P__law_drop : List Str := ["rate"]
def lb_law_1 : MSs := (.cons (.set 9 (.call "_law_take" (.cons (.var 2) (.cons (.op .mul (.cons (.cst (.int 350000)) (.cons (.var 5) .nil))) .nil)))) <|
    .cons (.ifs (.op .ne (.cons (.call "read_code" (.cons (.call "code_text" (.cons (.var 9) (.cons (.var 3) (.cons (.var 4) .nil)))) (.cons (.var 3) .nil))) (.cons (.var 9) .nil))) (.cons (.ret (.cst (.bool false))) <|
      .nil) (.nil)) <|
    .cons (.ifs (.op .ne (.cons (.call "frame_at" (.cons (.call "moment" (.cons (.var 9) (.cons (.var 3) .nil))) (.cons (.var 3) .nil))) (.cons (.var 9) .nil))) (.cons (.ret (.cst (.bool false))) <|
      .nil) (.nil)) <|
    .nil)
def lb_law_0 : MSs := (.cons (.set 2 (.call "_law_well" (.cons (.var 0) (.cons (.var 1) .nil)))) <|
    .cons (.set 3 (.call "_law_rate" (.cons (.var 2) .nil))) <|
    .cons (.set 4 (.and (.call "_law_drop" (.cons (.var 3) .nil)) (.op .gt (.cons (.call "_law_take" (.cons (.var 2) (.cons (.cst (.int 3)) .nil))) (.cons (.cst (.int 0)) .nil))))) <|
    .cons (.set 5 (.op .neg (.cons (.op .fdiv (.cons (.op .neg (.cons (.op .ix (.cons (.var 3) (.cons (.cst (.int 0)) .nil))) .nil)) (.cons (.op .ix (.cons (.var 3) (.cons (.cst (.int 1)) .nil))) .nil))) .nil))) <|
    .cons (.set 6 (.op .max2 (.cons (.cst (.int 0)) (.cons (.op .sub (.cons (.op .mul (.cons (.op .mul (.cons (.cst (.int 60)) (.cons (.var 5) .nil))) (.cons (.call "_law_take" (.cons (.var 2) (.cons (.cst (.int 700)) .nil))) .nil))) (.cons (.op .mul (.cons (.cst (.int 2)) (.cons (.call "_law_take" (.cons (.var 2) (.cons (.cst (.int 500)) .nil))) .nil))) .nil))) .nil)))) <|
    .cons (.set 7 (.op .lrng2 (.cons (.var 6) (.cons (.op .add (.cons (.var 6) (.cons (.cst (.int 200)) .nil))) .nil)))) <|
    .cons (.set 8 (.comp [9] (.name 9) (.seq (.var 7)) .nil (.call "code_text" (.cons (.var 9) (.cons (.var 3) (.cons (.var 4) .nil)))))) <|
    .cons (.ifs (.op .ne (.cons (.var 8) (.cons (.op .sortedSet (.cons (.var 8) .nil)) .nil))) (.cons (.ret (.cst (.bool false))) <|
      .nil) (.nil)) <|
    .cons (.ifs (.op .ne (.cons (.comp [10] (.name 10) (.seq (.var 8)) .nil (.call "read_code" (.cons (.var 10) (.cons (.var 3) .nil)))) (.cons (.var 7) .nil))) (.cons (.ret (.cst (.bool false))) <|
      .nil) (.nil)) <|
    .cons (.for (.name 11) (.rng1 (.cst (.int 4))) lb_law_1) <|
    .nil)
def fd_law : FD := ⟨1, 12,
  (.cons (.for (.name 1) (.rng1 (.op .max2 (.cons (.cst (.int 3)) (.cons (.op .min2 (.cons (.cst (.int 20)) (.cons (.op .len (.cons (.var 0) .nil)) .nil))) .nil)))) lb_law_0) <|
    .cons (.ret (.cst (.bool true))) <|
    .nil)⟩
def N_law : List Str := ["script", "k", "well", "rate", "left", "count", "start", "frames", "texts", "frame", "text", "turn"]
def P_law : List Str := ["script"]
def fs : List Str := ["is_int", "count_of", "left_of", "two_figures", "written", "with_left", "code_text", "pair_of", "read_code", "greatest", "lowest", "times", "whole_part", "moment", "frame_at", "_law_well", "_law_take", "_law_rates", "_law_rate", "_law_drop", "law"]
def xs : List Str := ["NoCode"]
def hs : List (Str × Str × Bool) := []
def cs : List (Str × D) := [("FIGURES", .str "0123456789"), ("HOURS", .int 100), ("MINUTES", .int 60), ("TEN", .int 10)]
def ds : List DefE := [⟨"is_int", fd_is_int, N_is_int, P_is_int, top 5⟩,
  ⟨"count_of", fd_count_of, N_count_of, P_count_of, top 11⟩,
  ⟨"left_of", fd_left_of, N_left_of, P_left_of, top 12⟩,
  ⟨"two_figures", fd_two_figures, N_two_figures, P_two_figures, top 13⟩,
  ⟨"written", fd_written, N_written, P_written, top 14⟩,
  ⟨"with_left", fd_with_left, N_with_left, P_with_left, top 15⟩,
  ⟨"code_text", fd_code_text, N_code_text, P_code_text, top 16⟩,
  ⟨"pair_of", fd_pair_of, N_pair_of, P_pair_of, top 17⟩,
  ⟨"read_code", fd_read_code, N_read_code, P_read_code, top 18⟩,
  ⟨"greatest", fd_greatest, N_greatest, P_greatest, top 20⟩,
  ⟨"lowest", fd_lowest, N_lowest, P_lowest, top 21⟩,
  ⟨"times", fd_times, N_times, P_times, top 22⟩,
  ⟨"whole_part", fd_whole_part, N_whole_part, P_whole_part, top 23⟩,
  ⟨"moment", fd_moment, N_moment, P_moment, top 25⟩,
  ⟨"frame_at", fd_frame_at, N_frame_at, P_frame_at, top 26⟩,
  ⟨"_law_well", fd__law_well, N__law_well, P__law_well, top 28⟩,
  ⟨"_law_take", fd__law_take, N__law_take, P__law_take, top 29⟩,
  ⟨"_law_rates", fd__law_rates, N__law_rates, P__law_rates, top 30⟩,
  ⟨"_law_rate", fd__law_rate, N__law_rate, P__law_rate, top 31⟩,
  ⟨"_law_drop", fd__law_drop, N__law_drop, P__law_drop, top 32⟩,
  ⟨"law", fd_law, N_law, P_law, top 33⟩]
theorem lk_is_int : look ds "is_int" = some fd_is_int := by rfl
theorem lk_count_of : look ds "count_of" = some fd_count_of := by rfl
theorem lk_left_of : look ds "left_of" = some fd_left_of := by rfl
theorem lk_two_figures : look ds "two_figures" = some fd_two_figures := by rfl
theorem lk_written : look ds "written" = some fd_written := by rfl
theorem lk_with_left : look ds "with_left" = some fd_with_left := by rfl
theorem lk_code_text : look ds "code_text" = some fd_code_text := by rfl
theorem lk_pair_of : look ds "pair_of" = some fd_pair_of := by rfl
theorem lk_read_code : look ds "read_code" = some fd_read_code := by rfl
theorem lk_greatest : look ds "greatest" = some fd_greatest := by rfl
theorem lk_lowest : look ds "lowest" = some fd_lowest := by rfl
theorem lk_times : look ds "times" = some fd_times := by rfl
theorem lk_whole_part : look ds "whole_part" = some fd_whole_part := by rfl
theorem lk_moment : look ds "moment" = some fd_moment := by rfl
theorem lk_frame_at : look ds "frame_at" = some fd_frame_at := by rfl
theorem lk__law_well : look ds "_law_well" = some fd__law_well := by rfl
theorem lk__law_take : look ds "_law_take" = some fd__law_take := by rfl
theorem lk__law_rates : look ds "_law_rates" = some fd__law_rates := by rfl
theorem lk__law_rate : look ds "_law_rate" = some fd__law_rate := by rfl
theorem lk__law_drop : look ds "_law_drop" = some fd__law_drop := by rfl
theorem lk_law : look ds "law" = some fd_law := by rfl
@[simp] theorem lc_FIGURES : lookC cs "FIGURES" = some (PyData.str "0123456789") := by rfl
@[simp] theorem lc_HOURS : lookC cs "HOURS" = some (PyData.int 100) := by rfl
@[simp] theorem lc_MINUTES : lookC cs "MINUTES" = some (PyData.int 60) := by rfl
@[simp] theorem lc_TEN : lookC cs "TEN" = some (PyData.int 10) := by rfl
noncomputable abbrev cal (n : Nat) (f : Str) (a : List SV) : RF := callF (lookC cs) (look ds) n f a
end RH.S
namespace RH.S
open PySem PySem.Spec L2
/-- texts that may be compared -/
abbrev sOk (s : Str) : Prop := PyData.strOk s = true
/-! ### fractions -/
def fr (q : Rat) : D := .tuple [.int q.num, .int (q.den : Int)]
theorem fr_mk (a b : Int) (q : Rat) (h1 : q.num = a) (h2 : (q.den : Int) = b) : PyData.tuple [.int a, .int b] = fr q := by subst h1; subst h2; rfl
@[simp] theorem fr_0 : PyData.tuple [.int 0, .int 1] = fr 0 := rfl
@[simp] theorem fr_1 : PyData.tuple [.int 1, .int 1] = fr 1 := rfl
@[simp] theorem fr_2 : PyData.tuple [.int 2, .int 1] = fr 2 := rfl
theorem fr_int (i : Int) : PyData.tuple [.int i, .int 1] = fr (i : Rat) := rfl
@[simp] theorem ix_fr0 (q : Rat) : opD .ix [fr q, .int 0] = some (fz (.int q.num)) := by unfold fr; simp
@[simp] theorem ix_fr1 (q : Rat) : opD .ix [fr q, .int 1] = some (fz (.int (q.den : Int))) := by unfold fr; simp
@[simp] theorem dTy_fr (q : Rat) (t : Ty) : dTy (fr q) t = (match t with | .tuple => true | _ => false) := by cases t <;> rfl
@[simp] theorem isN_fr (q : Rat) : isNoneD (fr q) = false := rfl
@[simp] theorem fr_inj {p q : Rat} : fr p = fr q ↔ p = q := by
  constructor
  · intro h
    unfold fr at h
    simp only [PyData.tuple.injEq, List.cons.injEq, PyData.int.injEq, and_true] at h
    exact Rat.ext h.1 (by omega)
  · rintro rfl; rfl
theorem Ok_fr (q : Rat) : Ok 1 (fr q) := by unfold fr; rw [Ok_tuple]; simp
@[simp] theorem okD_fr (q : Rat) : okD (fr q) = true := okD_of (Ok_fr q) (by decide)
theorem num_pos {q : Rat} : 0 < q.num ↔ 0 < q := by
  have h1 := Rat.num_nonneg (q := -q)
  rw [Rat.neg_num] at h1
  constructor
  · intro h
    by_cases z : 0 < q
    · exact z
    · have : (0 : Rat) ≤ -q := by grind
      have := h1.mpr this
      omega
  · intro h
    by_cases z : 0 < q.num
    · exact z
    · have : (0 : Rat) ≤ -q := h1.mp (by omega)
      grind
@[simp] theorem eqv_fr (p q : Rat) : PyData.eqv (fr p) (fr q) = decide (p = q) := by
  by_cases h : p = q
  · subst h
    simp [eqv_self]
  · have h2 : ¬ (p.num = q.num ∧ p.den = q.den) := fun z => h (Rat.ext z.1 z.2)
    unfold fr
    simp only [PyData.eqv, PyData.eqvAll, Bool.and_true, h, decide_false]
    by_cases h1 : p.num = q.num
    · have : p.den ≠ q.den := fun z => h2 ⟨h1, z⟩
      simp [h1]; omega
    · simp [h1]
/-- a fraction of bounded size -/
structure Sz (n : Nat) (q : Rat) : Prop where
  t : q.num.natAbs < 2 ^ n
  b : q.den < 2 ^ n
theorem Sz.le {m n : Nat} {q : Rat} (h : Sz m q) (hl : m ≤ n) : Sz n q :=
  ⟨Nat.lt_of_lt_of_le h.t (Nat.pow_le_pow_right (by decide) hl), Nat.lt_of_lt_of_le h.b (Nat.pow_le_pow_right (by decide) hl)⟩
theorem div_natAbs_le (a : Int) (g : Nat) : (a / (g : Int)).natAbs ≤ a.natAbs := Int.natAbs_ediv_le_natAbs a (g : Int)
theorem divInt_num {a b : Int} (hb : 0 < b) : (Rat.divInt a b).num = a / (Int.gcd a b : Nat) := by
  rw [Rat.num_divInt, Int.sign_eq_one_of_pos hb, Int.one_mul, Int.gcd_comm]
theorem divInt_den {a b : Int} (hb : 0 < b) : ((Rat.divInt a b).den : Int) = b / (Int.gcd a b : Nat) := by
  rw [Rat.den_divInt, if_neg (by omega), Int.gcd_comm, Int.natCast_ediv, Int.natAbs_of_nonneg (by omega)]
theorem Sz.divInt {n : Nat} {a b : Int} (hb : 0 < b) (h1 : a.natAbs < 2 ^ n) (h2 : b.natAbs < 2 ^ n) : Sz n (Rat.divInt a b) := by
  refine ⟨?_, ?_⟩
  · rw [divInt_num hb]
    exact Nat.lt_of_le_of_lt (div_natAbs_le a _) h1
  · have h := divInt_den (a := a) hb
    have h3 : ((Rat.divInt a b).den : Int) ≤ b := by rw [h]; exact Int.ediv_le_self _ (by omega)
    omega
theorem divInt_add (p q : Rat) : Rat.divInt (p.num * q.den + q.num * p.den) (p.den * q.den) = p + q := by
  rw [Rat.add_def', ← Rat.divInt_ofNat, Int.natCast_mul]
theorem divInt_mul (p q : Rat) : Rat.divInt (p.num * q.num) (p.den * q.den) = p * q := by
  rw [Rat.mul_def', ← Rat.divInt_ofNat, Int.natCast_mul]
theorem den_pos (q : Rat) : 0 < (q.den : Int) := by have := q.den_pos; omega
theorem divInt_div (p q : Rat) (h : 0 < q) : Rat.divInt (p.num * q.den) (p.den * q.num) = p / q := by
  have h1 : q.num ≠ 0 := by rw [Ne, Rat.num_eq_zero]; intro z; subst z; exact absurd h (by decide)
  rw [Rat.div_def, ← Rat.divInt_mul_divInt (n₁ := p.num) (d₁ := p.den) (n₂ := q.den) (d₂ := q.num), Rat.num_divInt_den]
  congr 1
  rw [← Rat.inv_divInt, Rat.num_divInt_den]
theorem Sz.num_mul {m n : Nat} {a b : Int} (h1 : a.natAbs < 2 ^ m) (h2 : b.natAbs < 2 ^ n) : (a * b).natAbs < 2 ^ (m + n) := by
  rw [Int.natAbs_mul, Nat.pow_add]
  exact Nat.mul_lt_mul'' h1 h2
theorem Sz.mul {m n : Nat} {p q : Rat} (hp : Sz m p) (hq : Sz n q) : Sz (m + n) (p * q) := by
  rw [← divInt_mul]
  refine Sz.divInt (Int.mul_pos (den_pos p) (den_pos q)) (num_mul hp.t hq.t) (num_mul ?_ ?_)
  · simpa using hp.b
  · simpa using hq.b
theorem Sz.add {m n : Nat} {p q : Rat} (hp : Sz m p) (hq : Sz n q) : Sz (m + n + 1) (p + q) := by
  rw [← divInt_add]
  refine Sz.divInt (Int.mul_pos (den_pos p) (den_pos q)) ?_ ?_
  · have h1 := num_mul (a := p.num) (b := (q.den : Int)) hp.t (by simpa using hq.b)
    have h2 := num_mul (a := q.num) (b := (p.den : Int)) hq.t (by simpa using hp.b)
    rw [Nat.add_comm n m] at h2
    rw [Nat.pow_succ]
    omega
  · have := num_mul (a := (p.den : Int)) (b := (q.den : Int)) (by simpa using hp.b) (by simpa using hq.b)
    rw [Nat.pow_succ]
    omega
theorem Sz.div {m n : Nat} {p q : Rat} (hp : Sz m p) (hq : Sz n q) (h : 0 < q) : Sz (m + n) (p / q) := by
  have hn : 0 < q.num := num_pos.mpr h
  rw [← divInt_div p q h]
  refine Sz.divInt (Int.mul_pos (den_pos p) hn) (num_mul hp.t (by simpa using hq.b)) (num_mul (by simpa using hp.b) hq.t)
theorem Sz.int {n : Nat} {i : Int} (h : i.natAbs < 2 ^ n) (hn : 0 < n) : Sz n (i : Rat) := ⟨h, Nat.lt_of_lt_of_le (show 1 < 2 ^ 1 by decide) (Nat.pow_le_pow_right (by decide) hn)⟩
theorem Sz.one_sub {n : Nat} {p : Rat} (h : Sz n p) : Sz (n + 1) (1 - p) := by
  have e : (1 : Rat) - p = 1 + -p := Rat.sub_eq_add_neg ..
  have e1 : Rat.divInt ((p.den : Int) - p.num) p.den = 1 - p := by
    rw [← Rat.num_divInt_den p, show (1 : Rat) = Rat.divInt 1 1 from rfl, Rat.divInt_sub_divInt _ _ (by decide) (by have := den_pos p; omega)]
    simp [Rat.num_divInt_den]
  rw [← e1]
  refine Sz.divInt (den_pos p) ?_ ?_
  · have h1 := h.t
    have h2 := h.b
    rw [Nat.pow_succ]
    omega
  · have h2 := h.b
    rw [Nat.pow_succ]
    omega
theorem big_n {n : Nat} {a : Int} (h : a.natAbs < 2 ^ n) (hn : n ≤ 100000) : big a := by
  unfold big bigBits
  exact Nat.lt_of_lt_of_le h (Nat.pow_le_pow_right (by decide) hn)
theorem dvs_n {n : Nat} {a : Int} (h0 : 0 < a) (h : a.natAbs < 2 ^ n) (hn : n ≤ 9000) : dvs a := by
  unfold dvs divBits
  exact ⟨h0, Nat.lt_of_lt_of_le h (Nat.pow_le_pow_right (by decide) hn)⟩
/-- fractions that the program may work with -/
abbrev Fq (q : Rat) : Prop := Sz 4000 q
theorem Fq.bt {q : Rat} (h : Fq q) : big q.num := big_n h.t (by decide)
theorem Fq.bb {q : Rat} (h : Fq q) : big (q.den : Int) := big_n (n := 4000) (by simpa using h.b) (by decide)
theorem gcd_step' {a b : Int} (hb : 0 < b) : Int.gcd b (a % b) = Int.gcd a b := by
  have e : a % b = a - b * (a / b) := by have := Int.mul_ediv_add_emod a b; omega
  have e2 : a = a % b + b * (a / b) := by omega
  apply Nat.dvd_antisymm
  · apply Int.dvd_gcd
    · have h1 : ((Int.gcd b (a % b) : Nat) : Int) ∣ a % b + b * (a / b) := Int.dvd_add (Int.gcd_dvd_right ..) (Int.dvd_trans (Int.gcd_dvd_left ..) (Int.dvd_mul_right ..))
      rwa [← e2] at h1
    · exact Int.gcd_dvd_left ..
  · apply Int.dvd_gcd
    · exact Int.gcd_dvd_right ..
    · have h1 : ((Int.gcd a b : Nat) : Int) ∣ a - b * (a / b) := Int.dvd_sub (Int.gcd_dvd_left ..) (Int.dvd_trans (Int.gcd_dvd_right ..) (Int.dvd_mul_right ..))
      rwa [← e] at h1
theorem sub_one (q : Rat) : Rat.divInt ((q.den : Int) - q.num) q.den = 1 - q := by
  rw [show (1 : Rat) - q = Rat.divInt 1 1 - Rat.divInt q.num q.den by rw [Rat.num_divInt_den]; rfl, Rat.divInt_sub_divInt _ _ (by decide) (by have := den_pos q; omega)]
  simp
theorem greatest_while (np : Nat) (pn : List Nat) (hp : 0 ∉ pn ∧ 1 ∉ pn) (cf : Str → List SV → RF) (C : Str → Option D) : ∀ (k : Nat) (a b : Int), 0 ≤ b → (b = 0 → 0 ≤ a) → b.toNat ≤ k →
    whileR (evB C cf (.op .ne (.cons (.var 1) (.cons (.cst (.int 0)) .nil)))) (evSS C cf np pn lb_greatest_0) [some (fz (.int a)), some (fz (.int b))] =
      .ok (.nx [some (fz (.int (Int.gcd a b))), some (fz (.int 0))])
  | k, a, b, hb, ha, hk => by
    by_cases h0 : b = 0
    · subst h0
      rw [whileR_f (σ1 := [some (fz (.int a)), some (fz (.int 0))]) (by simp [e_B])]
      have := ha rfl
      have : ((Int.gcd a 0 : Nat) : Int) = a := by simp; omega
      rw [this]
    · have hb' : 0 < b := by omega
      rw [whileR_t (σ1 := [some (fz (.int a)), some (fz (.int b))]) (σ2 := [some (fz (.int b)), some (fz (.int (a % b)))]) (by simp [e_B, h0]) (by simp [lb_greatest_0, hp.1, hp.2, hb'])]
      have h1 := Int.emod_nonneg a h0
      have h2 := Int.emod_lt_of_pos a hb'
      cases k with
      | zero => omega
      | succ k =>
        rw [greatest_while np pn hp cf C k b (a % b) h1 (by omega) (by omega)]
        rw [gcd_step' hb']
theorem greatest_is (n : Nat) {a b : Int} (hb : 0 < b) (σ : EnvD) : gotK σ (cal (n + 1) "greatest" [fz (.int a), fz (.int b)]) = .ok (fz (.int (Int.gcd a b)), σ) := by
  unfold cal
  rw [cal_of lk_greatest rfl]
  simp only [List.map_cons, List.map_nil, Nat.sub_self, List.replicate_zero, List.append_nil, s_cons, s_while, pins_k, pinsK_f, pinsK_n]
  rw [greatest_while _ _ (by simp) _ _ b.toNat a b (by omega) (by omega) (Nat.le_refl _)]
  have : ¬ ((Int.gcd a b : Nat) : Int) < 0 := by omega
  simp [this]
theorem gcd_dvs {a b : Int} (hb : 0 < b) (h : b.natAbs < 2 ^ 9000) : dvs ((Int.gcd a b : Nat) : Int) := by
  have h1 : 0 < Int.gcd a b := Int.gcd_pos_of_ne_zero_right _ (by omega)
  have h2 : ((Int.gcd a b : Nat) : Int) ≤ b := Int.le_of_dvd hb (Int.gcd_dvd_right ..)
  exact dvs_n (n := 9000) (by omega) (by omega) (by decide)
theorem lowest_is (n : Nat) {t b : Int} (hb : 0 < b) (hs : b.natAbs < 2 ^ 9000) (σ : EnvD) : gotK σ (cal (n + 2) "lowest" [fz (.int t), fz (.int b)]) = .ok (fz (fr (Rat.divInt t b)), σ) := by
  unfold cal
  rw [cal_of lk_lowest rfl]
  simp [greatest_is n hb, gcd_dvs hb hs, sizeLine_eq]
  exact fr_mk _ _ _ (divInt_num hb) (divInt_den hb)
theorem lowest_int (n : Nat) {t : Int} (σ : EnvD) : gotK σ (cal (n + 2) "lowest" [fz (.int t), fz (.int 1)]) = .ok (fz (fr (t : Rat)), σ) := by
  rw [lowest_is n (by decide) (Nat.one_lt_two_pow (by decide))]
  rw [Rat.divInt_eq_div, show ((1 : Int) : Rat) = 1 from rfl, Rat.div_def]
  congr 4
  grind
theorem dens {p q : Rat} (hp : Fq p) (hq : Fq q) : 0 < (p.den : Int) * q.den ∧ ((p.den : Int) * q.den).natAbs < 2 ^ 9000 := by
  refine ⟨Int.mul_pos (den_pos p) (den_pos q), ?_⟩
  have := Sz.num_mul (a := (p.den : Int)) (b := (q.den : Int)) (m := 4000) (n := 4000) (by simpa using hp.b) (by simpa using hq.b)
  exact Nat.lt_of_lt_of_le this (Nat.pow_le_pow_right (by decide) (by decide))
theorem times_is (n : Nat) {p q : Rat} (hp : Fq p) (hq : Fq q) (σ : EnvD) : gotK σ (cal (n + 3) "times" [fz (fr p), fz (fr q)]) = .ok (fz (fr (p * q)), σ) := by
  unfold cal
  rw [cal_of lk_times rfl]
  obtain ⟨d1, d2⟩ := dens hp hq
  simp [hp.bt, hp.bb, hq.bt, hq.bb, lowest_is n d1 d2, divInt_mul]
theorem dens' {p q : Rat} (hp : Fq p) (hq : Fq q) (h : 0 < q) : 0 < (p.den : Int) * q.num ∧ ((p.den : Int) * q.num).natAbs < 2 ^ 9000 := by
  refine ⟨Int.mul_pos (den_pos p) (num_pos.mpr h), ?_⟩
  have := Sz.num_mul (a := (p.den : Int)) (b := q.num) (m := 4000) (n := 4000) (by simpa using hp.b) hq.t
  exact Nat.lt_of_lt_of_le this (Nat.pow_le_pow_right (by decide) (by decide))
theorem den_dvs {p : Rat} (hp : Sz 9000 p) : dvs (p.den : Int) := dvs_n (n := 9000) (den_pos p) (by simpa using hp.b) (by decide)
theorem whole_is (n : Nat) {p : Rat} (hp : Sz 9000 p) (σ : EnvD) : gotK σ (cal (n + 1) "whole_part" [fz (fr p)]) = .ok (fz (.int p.floor), σ) := by
  unfold cal
  rw [cal_of lk_whole_part rfl]
  simp [den_dvs hp, Rat.floor_def]
end RH.S

namespace RH.S
open PySem PySem.Spec L2
/-! ### the well -/
structure Well where
  a : Int
  b : Int
  c : Int
  a0 : 0 ≤ a
  b0 : 0 ≤ b
  b1 : b < 4294967296
  c0 : 2147483000 ≤ c
  c1 : c < 4294967296
def Well.d (w : Well) : D := .list [.int w.a, .int w.b, .int w.c]
abbrev Well.sv (w : Well) : SV := ow w.d
@[simp] theorem well_ix0 (w : Well) : opD .ix [w.d, .int 0] = some (fz (.int w.a)) := by unfold Well.d; simp
@[simp] theorem well_ix1 (w : Well) : opD .ix [w.d, .int 1] = some (fz (.int w.b)) := by unfold Well.d; simp
@[simp] theorem well_ix2 (w : Well) : opD .ix [w.d, .int 2] = some (fz (.int w.c)) := by unfold Well.d; simp
theorem atI_ex {α : Type} {xs : List α} {i : Int} (h0 : 0 ≤ i) (h1 : i < xs.length) : ∃ x, atI xs i = some x ∧ x ∈ xs := by
  obtain ⟨k, rfl⟩ := Int.eq_ofNat_of_zero_le h0
  have hk : k < xs.length := by omega
  exact ⟨xs[k], atI_at (List.getElem?_eq_getElem hk), List.getElem_mem hk⟩
/-- one of some things, by their form -/
theorem atI_map {α : Type} (f : α → D) {xs : List α} {i : Int} (h0 : 0 ≤ i) (h1 : i < xs.length) : ∃ x ∈ xs, atI (xs.map f) i = some (f x) := by
  obtain ⟨k, rfl⟩ := Int.eq_ofNat_of_zero_le h0
  have hk : k < xs.length := by omega
  exact ⟨xs[k], List.getElem_mem hk, atI_at (by rw [List.getElem?_map, List.getElem?_eq_getElem hk]; rfl)⟩
theorem take_is (n : Nat) (w : Well) {m : Int} (hm : 0 < m) (hm2 : m < 2 ^ 200) : ∃ v, ∃ w' : Well, 0 ≤ v ∧ v < m ∧ cal (n + 1) "_law_take" [w.sv, fz (.int m)] = .ok (fz (.int v)) [some w'.sv, some (fz (.int m))] := by
  have hm' : m ≠ 0 := by omega
  have hd : dvs m := dvs_of hm hm2
  obtain ⟨a, b, c, a0, b0, b1, c0, c1⟩ := w
  unfold cal Well.sv Well.d
  rw [cal_of lk__law_take rfl]
  dsimp only
  by_cases ha : 0 < a
  · refine ⟨a % m, ⟨a / m, b, c, Int.ediv_nonneg a0 (by omega), b0, b1, c0, c1⟩, Int.emod_nonneg _ hm', Int.emod_lt_of_pos _ hm, ?_⟩
    simp [ha, hm, hd, putD, ixN]
  · have hc : 0 < c := by omega
    have e1 := Int.emod_nonneg (b * 48271) (show c ≠ 0 by omega)
    have e2 := Int.emod_lt_of_pos (b * 48271) hc
    have g1 : big b := big_of (by omega) (by omega)
    have g2 : big 48271 := big_of (by omega) (by omega)
    have g3 : big (b * 48271 % c + 1) := big_of (by omega) (by omega)
    have g4 : dvs 7 := dvs_of (by omega) (by omega)
    refine ⟨(b * 48271 % c + 1) * (b * 48271 % c + 1) % 2147483423 / 7 % m, ⟨a, b * 48271 % c + 1, c, a0, by omega, by omega, c0, c1⟩, Int.emod_nonneg _ hm', Int.emod_lt_of_pos _ hm, ?_⟩
    simp [ha, hm, hd, hc, putD, ixN, g1, g2, g3, g4]
theorem well_is (n : Nat) {ns : List Int} {k : Int} (hn : ns.length ≤ 63) (hk : 0 ≤ k) (hk2 : k < 1000) : ∃ w : Well, ∀ σ, gotK σ (cal (n + 1) "_law_well" [fz (.list (ns.map PyData.int)), fz (.int k)]) = .ok (w.sv, σ) := by
  unfold cal
  rw [cal_of lk__law_well rfl]
  obtain ⟨c, hc, hcm⟩ := atI_ex (xs := [PyData.int 2147483647, .int 2147483629, .int 2147483587, .int 2147483579, .int 2147483563, .int 2147483549, .int 2147483543, .int 2147483497]) (i := k % 8) (by omega) (by simp only [List.length_cons, List.length_nil]; omega)
  obtain ⟨cc, rfl, hc0, hc1⟩ : ∃ cc, c = .int cc ∧ 2147483000 ≤ cc ∧ cc < 4294967296 := by
    simp only [List.mem_cons, List.not_mem_nil, or_false] at hcm
    rcases hcm with rfl | rfl | rfl | rfl | rfl | rfl | rfl | rfl <;> exact ⟨_, rfl, by decide, by decide⟩
  have main : ∀ cell : Int, ∃ w : Well, w.c = cc ∧ w.a = (if 1000000000000000000 ≤ cell then cell else 0) ∧ w.b = ((cell % 2147483489 + 1) * (48271 + 2 * k) % 2147483489) * ((cell % 2147483489 + 1) * (48271 + 2 * k) % 2147483489) % 2147483477 + k + 1 := fun cell => by
    have e2 := Int.emod_nonneg (((cell % 2147483489 + 1) * (48271 + 2 * k) % 2147483489) * ((cell % 2147483489 + 1) * (48271 + 2 * k) % 2147483489)) (show (2147483477 : Int) ≠ 0 by decide)
    have e3 := Int.emod_lt_of_pos (((cell % 2147483489 + 1) * (48271 + 2 * k) % 2147483489) * ((cell % 2147483489 + 1) * (48271 + 2 * k) % 2147483489)) (show (0 : Int) < 2147483477 by decide)
    refine ⟨⟨if 1000000000000000000 ≤ cell then cell else 0, _, cc, by split <;> omega, by omega, by omega, hc0, hc1⟩, rfl, rfl, rfl⟩
  have bg : ∀ cell : Int, big (cell % 2147483489 + 1) ∧ big (48271 + 2 * k) ∧ big ((cell % 2147483489 + 1) * (48271 + 2 * k) % 2147483489) ∧ big 2 ∧ big k := fun cell => by
    have e0 := Int.emod_nonneg cell (show (2147483489 : Int) ≠ 0 by decide)
    have e1 := Int.emod_lt_of_pos cell (show (0 : Int) < 2147483489 by decide)
    have e2 := Int.emod_nonneg ((cell % 2147483489 + 1) * (48271 + 2 * k)) (show (2147483489 : Int) ≠ 0 by decide)
    have e3 := Int.emod_lt_of_pos ((cell % 2147483489 + 1) * (48271 + 2 * k)) (show (0 : Int) < 2147483489 by decide)
    exact ⟨big_of (by omega) (by omega), big_of (by omega) (by omega), big_of (by omega) (by omega), big_of (by omega) (by omega), big_of (by omega) (by omega)⟩
  have hl : ns.length ≤ sizeLine := by rw [sizeLine_eq]; omega
  have h8 : (8 : Nat) ≤ sizeLine := by rw [sizeLine_eq]; omega
  have h3 : (3 : Nat) ≤ sizeLine := by rw [sizeLine_eq]; omega
  by_cases hkn : k < ns.length
  · obtain ⟨kk, rfl⟩ := Int.eq_ofNat_of_zero_le hk
    have hkk : kk < ns.length := by omega
    obtain ⟨w, ec, ea, eb⟩ := main ns[kk]
    obtain ⟨g1, g2, g3, g4, g5⟩ := bg ns[kk]
    have ix : atI (ns.map PyData.int) ((kk : Nat) : Int) = some (.int ns[kk]) := atI_at (by rw [List.getElem?_map, List.getElem?_eq_getElem hkk]; rfl)
    refine ⟨w, fun σ => ?_⟩
    unfold Well.sv Well.d
    rw [ea, eb, ec]
    by_cases hb : 1000000000000000000 ≤ ns[kk]
    · simp [hl, hkk, ix, g1, g2, g3, g4, g5, hc, h8, h3, hb]
    · simp [hl, hkk, ix, g1, g2, g3, g4, g5, hc, h8, h3, hb]
  · obtain ⟨w, ec, ea, eb⟩ := main 0
    obtain ⟨g1, g2, g3, g4, g5⟩ := bg 0
    refine ⟨w, fun σ => ?_⟩
    unfold Well.sv Well.d
    rw [ea, eb, ec]
    have hb : ¬ (1000000000000000000 : Int) ≤ 0 := by decide
    simp at g3
    have g6 : big 1 := big_of (by decide) (by decide)
    simp [hl, hkn, g6, g1, g2, g3, g4, g5, hc, h8, h3]
/-! ### texts -/
theorem sOk_app {x y : Str} (hx : sOk x) (hy : sOk y) : sOk (x ++ y) := by
  unfold sOk PyData.strOk at *
  rw [Array.all_eq_true_iff_forall_mem] at *
  intro c hc
  have hc : c ∈ (x.cps ++ y.cps) := hc
  rw [Array.mem_append] at hc
  rcases hc with hc | hc
  · exact hx c hc
  · exact hy c hc
theorem len_app (x y : Str) : (x ++ y).length = x.length + y.length := by
  show (x.cps ++ y.cps).size = _
  rw [Array.size_append]; rfl
def nthS : MSs → Nat → MS
  | .nil, _ => .pass
  | .cons s _, 0 => s
  | .cons _ ss, n + 1 => nthS ss n
def dropS : MSs → Nat → MSs
  | ss, 0 => ss
  | .nil, _ => .nil
  | .cons _ ss, n + 1 => dropS ss n
/-! ### rates -/
def rates : List Rat := [24, 25, 30, 50, 60, ⟨24000, 1001, by decide, by decide⟩, ⟨30000, 1001, by decide, by decide⟩, ⟨60000, 1001, by decide, by decide⟩]
theorem rates_d : rates.map fr = [.tuple [.int 24, .int 1], .tuple [.int 25, .int 1], .tuple [.int 30, .int 1], .tuple [.int 50, .int 1], .tuple [.int 60, .int 1], .tuple [.int 24000, .int 1001], .tuple [.int 30000, .int 1001], .tuple [.int 60000, .int 1001]] := rfl
theorem rate_facts {r : Rat} (h : r ∈ rates) : 0 < r.num ∧ r.num ≤ 60000 ∧ r.den ≤ 1001 ∧ r.num ≤ 48000 * r.den ∧ 23 * r.den ≤ r.num := by
  unfold rates at h
  simp only [List.mem_cons, List.not_mem_nil, or_false] at h
  rcases h with rfl | rfl | rfl | rfl | rfl | rfl | rfl | rfl <;> decide
theorem rate_pos {r : Rat} (h : r ∈ rates) : 0 < r := num_pos.mp (rate_facts h).1
theorem rate_sz {r : Rat} (h : r ∈ rates) : Sz 16 r := by
  obtain ⟨h1, h2, h3, _⟩ := rate_facts h
  exact ⟨by omega, by omega⟩
theorem rates_is (n : Nat) (σ : EnvD) : gotK σ (cal (n + 1) "_law_rates" []) = .ok (ow (.list (rates.map fr)), σ) := by
  unfold cal
  rw [cal_of lk__law_rates rfl, rates_d]
  simp [sizeLine_eq, -fr_0, -fr_1, -fr_2]
theorem rate_is (n : Nat) (w : Well) : ∃ r ∈ rates, ∃ w' : Well, cal (n + 2) "_law_rate" [w.sv] = .ok (fz (fr r)) [some w'.sv] := by
  obtain ⟨v, w', v0, v1, e⟩ := take_is n w (show (0 : Int) < 8 by decide) (by decide)
  obtain ⟨r, hr, hx⟩ := atI_map fr (xs := rates) v0 (by simpa [rates] using v1)
  refine ⟨r, hr, w', ?_⟩
  unfold cal
  rw [cal_of lk__law_rate rfl]
  simp [rates_is n, e, hx]
end RH.S

namespace RH.S
open PySem PySem.Spec L2
/-! ### things of few kinds -/
inductive Th where
  | i (n : Int)
  | s (x : Str)
  | p (n : Int) (x : Str)
  deriving DecidableEq
def Th.d : Th → D
  | .i n => .int n
  | .s x => .str x
  | .p n x => .tuple [.int n, .str x]
def Th.ok : Th → Prop
  | .i _ => True
  | .s x => sOk x
  | .p _ x => sOk x
theorem eqv_str (x y : Str) : PyData.eqv (.str x) (.str y) = decide (x = y) := by
  show (x == y) = _
  by_cases h : x = y
  · subst h; simp
  · rw [decide_eq_false h]; exact beq_eq_false_iff_ne.mpr h
@[simp] theorem eqv_th (a b : Th) : PyData.eqv a.d b.d = decide (a = b) := by
  cases a <;> cases b <;> simp only [Th.d, PyData.eqv, PyData.eqvAll, Bool.and_true, Th.i.injEq, Th.s.injEq, Th.p.injEq, reduceCtorEq, decide_false]
  · rename_i n m
    by_cases h : n = m <;> simp [h]
  · exact eqv_str _ _
  · rename_i n x m y
    have h := eqv_str x y
    simp only [PyData.eqv] at h
    rw [h]
    by_cases h1 : n = m <;> by_cases h2 : x = y <;> simp [h1, h2]
theorem eqv_all_map {α : Type} [DecidableEq α] (f : α → D) (h : ∀ a b, PyData.eqv (f a) (f b) = decide (a = b)) : ∀ xs ys : List α, PyData.eqvAll (xs.map f) (ys.map f) = decide (xs = ys)
  | [], [] => by simp [PyData.eqvAll]
  | [], b :: ys => by simp [PyData.eqvAll]
  | a :: xs, [] => by simp [PyData.eqvAll]
  | a :: xs, b :: ys => by
    rw [List.map_cons, List.map_cons, PyData.eqvAll, h, eqv_all_map f h xs ys]
    by_cases h1 : a = b <;> by_cases h2 : xs = ys <;> simp [h1, h2]
theorem Ok_th {a : Th} (h : a.ok) : Ok 1 a.d := by
  cases a with
  | i n => simp [Th.d]
  | s x => simp only [Th.d, Ok_str]; exact h
  | p n x => simp only [Th.d]; rw [Ok_tuple]; simp; exact h
def thsD (xs : List Th) : D := .list (xs.map Th.d)
abbrev ThsOk (xs : List Th) : Prop := ∀ a ∈ xs, a.ok
theorem okD_th {a : Th} (h : a.ok) : okD a.d = true := okD_of (Ok_th h) (by decide)
theorem okD_ths {xs : List Th} (h : ThsOk xs) : okD (thsD xs) = true := by
  refine okD_of (n := 2) ?_ (by decide)
  unfold thsD
  rw [Ok_list]
  intro x hx
  obtain ⟨a, ha, rfl⟩ := List.mem_map.mp hx
  exact Ok_th (h a ha)
theorem eq_th {a b : Th} (ha : a.ok) (hb : b.ok) : opD .eq [a.d, b.d] = some (fz (.bool (decide (a = b)))) := by rw [o_eq (okD_th ha) (okD_th hb), eqv_th]
theorem eqv_ths (xs ys : List Th) : PyData.eqv (thsD xs) (thsD ys) = decide (xs = ys) := by
  unfold thsD
  simp only [PyData.eqv]
  exact eqv_all_map Th.d eqv_th xs ys
theorem eq_ths {xs ys : List Th} (hx : ThsOk xs) (hy : ThsOk ys) : opD .eq [thsD xs, thsD ys] = some (fz (.bool (decide (xs = ys)))) := by rw [o_eq (okD_ths hx) (okD_ths hy), eqv_ths]
theorem in_ths {a : Th} {xs : List Th} (ha : a.ok) (hx : ThsOk xs) (neg : Bool) : opD (if neg then .notin else .isin) [a.d, thsD xs] = some (fz (.bool (decide (a ∈ xs) != neg))) := by
  have h : ∀ b : Bool, dIn b [a.d, thsD xs] = (if okD a.d && okD (thsD xs) then some (fz (.bool (((xs.map Th.d).any fun z => PyData.eqv z a.d) != b))) else none) := fun b => by
    cases a <;> rfl
  have h2 : ((xs.map Th.d).any fun z => PyData.eqv z a.d) = decide (a ∈ xs) := by
    rw [List.any_map]
    rw [Bool.eq_iff_iff]
    simp only [Function.comp_def, eqv_th, List.any_eq_true, decide_eq_true_eq, exists_eq_right]
  have h3 : opD (if neg then .notin else .isin) [a.d, thsD xs] = dIn neg [a.d, thsD xs] := by cases neg <;> rfl
  rw [h3, h, okD_th ha, okD_ths hx, h2]; rfl
theorem isin_ths {a : Th} {xs : List Th} (ha : a.ok) (hx : ThsOk xs) : opD .isin [a.d, thsD xs] = some (fz (.bool (decide (a ∈ xs)))) := by
  have := in_ths ha hx false
  simpa using this
theorem notin_ths {a : Th} {xs : List Th} (ha : a.ok) (hx : ThsOk xs) : opD .notin [a.d, thsD xs] = some (fz (.bool (!decide (a ∈ xs)))) := by
  have := in_ths ha hx true
  simpa using this
theorem len_ths {xs : List Th} (h : xs.length ≤ 1000000) : opD .len [thsD xs] = some (fz (.int (xs.length : Int))) := by
  unfold thsD
  simp [sz h]
theorem ix_ths {xs : List Th} {i : Int} {k : Nat} {a : Th} (hi : i = (k : Int)) (h : xs[k]? = some a) : opD .ix [thsD xs, .int i] = some (fz a.d) := by
  subst hi
  unfold thsD
  rw [o_ix_l, atI_at (k := k) (x := a.d) (by rw [List.getElem?_map, h]; rfl)]
  rfl
theorem cut_is {xs : List D} {i j : Int} {a b : Nat} (hi : i = (a : Int)) (hj : j = ((a + b : Nat) : Int)) : cutD xs (some i) (some j) = (xs.drop a).take b := by
  subst hi; subst hj
  rw [cut_lh (by omega) (by omega)]
  simp only [Int.toNat_natCast]
  rw [List.drop_take]
  congr 1
  omega
theorem sl_ths {xs : List Th} {i j : Int} {a b : Nat} (hi : i = (a : Int)) (hj : j = ((a + b : Nat) : Int)) : slD (thsD xs) (some i) (some j) = some (ow (thsD ((xs.drop a).take b))) := by
  unfold thsD
  rw [sl_l, cut_is hi hj, List.map_take, List.map_drop]
theorem ths_mem {xs : List Th} (h : ThsOk xs) {k : Nat} {a : Th} (e : xs[k]? = some a) : a.ok := h a (List.mem_of_getElem? e)
theorem ThsOk.cut {xs : List Th} (h : ThsOk xs) (a b : Nat) : ThsOk ((xs.drop a).take b) := fun x hx => h x (List.mem_of_mem_drop (List.mem_of_mem_take hx))
theorem isList_ths (xs : List Th) (t : Ty) : dTy (thsD xs) t = (match t with | .list => true | _ => false) := by cases t <;> rfl
theorem seq_ths (xs : List Th) : seqItems (thsD xs) = some (xs.map Th.d) := rfl
end RH.S

namespace RH.S
open PySem PySem.Spec L2
/-! ### copies: what is told -/
def lcp : List Th → List Th → Nat
  | a :: xs, b :: ys => if a = b then lcp xs ys + 1 else 0
  | _, _ => 0
theorem lcp_le : ∀ xs ys : List Th, lcp xs ys ≤ xs.length ∧ lcp xs ys ≤ ys.length
  | [], _ => by simp [lcp]
  | a :: xs, [] => by simp [lcp]
  | a :: xs, b :: ys => by
    have := lcp_le xs ys
    unfold lcp
    split
    · simp only [List.length_cons]; omega
    · simp
theorem lcp_step : ∀ (xs ys : List Th) (m : Nat), m ≤ lcp xs ys → (m < lcp xs ys ↔ ∃ a, xs[m]? = some a ∧ ys[m]? = some a)
  | [], ys, m, _ => by simp [lcp]
  | a :: xs, [], m, _ => by simp [lcp]
  | a :: xs, b :: ys, 0, _ => by
    unfold lcp
    by_cases h : a = b
    · subst h; simp
    · simp [h]
      exact fun z => h z.symm
  | a :: xs, b :: ys, m + 1, hm => by
    unfold lcp at hm ⊢
    by_cases h : a = b
    · rw [if_pos h] at hm ⊢
      have := lcp_step xs ys m (by omega)
      simp only [List.getElem?_cons_succ]
      rw [← this]; omega
    · rw [if_neg h] at hm; omega
theorem lcp_take : ∀ (xs ys : List Th) (m : Nat), m ≤ lcp xs ys ↔ (xs.take m = ys.take m ∧ m ≤ xs.length ∧ m ≤ ys.length)
  | _, _, 0 => by simp
  | [], ys, m + 1 => by simp [lcp]
  | a :: xs, [], m + 1 => by simp [lcp]
  | a :: xs, b :: ys, m + 1 => by
    unfold lcp
    by_cases h : a = b
    · subst h
      rw [if_pos rfl, Nat.add_le_add_iff_right, lcp_take xs ys m]
      simp
    · rw [if_neg h]
      simp [h]
def longAt (old new : List Th) (at_ : Nat) : Nat → Nat × Nat
  | 0 => (0, 0)
  | k + 1 => if (longAt old new at_ k).2 < lcp (old.drop k) (new.drop at_) then (k, lcp (old.drop k) (new.drop at_)) else longAt old new at_ k
def longF (old new : List Th) (at_ : Nat) : Nat × Nat := longAt old new at_ old.length
def pairN (p : Nat × Nat) : D := .tuple [.int (p.1 : Int), .int (p.2 : Int)]
inductive Deed where
  | copy (p n : Nat)
  | make (n : Nat)
def Deed.d : Deed → D
  | .copy p n => .tuple [.str "copy", .int (p : Int), .int (n : Int)]
  | .make n => .tuple [.str "make", .int (n : Int)]
def deedsD (l : List Deed) : D := .list (l.map Deed.d)
def addMake (f : List Deed) : List Deed := match f.getLast? with
  | some (.make n) => f.dropLast ++ [.make (n + 1)]
  | _ => f ++ [.make 1]
def copyStep (old new : List Th) (f : List Deed) (at_ : Nat) : List Deed × Nat :=
  if 0 < (longF old new at_).2 then (f ++ [.copy (longF old new at_).1 (longF old new at_).2], at_ + (longF old new at_).2) else (addMake f, at_ + 1)
def copiesGo (old new : List Th) : Nat → List Deed → Nat → List Deed
  | 0, f, _ => f
  | k + 1, f, at_ => if at_ < new.length then copiesGo old new k (copyStep old new f at_).1 (copyStep old new f at_).2 else f
def copiesF (old new : List Th) : List Deed := copiesGo old new new.length [] 0
def Deed.size : Deed → Nat
  | .copy _ n => n
  | .make n => n
def Deed.isCopy : Deed → Bool
  | .copy _ _ => true
  | .make _ => false
def paperGo : List Deed → Nat → List Nat
  | [], _ => []
  | d :: l, at_ => if d.isCopy then at_ :: paperGo l (at_ + d.size) else paperGo l (at_ + d.size)
def natsD (l : List Nat) : D := .list (l.map fun (n : Nat) => PyData.int (n : Int))
/-- the things that both lists hold -/
structure Lists (old new : List Th) : Prop where
  ok : ThsOk old
  nw : ThsOk new
  l1 : old.length ≤ 1000
  l2 : new.length ≤ 1000
theorem sOk_copy : sOk "copy" := by decide +kernel
theorem sOk_make : sOk "make" := by decide +kernel
theorem okD_str {x : Str} (h : sOk x) : okD (.str x) = true := okD_of (n := 1) ((Ok_str 1 x).mpr h) (by decide)
theorem eq_str {x y : Str} (hx : sOk x) (hy : sOk y) : opD .eq [.str x, .str y] = some (fz (.bool (decide (x = y)))) := by rw [o_eq (okD_str hx) (okD_str hy), eqv_str]
theorem ne_str {x y : Str} (hx : sOk x) (hy : sOk y) : opD .ne [.str x, .str y] = some (fz (.bool (!decide (x = y)))) := by rw [o_ne (okD_str hx) (okD_str hy), eqv_str]
theorem longAt_le (old new : List Th) (at_ : Nat) : ∀ k, (longAt old new at_ k).1 ≤ k ∧ (longAt old new at_ k).2 ≤ new.length - at_
  | 0 => by simp [longAt]
  | k + 1 => by
    have h := longAt_le old new at_ k
    have h2 := lcp_le (old.drop k) (new.drop at_)
    rw [List.length_drop, List.length_drop] at h2
    unfold longAt
    split
    · dsimp only; omega
    · omega
def Deed.word : Deed → Str
  | .copy _ _ => "copy"
  | .make _ => "make"
theorem deed0 (d : Deed) : opD .ix [d.d, .int 0] = some (fz (.str d.word)) := by cases d <;> simp [Deed.d, Deed.word]
theorem deedL (d : Deed) : opD .ix [d.d, .int (-1)] = some (fz (.int (d.size : Int))) := by
  cases d <;> simp [Deed.d, Deed.size, atI, ixN]
theorem word_ok (d : Deed) : sOk d.word := by cases d <;> first | exact sOk_copy | exact sOk_make
theorem word_copy (d : Deed) : decide (d.word = "copy") = d.isCopy := by
  cases d
  · exact (show decide (("copy" : Str) = "copy") = true by decide +kernel)
  · exact (show decide (("make" : Str) = "copy") = false by decide +kernel)
theorem word_make (d : Deed) : decide (d.word = "make") = !d.isCopy := by
  cases d
  · exact (show decide (("copy" : Str) = "make") = false by decide +kernel)
  · exact (show decide (("make" : Str) = "make") = true by decide +kernel)
def sizes (l : List Deed) : Nat := (l.map Deed.size).sum
theorem paper_snoc (d : Deed) : ∀ (l : List Deed) (a : Nat), paperGo (l ++ [d]) a = paperGo l a ++ (if d.isCopy then [a + sizes l] else [])
  | [], a => by simp [paperGo, sizes]
  | e :: l, a => by
    have ih := paper_snoc d l (a + e.size)
    rw [List.cons_append, paperGo, paperGo, ih]
    have e1 : a + e.size + sizes l = a + sizes (e :: l) := by simp [sizes]; omega
    rw [e1]
    split <;> simp
theorem sizes_snoc (l : List Deed) (d : Deed) : sizes (l ++ [d]) = sizes l + d.size := by simp [sizes]
theorem paper_len : ∀ (l : List Deed) (a : Nat), (paperGo l a).length = (l.filter Deed.isCopy).length
  | [], a => rfl
  | d :: l, a => by
    rw [paperGo, List.filter_cons]
    split <;> simp [paper_len l]
/-- where a run stands -/
def standsL (old run : List Th) : List Nat := (List.range (old.length + 1 - run.length)).filter fun k => decide ((old.drop k).take run.length = run)
theorem stand_eval {old run : List Th} (ho : ThsOk old) (hr : ThsOk run) (h2 : run.length ≤ 1000) (C : Str → Option D) (cf : Str → List SV → RF) {m1 m2 : Md} (k : Nat) :
    evV C cf (.op .eq (.cons (.slice (.var 0) (.var 2) (.op .add (.cons (.var 2) (.cons (.op .len (.cons (.var 1) .nil)) .nil)))) (.cons (.var 1) .nil))) [some ⟨m1, thsD old⟩, some ⟨m2, thsD run⟩, some (fz (.int (k : Int)))] =
      .ok (fz (.bool (decide ((old.drop k).take run.length = run))), [some ⟨m1, thsD old⟩, some ⟨m2, thsD run⟩, some (fz (.int (k : Int)))]) := by
  have s := sl_ths (xs := old) (i := (k : Int)) (j := (k : Int) + (run.length : Int)) (a := k) (b := run.length) rfl (by omega)
  have l := len_ths (xs := run) (by omega)
  have q := eq_ths (ho.cut k run.length) hr
  cases m1 <;> cases m2 <;> simp [s, l, q]
theorem stand_rng {old run : List Th} (h1 : old.length ≤ 1000) (h2 : run.length ≤ 1000) (C : Str → Option D) (cf : Str → List SV → RF) {m1 m2 : Md} :
    evI C cf (.rng1 (.op .add (.cons (.op .sub (.cons (.op .len (.cons (.var 0) .nil)) (.cons (.op .len (.cons (.var 1) .nil)) .nil))) (.cons (.cst (.int 1)) .nil)))) [some ⟨m1, thsD old⟩, some ⟨m2, thsD run⟩, none] =
      .ok (⟨(List.range (old.length + 1 - run.length)).map fun (k : Nat) => PyData.int (k : Int), [], []⟩, [some ⟨m1, thsD old⟩, some ⟨m2, thsD run⟩, none]) := by
  have l1 := len_ths (xs := old) (by omega)
  have l2 := len_ths (xs := run) (by omega)
  have := i_rng1 (C := C) (cf := cf) (b := .op .add (.cons (.op .sub (.cons (.op .len (.cons (.var 0) .nil)) (.cons (.op .len (.cons (.var 1) .nil)) .nil))) (.cons (.cst (.int 1)) .nil))) (σ := [some ⟨m1, thsD old⟩, some ⟨m2, thsD run⟩, none]) (σ' := [some ⟨m1, thsD old⟩, some ⟨m2, thsD run⟩, none]) (m := .frz) (j := (old.length : Int) - (run.length : Int) + 1) (by cases m1 <;> cases m2 <;> simp [l1, l2]) (by omega) (by omega)
  rw [this, rangeD_map, show ((old.length : Int) - (run.length : Int) + 1).toNat = old.length + 1 - run.length by omega]
theorem bools_map (l : List Bool) : bools? (l.map PyData.bool) = some l := by
  induction l with
  | nil => rfl
  | cons b l ih => show ((bools? (l.map PyData.bool)).map (b :: ·)) = _; rw [ih]; rfl
theorem o_any (l : List Bool) : opD .any [.list (l.map PyData.bool)] = some (fz (.bool (l.any id))) := by
  show (bools? (l.map PyData.bool)).map (fun l => fz (.bool (l.any id))) = _
  rw [bools_map]; rfl
theorem o_all (l : List Bool) : opD .all [.list (l.map PyData.bool)] = some (fz (.bool (l.all id))) := by
  show (bools? (l.map PyData.bool)).map (fun l => fz (.bool (l.all id))) = _
  rw [bools_map]; rfl
/-- a whole number between two -/
def wholeB (lo hi : Int) : D → Bool
  | .int i => decide (lo ≤ i ∧ i ≤ hi)
  | _ => false
def isIntB : D → Bool
  | .int _ => true
  | _ => false
theorem is_int_is (n : Nat) (d : D) (m : Md) (h : m = .frz) (σ : EnvD) : gotK σ (cal (n + 1) "is_int" [⟨m, d⟩]) = .ok (fz (.bool (isIntB d)), σ) := by
  subst h
  unfold cal
  rw [cal_of lk_is_int rfl]
  cases d <;> simp [dTy, isIntB]
def risingN (l : List Nat) : Bool := (List.range (l.length - 1)).all fun k => decide (l.getD k 0 < l.getD (k + 1) 0)
theorem risingN_iff : ∀ l : List Nat, risingN l = true ↔ l.Pairwise (· < ·)
  | [] => by simp [risingN]
  | [a] => by simp [risingN]
  | a :: b :: l => by
    have ih := risingN_iff (b :: l)
    unfold risingN at ih ⊢
    simp only [List.length_cons, Nat.add_sub_cancel] at ih ⊢
    rw [List.range_succ_eq_map, List.all_cons, List.all_map]
    have e : (fun k => decide ((a :: b :: l).getD k 0 < (a :: b :: l).getD (k + 1) 0)) ∘ Nat.succ = fun k => decide ((b :: l).getD k 0 < (b :: l).getD (k + 1) 0) := by
      funext k; rfl
    rw [e, Bool.and_eq_true, ih, decide_eq_true_eq]
    show a < b ∧ _ ↔ _
    constructor
    · rintro ⟨h1, h2⟩
      refine List.pairwise_cons.mpr ⟨fun x hx => ?_, h2⟩
      rcases List.mem_cons.mp hx with rfl | hx
      · exact h1
      · exact Nat.lt_trans h1 ((List.pairwise_cons.mp h2).1 x hx)
    · intro h
      obtain ⟨h1, h2⟩ := List.pairwise_cons.mp h
      exact ⟨h1 b List.mem_cons_self, h2⟩
theorem ix_nats {l : List Nat} {i : Int} {k : Nat} (hi : i = (k : Int)) (h : k < l.length) : opD .ix [natsD l, .int i] = some (fz (.int (l.getD k 0 : Nat))) := by
  subst hi
  unfold natsD
  rw [o_ix_l, atI_at (k := k) (x := .int (l.getD k 0 : Nat)) (by rw [List.getElem?_map, List.getElem?_eq_getElem h, List.getD, List.getElem?_eq_getElem h]; rfl)]
  rfl
theorem len_nats {l : List Nat} (h : l.length ≤ 1000000) : opD .len [natsD l] = some (fz (.int (l.length : Int))) := by
  unfold natsD
  simp [sz h]
theorem seq_nats (l : List Nat) : seqItems (natsD l) = some (l.map fun (n : Nat) => PyData.int (n : Int)) := rfl
/-- the numbers of a list, if they are all places of the new list -/
def wholes (hi : Nat) : List D → Option (List Nat)
  | [] => some []
  | .int i :: l => if 0 ≤ i ∧ i < (hi : Int) then (wholes hi l).map (i.toNat :: ·) else none
  | _ :: _ => none
theorem wholes_some {hi : Nat} : ∀ {xs : List D} {l : List Nat}, wholes hi xs = some l → xs = l.map (fun (n : Nat) => PyData.int (n : Int)) ∧ ∀ n ∈ l, n < hi
  | [], l, h => by cases h; exact ⟨rfl, fun _ h => (nomatch h)⟩
  | .int i :: xs, l, h => by
    unfold wholes at h
    split at h
    · rename_i hi'
      obtain ⟨l', e, rfl⟩ := Option.map_eq_some_iff.mp h
      obtain ⟨h1, h2⟩ := wholes_some e
      refine ⟨?_, fun n hn => ?_⟩
      · rw [List.map_cons, ← h1]
        congr 2
        omega
      · rcases List.mem_cons.mp hn with rfl | hn
        · omega
        · exact h2 n hn
    · cases h
  | .none :: _, _, h => by cases h
  | .bool _ :: _, _, h => by cases h
  | .str _ :: _, _, h => by cases h
  | .list _ :: _, _, h => by cases h
  | .tuple _ :: _, _, h => by cases h
  | .dict _ :: _, _, h => by cases h
theorem wholes_all (hi : Nat) : ∀ xs : List D, (xs.all (wholeB 0 ((hi : Int) - 1))) = (wholes hi xs).isSome
  | [] => rfl
  | .int i :: xs => by
    rw [List.all_cons, wholes_all hi xs, wholes]
    by_cases h : 0 ≤ i ∧ i < (hi : Int)
    · have : wholeB 0 ((hi : Int) - 1) (.int i) = true := decide_eq_true (by omega)
      rw [if_pos h, this]; simp
    · have : wholeB 0 ((hi : Int) - 1) (.int i) = false := decide_eq_false (by omega)
      rw [if_neg h, this]; simp
  | .none :: _ => by simp [wholes, wholeB]
  | .bool _ :: _ => by simp [wholes, wholeB]
  | .str _ :: _ => by simp [wholes, wholeB]
  | .list _ :: _ => by simp [wholes, wholeB]
  | .tuple _ :: _ => by simp [wholes, wholeB]
  | .dict _ :: _ => by simp [wholes, wholeB]
theorem wholes_nats {hi : Nat} : ∀ {l : List Nat}, (∀ n ∈ l, n < hi) → wholes hi (l.map fun (n : Nat) => PyData.int (n : Int)) = some l
  | [], _ => rfl
  | n :: l, h => by
    rw [List.map_cons, wholes, if_pos ⟨by omega, by have := h n List.mem_cons_self; omega⟩, wholes_nats fun k hk => h k (List.mem_cons_of_mem _ hk)]
    simp
/-- a right paper -/
def rightPaper (old new : List Th) (l : List Nat) : Bool :=
  risingN l && l.all (fun at_ => decide ((new[at_]?).all (fun a => a ∈ old))) && (List.range (l.length - 1)).all fun k => (standsL old ((new.drop (l.getD k 0)).take (l.getD (k + 1) 0 + 1 - l.getD k 0))).isEmpty
def shownD (old new : List Th) : D → Bool
  | .list xs => match wholes new.length xs with
    | some l => rightPaper old new l
    | none => false
  | _ => false
end RH.S

namespace RH.S
open PySem PySem.Spec L2
/-! ### the law's own small tests -/
/-- a loop that may end with an answer -/
theorem forR_ret {bnd : D → EnvD → Option EnvD} {body : EnvD → R Fl} (I : EnvD → Prop) (r : SV) (bad : D → Bool) : ∀ (xs : List D) (σ : EnvD), I σ →
    (∀ x ∈ xs, ∀ σ, I σ → ∃ σ1, bnd x σ = some σ1 ∧ ∃ σ2, I σ2 ∧ body σ1 = .ok (if bad x then .rt r σ2 else .nx σ2)) → ∃ σ2, I σ2 ∧ forR bnd body xs σ = .ok (if xs.any bad then .rt r σ2 else .nx σ2)
  | [], σ, h, _ => ⟨σ, h, rfl⟩
  | x :: xs, σ, h, hb => by
    obtain ⟨σ1, e1, σ2, h2, e2⟩ := hb x List.mem_cons_self σ h
    rw [forR, e1, ofOpt_some, R.bind_ok, e2, R.bind_ok]
    cases hx : bad x with
    | true => exact ⟨σ2, h2, by simp [hx]⟩
    | false =>
      obtain ⟨σ3, h3, e3⟩ := forR_ret I r bad xs σ2 h2 fun y hy => hb y (List.mem_cons_of_mem _ hy)
      exact ⟨σ3, h3, by simpa [hx] using e3⟩
end RH.S

namespace RH.S
open PySem PySem.Spec L2
/-! ### codes -/
abbrev dg (i : Int) : Str := Str.ofString (toString i)
def fig (n : Int) : Str := dg (n / 10) ++ dg (n % 10)
theorem dg_ok : ∀ k : Fin 10, (dg ((k : Nat) : Int)).length = 1 ∧ PyData.strOk (dg ((k : Nat) : Int)) = true := by decide +kernel
theorem dg_of {i : Int} (h0 : 0 ≤ i) (h1 : i < 10) : (dg i).length = 1 ∧ sOk (dg i) := by
  have := dg_ok ⟨i.toNat, by omega⟩
  rw [show ((i.toNat : Nat) : Int) = i by omega] at this
  exact this
theorem fig_of {n : Int} (h0 : 0 ≤ n) (h1 : n < 100) : (fig n).length = 2 ∧ sOk (fig n) := by
  obtain ⟨a1, a2⟩ := dg_of (i := n / 10) (by omega) (by omega)
  obtain ⟨b1, b2⟩ := dg_of (i := n % 10) (by omega) (by omega)
  unfold fig
  exact ⟨by rw [len_app, a1, b1], sOk_app a2 b2⟩
theorem o_str {i : Int} (h0 : 0 ≤ i) (h1 : i < 10) : opD .str [.int i] = some (fz (.str (dg i))) := by
  have : i.natAbs.log2 < 1920 := by
    have : i.natAbs.log2 ≤ i.natAbs := Nat.log2_le_self _
    omega
  show (if i.natAbs.log2 < 1920 then _ else _) = _
  rw [if_pos this]
theorem o_add_s {x y : Str} (h : x.length + y.length ≤ 1000000) : opD .add [.str x, .str y] = some (fz (.str (x ++ y))) := by
  show (if x.length + y.length ≤ sizeLine then some (fz (PyData.str (x ++ y))) else none) = _
  rw [if_pos (sz h)]
theorem two_is (n : Nat) {i : Int} (h0 : 0 ≤ i) (h1 : i < 100) (σ : EnvD) : gotK σ (cal (n + 1) "two_figures" [fz (.int i)]) = .ok (fz (.str (fig i)), σ) := by
  unfold cal
  rw [cal_of lk_two_figures rfl]
  have d10 : dvs 10 := dvs_of (by decide) (by decide)
  have s1 := o_str (i := i / 10) (by omega) (by omega)
  have s2 := o_str (i := i % 10) (by omega) (by omega)
  have a1 := o_add_s (x := dg (i / 10)) (y := dg (i % 10)) (by rw [(dg_of (i := i / 10) (by omega) (by omega)).1, (dg_of (i := i % 10) (by omega) (by omega)).1]; decide)
  simp [d10, s1, s2, a1, fig]
theorem join3 (g a b c : Str) : Txt.join g [a, b, c] = a ++ g ++ b ++ g ++ c := rfl
/-- a code's text -/
def codeT (c n : Int) (sg : Str) : Str := (fig (n / c / 60 / 60) ++ ":" ++ fig (n / c / 60 % 60) ++ ":" ++ fig (n / c % 60)) ++ sg ++ fig (n % c)
theorem colon_ok : sOk ":" ∧ sOk ";" ∧ (":" : Str).length = 1 ∧ (";" : Str).length = 1 := by decide +kernel
theorem parts_of {c n : Int} (hc : 24 ≤ c ∧ c ≤ 60) (h0 : 0 ≤ n) (h1 : n < 360000 * c) : (0 ≤ n / c / 60 / 60 ∧ n / c / 60 / 60 < 100) ∧ (0 ≤ n / c / 60 % 60 ∧ n / c / 60 % 60 < 60) ∧ (0 ≤ n / c % 60 ∧ n / c % 60 < 60) ∧ 0 ≤ n % c ∧ n % c < c := by
  have d0 : 0 ≤ n / c := Int.ediv_nonneg h0 (by omega)
  have d1 : n / c < 360000 := Int.ediv_lt_of_lt_mul (by omega) h1
  have d2 := Int.emod_nonneg n (show c ≠ 0 by omega)
  have d3 := Int.emod_lt_of_pos n (show 0 < c by omega)
  generalize n / c = s at *
  omega
theorem codeT_ok {c n : Int} {sg : Str} (hc : 24 ≤ c ∧ c ≤ 60) (h0 : 0 ≤ n) (h1 : n < 360000 * c) (hs : sg = ":" ∨ sg = ";") : sOk (codeT c n sg) ∧ (codeT c n sg).length = 11 := by
  obtain ⟨p1, p2, p3, p4⟩ := parts_of hc h0 h1
  obtain ⟨a1, a2⟩ := fig_of p1.1 p1.2
  obtain ⟨b1, b2⟩ := fig_of p2.1 (by omega)
  obtain ⟨c1, c2⟩ := fig_of p3.1 (by omega)
  obtain ⟨e1, e2⟩ := fig_of p4.1 (by omega)
  obtain ⟨k1, k2, k3, k4⟩ := colon_ok
  have s1 : sOk sg ∧ sg.length = 1 := by rcases hs with rfl | rfl <;> exact ⟨by assumption, by assumption⟩
  unfold codeT
  exact ⟨sOk_app (sOk_app (sOk_app (sOk_app (sOk_app (sOk_app a2 k1) b2) k1) c2) s1.1) e2, by simp only [len_app]; omega⟩
theorem o_divmod {a b : Int} (h : 0 < b) (h2 : b < 1000000) : opD .divmod [.int a, .int b] = some (fz (.tuple [.int (a / b), .int (a % b)])) := by
  show (dDivmod a b).map fz = _
  unfold dDivmod
  rw [if_pos ⟨h, by omega⟩]; rfl
theorem o_join3 {g a b c : Str} (h : g.length + a.length + b.length + c.length ≤ 1000) : dJoin [.str g, .list [.str a, .str b, .str c]] = some (fz (.str (a ++ g ++ b ++ g ++ c))) := by
  show (some [a, b, c]).bind (fun ys => if (ys.map (·.length)).sum + ys.length * g.length ≤ 16777216 then some (fz (PyData.str (Txt.join g ys))) else none) = _
  rw [Option.bind_some, if_pos (by simp; omega), join3]
theorem written_is (n : Nat) {c num : Int} {sg : Str} (hc : 24 ≤ c ∧ c ≤ 60) (h0 : 0 ≤ num) (h1 : num < 360000 * c) (hs : sg = ":" ∨ sg = ";") (σ : EnvD) : gotK σ (cal (n + 2) "written" [fz (.int num), fz (.int c), fz (.str sg)]) = .ok (fz (.str (codeT c num sg)), σ) := by
  obtain ⟨p1, p2, p3, p4⟩ := parts_of hc h0 h1
  obtain ⟨a1, a2⟩ := fig_of p1.1 p1.2
  obtain ⟨b1, b2⟩ := fig_of p2.1 (by omega)
  obtain ⟨c1, c2⟩ := fig_of p3.1 (by omega)
  obtain ⟨e1, e2⟩ := fig_of p4.1 (by omega)
  obtain ⟨k1, k2, k3, k4⟩ := colon_ok
  have s1 : sg.length = 1 := by rcases hs with rfl | rfl <;> assumption
  have m1 := o_divmod (a := num) (b := c) (by omega) (by omega)
  have m2 := o_divmod (a := num / c) (b := 60) (by omega) (by omega)
  have m3 := o_divmod (a := num / c / 60) (b := 60) (by omega) (by omega)
  have t1 := two_is n (i := num / c / 60 / 60) p1.1 p1.2
  have t2 := two_is n (i := num / c / 60 % 60) p2.1 (by omega)
  have t3 := two_is n (i := num / c % 60) p3.1 (by omega)
  have t4 := two_is n (i := num % c) p4.1 (by omega)
  have j := o_join3 (g := ":") (a := fig (num / c / 60 / 60)) (b := fig (num / c / 60 % 60)) (c := fig (num / c % 60)) (by omega)
  have ad1 := o_add_s (x := fig (num / c / 60 / 60) ++ ":" ++ fig (num / c / 60 % 60) ++ ":" ++ fig (num / c % 60)) (y := sg) (by simp only [len_app]; omega)
  have ad2 := o_add_s (x := (fig (num / c / 60 / 60) ++ ":" ++ fig (num / c / 60 % 60) ++ ":" ++ fig (num / c % 60)) ++ sg) (y := fig (num % c)) (by simp only [len_app]; omega)
  unfold cal
  rw [cal_of lk_written rfl]
  have hcm := comp_map (C := lookC cs) (cf := callF (lookC cs) (look ds) (n + 1)) (i := 10) (it := .seq (.tup (.cons (.var 7) (.cons (.var 8) (.cons (.var 6) .nil))))) (e := .call "two_figures" (.cons (.var 10) .nil)) (σ := [some (fz (.int num)), some (fz (.int c)), some (fz (.str sg)), some (fz (.int (num / c))), some (fz (.int (num % c))), some (fz (.int (num / c / 60))), some (fz (.int (num / c % 60))), some (fz (.int (num / c / 60 / 60))), some (fz (.int (num / c / 60 % 60))), none, none])
    PyData.int (fun i => .str (fig i)) [num / c / 60 / 60, num / c / 60 % 60, num / c % 60] (i_seq_e (σ' := [some (fz (.int num)), some (fz (.int c)), some (fz (.str sg)), some (fz (.int (num / c))), some (fz (.int (num % c))), some (fz (.int (num / c / 60))), some (fz (.int (num / c % 60))), some (fz (.int (num / c / 60 / 60))), some (fz (.int (num / c / 60 % 60))), none, none]) (v := fz (.tuple [.int (num / c / 60 / 60), .int (num / c / 60 % 60), .int (num / c % 60)])) rfl (by simp [sz]) rfl) rfl (sz (by simp)) (by simp) (fun i hi => ⟨.frz, by
      simp only [List.mem_cons, List.not_mem_nil, or_false] at hi
      rcases hi with rfl | rfl | rfl
      · simp [lendAll, t1]
      · simp [lendAll, t2]
      · simp [lendAll, t3]⟩)
  simp only [List.map_cons, List.map_nil] at hcm
  simp [m1, m2, m3, hcm, lendAll, unlend, isStrD, j, ad1, t4, ad2, codeT]
def cnt (r : Rat) : Int := -((-r.num) / r.den)
def lo (r : Rat) : Int := if r.den = 1001 then (if cnt r = 30 then 2 else if cnt r = 60 then 4 else 0) else 0
theorem cnt_facts {r : Rat} (h : r ∈ rates) : (24 ≤ cnt r ∧ cnt r ≤ 60) ∧ (lo r = 0 ∨ (lo r = 2 ∧ cnt r = 30) ∨ (lo r = 4 ∧ cnt r = 60)) := by
  unfold rates at h
  simp only [List.mem_cons, List.not_mem_nil, or_false] at h
  rcases h with rfl | rfl | rfl | rfl | rfl | rfl | rfl | rfl <;> decide
theorem count_is (n : Nat) {r : Rat} (h : r ∈ rates) (σ : EnvD) : gotK σ (cal (n + 1) "count_of" [fz (fr r)]) = .ok (fz (.int (cnt r)), σ) := by
  unfold cal
  rw [cal_of lk_count_of rfl]
  have d := den_dvs ((rate_sz h).le (by decide) : Sz 9000 r)
  simp [d, cnt]
theorem look_left (c : Int) : dGet [.dict [(.int 30, .int 2), (.int 60, .int 4)], .int c, .int 0] = some (fz (.int (if c = 30 then 2 else if c = 60 then 4 else 0))) := by
  show some (fz ((dLook [(.int 30, .int 2), (.int 60, .int 4)] (.inl c)).getD (.int 0))) = _
  by_cases h1 : c = 30
  · subst h1; rfl
  · by_cases h2 : c = 60
    · subst h2; rfl
    · have e1 : ¬ (some (Sum.inl 30 : Key) = some (Sum.inl c)) := fun z => h1 (by cases z; rfl)
      have e2 : ¬ (some (Sum.inl 60 : Key) = some (Sum.inl c)) := fun z => h2 (by cases z; rfl)
      simp [key?, dLook, h1, h2, e1, e2, Ne.symm]
theorem left_is (n : Nat) {r : Rat} (h : r ∈ rates) (σ : EnvD) : gotK σ (cal (n + 2) "left_of" [fz (fr r)]) = .ok (fz (.int (lo r)), σ) := by
  unfold cal
  rw [cal_of lk_left_of rfl]
  have c := count_is n h
  have l := look_left (cnt r)
  have dd : dctD [.int 30, .int 2, .int 60, .int 4] = some (.dict [(.int 30, .int 2), (.int 60, .int 4)]) := by rfl
  have e : opD .eq [.int (r.den : Int), .int 1001] = some (fz (.bool (decide (r.den = 1001)))) := by
    rw [o_eq rfl rfl]
    have : PyData.eqv (.int (r.den : Int)) (.int 1001) = decide (r.den = 1001) := by
      show ((r.den : Int) == 1001) = _
      by_cases q : r.den = 1001
      · rw [q]; rfl
      · have : ¬ ((r.den : Int) = 1001) := by omega
        simp [q, this]
    rw [this]
  by_cases q : r.den = 1001 <;> simp [e, q, c, l, dd, lo, isDictD]
/-- the number of a frame where numbers are left out -/
def withL (c o f : Int) : Int := f + o * (9 * (f / (600 * c - 9 * o)) + (if 60 * c ≤ f % (600 * c - 9 * o) then 1 + (f % (600 * c - 9 * o) - 60 * c) / (60 * c - o) else 0))
theorem with_is (n : Nat) {r : Rat} (h : r ∈ rates) (f : Int) (hf : f.natAbs < 2 ^ 100) (σ : EnvD) : gotK σ (cal (n + 3) "with_left" [fz (.int f), fz (fr r)]) = .ok (fz (.int (withL (cnt r) (lo r) f)), σ) := by
  unfold cal
  rw [cal_of lk_with_left rfl]
  have c := count_is (n + 1) h
  have l := left_is n h
  obtain ⟨⟨c1, c2⟩, c3⟩ := cnt_facts h
  generalize cnt r = k at *
  generalize lo r = o at *
  have ob : 0 ≤ o ∧ o ≤ 4 := by omega
  have k1 : big k := big_of (by omega) (by omega)
  have k2 : big 60 := big_of (by omega) (by omega)
  have k3 : big 10 := big_of (by omega) (by omega)
  have k4 : big 600 := big_of (by omega) (by omega)
  have k5 : big 9 := big_of (by omega) (by omega)
  have k6 : big o := big_of (by omega) (by omega)
  have dm := o_divmod (a := f) (b := 600 * k - 9 * o) (by omega) (by omega)
  have dv : dvs (60 * k - o) := dvs_of (by omega) (by omega)
  have bt : (f / (600 * k - 9 * o)).natAbs < 2 ^ 100 := Nat.lt_of_le_of_lt (Int.natAbs_ediv_le_natAbs _ _) hf
  have e0 := Int.emod_nonneg f (show 600 * k - 9 * o ≠ 0 by omega)
  have e1 := Int.emod_lt_of_pos f (show 0 < 600 * k - 9 * o by omega)
  have k7 : big (f / (600 * k - 9 * o)) := big_n (n := 100) bt (by decide)
  have ge : ∀ a b : Int, opD .ge [.int a, .int b] = some (fz (.bool (decide (b ≤ a)))) := fun _ _ => rfl
  unfold withL
  by_cases q : 60 * k ≤ f % (600 * k - 9 * o)
  · have m0 : 0 ≤ (f % (600 * k - 9 * o) - 60 * k) / (60 * k - o) := Int.ediv_nonneg (by omega) (by omega)
    have m1 : (f % (600 * k - 9 * o) - 60 * k) / (60 * k - o) ≤ f % (600 * k - 9 * o) - 60 * k := Int.ediv_le_self _ (by omega)
    have k8 : big (9 * (f / (600 * k - 9 * o)) + (1 + (f % (600 * k - 9 * o) - 60 * k) / (60 * k - o))) := big_n (n := 120) (by omega) (by decide)
    simp [c, l, k1, k2, k3, k4, k5, k6, k7, dm, dv, ge, q, k8]
  · have k8 : big (9 * (f / (600 * k - 9 * o))) := big_n (n := 120) (by omega) (by decide)
    simp [c, l, k1, k2, k3, k4, k5, k6, k7, dm, dv, ge, q, k8]
/-- a code, or none -/
def numL (r : Rat) (f : Int) (left : Bool) : Int := if left then withL (cnt r) (lo r) f else f
def codeO (r : Rat) (f : Int) (left : Bool) : Option Str :=
  if f < 0 ∨ (left = true ∧ lo r = 0) ∨ 360000 * cnt r ≤ numL r f left then none else some (codeT (cnt r) (numL r f left) (if left then ";" else ":"))
theorem withL_ge {c o f : Int} (hc : 24 ≤ c ∧ c ≤ 60) (ho : 0 ≤ o ∧ o ≤ 4) (hf : 0 ≤ f) : f ≤ withL c o f := by
  unfold withL
  have d0 : 0 ≤ f / (600 * c - 9 * o) := Int.ediv_nonneg hf (by omega)
  have : 0 ≤ 9 * (f / (600 * c - 9 * o)) + (if 60 * c ≤ f % (600 * c - 9 * o) then 1 + (f % (600 * c - 9 * o) - 60 * c) / (60 * c - o) else 0) := by
    split
    · have := Int.ediv_nonneg (a := f % (600 * c - 9 * o) - 60 * c) (b := 60 * c - o) (by omega) (by omega)
      omega
    · omega
  have := Int.mul_nonneg ho.1 this
  omega
theorem code_is (n : Nat) {r : Rat} (h : r ∈ rates) {f : Int} (hf : f.natAbs < 2 ^ 100) (left : Bool) : cal (n + 4) "code_text" [fz (.int f), fz (fr r), fz (.bool left)] = (match codeO r f left with
    | some t => .ok (fz (.str t)) [some (fz (.int f)), some (fz (fr r)), some (fz (.bool left))]
    | none => .exc "NoCode" [some (fz (.int f)), some (fz (fr r)), some (fz (.bool left))]) := by
  unfold cal
  rw [cal_of lk_code_text rfl]
  have c := count_is (n + 2) h
  have l := left_is (n + 1) h
  have w := with_is n h f hf
  have ii := is_int_is (n + 2) (.int f) .frz rfl
  obtain ⟨⟨c1, c2⟩, c3⟩ := cnt_facts h
  have wr := fun (g0 : 0 ≤ numL r f left) (g1 : numL r f left < 360000 * cnt r) => written_is (n + 1) (c := cnt r) (num := numL r f left) (sg := if left then ";" else ":") ⟨c1, c2⟩ g0 g1 (by cases left <;> simp)
  have lo0 : opD .eq [.int (lo r), .int 0] = some (fz (.bool (decide (lo r = 0)))) := by
    rw [o_eq rfl rfl]
    have : PyData.eqv (.int (lo r)) (.int 0) = decide (lo r = 0) := by
      show (lo r == 0) = _
      by_cases q : lo r = 0 <;> simp [q]
    rw [this]
  have lt0 : opD .lt [.int f, .int 0] = some (fz (.bool (decide (f < 0)))) := rfl
  have ge : ∀ a b : Int, opD .ge [.int a, .int b] = some (fz (.bool (decide (b ≤ a)))) := fun _ _ => rfl
  have b1 : big 100 := big_of (by omega) (by omega)
  have b2 : big 60 := big_of (by omega) (by omega)
  have b3 : big 6000 := big_of (by omega) (by omega)
  have b4 : big 360000 := big_of (by omega) (by omega)
  have b5 : big (cnt r) := big_of (by omega) (by omega)
  unfold codeO
  by_cases h0 : f < 0
  · simp [ii, isIntB, lt0, h0]
  · by_cases h1 : left = true ∧ lo r = 0
    · obtain ⟨rfl, h1⟩ := h1
      simp [ii, isIntB, lt0, h0, l, lo0, h1]
    · have hn : 0 ≤ numL r f left := by
        unfold numL
        cases left with
        | false => simp; omega
        | true =>
          have := withL_ge (c := cnt r) (o := lo r) (f := f) ⟨c1, c2⟩ (by omega) (by omega)
          simp; omega
      by_cases h2 : 360000 * cnt r ≤ numL r f left
      · cases left with
        | false =>
          simp only [numL] at h2
          simp at h2
          simp [ii, isIntB, lt0, h0, c, b1, b2, b3, b4, b5, ge, h2, numL]
        | true =>
          have h1' : ¬ lo r = 0 := fun z => h1 ⟨rfl, z⟩
          simp only [numL] at h2
          simp at h2
          simp [ii, isIntB, lt0, h0, l, lo0, h1', w, c, b1, b2, b3, b4, b5, ge, h2, numL]
      · have wr := wr hn (by omega)
        cases left with
        | false =>
          have h3 : ¬ (360000 * cnt r ≤ f) := h2
          simp only [numL] at wr
          simp at wr
          simp [ii, isIntB, lt0, h0, c, b1, b2, b3, b4, b5, ge, h3, numL, wr]
        | true =>
          have h1' : ¬ lo r = 0 := fun z => h1 ⟨rfl, z⟩
          have h3 : ¬ (360000 * cnt r ≤ withL (cnt r) (lo r) f) := h2
          simp only [numL] at wr
          simp at wr
          simp [ii, isIntB, lt0, h0, l, lo0, h1', w, c, b1, b2, b3, b4, b5, ge, h3, numL, wr]
theorem o_ne_i (a b : Int) : opD .ne [.int a, .int b] = some (fz (.bool (!decide (a = b)))) := by
  rw [o_ne rfl rfl]
  have : PyData.eqv (.int a) (.int b) = decide (a = b) := by
    show (a == b) = _
    by_cases q : a = b <;> simp [q]
  rw [this]
/-- whole minutes, one by one -/
def LI (r : Rat) (f : Int) (k : Nat) (σ : EnvD) : Prop := ∃ m : Int, 0 ≤ m ∧ 0 ≤ f - (m * (60 * cnt r) - lo r * (m - (m + 9) / 10)) ∧ (k : Int) = f - (m * (60 * cnt r) - lo r * (m - (m + 9) / 10)) ∧
  σ = [some (fz (.int (f - (m * (60 * cnt r) - lo r * (m - (m + 9) / 10))))), some (fz (fr r)), some (fz (.bool true)), some (fz (.int (cnt r))), some (fz (.int f)), some (fz (.int (lo r))), some (fz (.int m)), some (fz (.int (60 * cnt r - (if m % 10 = 0 then 0 else lo r)))), none, none]
def LJ (r : Rat) (f : Int) (σ : EnvD) : Prop := ∃ m : Int, 0 ≤ m ∧ 0 ≤ f - (m * (60 * cnt r) - lo r * (m - (m + 9) / 10)) ∧ f - (m * (60 * cnt r) - lo r * (m - (m + 9) / 10)) < 60 * cnt r - (if m % 10 = 0 then 0 else lo r) ∧
  σ = [some (fz (.int (f - (m * (60 * cnt r) - lo r * (m - (m + 9) / 10))))), some (fz (fr r)), some (fz (.bool true)), some (fz (.int (cnt r))), some (fz (.int f)), some (fz (.int (lo r))), some (fz (.int m)), some (fz (.int (60 * cnt r - (if m % 10 = 0 then 0 else lo r)))), none, none]
theorem LJ_num {c o : Int} (h : (o = 2 ∧ c = 30) ∨ (o = 4 ∧ c = 60)) {f m : Int} (h0 : 0 ≤ m) (h1 : 0 ≤ f - (m * (60 * c) - o * (m - (m + 9) / 10))) (h2 : f - (m * (60 * c) - o * (m - (m + 9) / 10)) < 60 * c - (if m % 10 = 0 then 0 else o)) :
    m * 60 * c + (f - (m * (60 * c) - o * (m - (m + 9) / 10))) + (if m % 10 = 0 then 0 else o) = withL c o f := by
  unfold withL
  rcases h with ⟨rfl, rfl⟩ | ⟨rfl, rfl⟩
  · have m9 : (m + 9) / 10 = m / 10 + (if m % 10 = 0 then 0 else 1) := by split <;> omega
    rw [m9] at h1 h2 ⊢
    have t1 : m / 10 * 17982 ≤ f := by split at h1 <;> omega
    have t2 : f < (m / 10 + 1) * 17982 := by split at h1 <;> simp_all <;> omega
    have t3 : f / (600 * 30 - 9 * 2) = m / 10 := by omega
    have t4 : f % (600 * 30 - 9 * 2) = f - 17982 * (m / 10) := by omega
    rw [t3, t4]
    by_cases q : m % 10 = 0
    · simp only [q, if_true] at h1 h2 ⊢
      rw [if_neg (by omega)]
      omega
    · simp only [q, if_false] at h1 h2 ⊢
      rw [if_pos (by omega)]
      have t5 : (f - 17982 * (m / 10) - 60 * 30) / (60 * 30 - 2) = m % 10 - 1 := by omega
      rw [t5]
      omega
  · have m9 : (m + 9) / 10 = m / 10 + (if m % 10 = 0 then 0 else 1) := by split <;> omega
    rw [m9] at h1 h2 ⊢
    have t1 : m / 10 * 35964 ≤ f := by split at h1 <;> omega
    have t2 : f < (m / 10 + 1) * 35964 := by split at h1 <;> simp_all <;> omega
    have t3 : f / (600 * 60 - 9 * 4) = m / 10 := by omega
    have t4 : f % (600 * 60 - 9 * 4) = f - 35964 * (m / 10) := by omega
    rw [t3, t4]
    by_cases q : m % 10 = 0
    · simp only [q, if_true] at h1 h2 ⊢
      rw [if_neg (by omega)]
      omega
    · simp only [q, if_false] at h1 h2 ⊢
      rw [if_pos (by omega)]
      have t5 : (f - 35964 * (m / 10) - 60 * 60) / (60 * 60 - 4) = m % 10 - 1 := by omega
      rw [t5]
      omega
theorem LI_step {c o : Int} (h : (o = 2 ∧ c = 30) ∨ (o = 4 ∧ c = 60)) (f m : Int) : f - (m * (60 * c) - o * (m - (m + 9) / 10)) - (60 * c - (if m % 10 = 0 then 0 else o)) = f - ((m + 1) * (60 * c) - o * ((m + 1) - ((m + 1) + 9) / 10)) ∧ 0 < 60 * c - (if m % 10 = 0 then 0 else o) := by
  have m9 : (m + 9) / 10 = m / 10 + (if m % 10 = 0 then 0 else 1) := by split <;> omega
  have m10 : (m + 1 + 9) / 10 = m / 10 + 1 := by omega
  rw [m9, m10]
  rcases h with ⟨rfl, rfl⟩ | ⟨rfl, rfl⟩ <;> by_cases q : m % 10 = 0 <;> simp only [q, if_true, if_false] <;> omega
end RH.S

namespace RH.S
open PySem PySem.Spec L2
/-! ### codes read -/
theorem compR_opt {α : Type} {C : Str → Option D} {cf : Str → List SV → RF} {i : Nat} {e : ME} {τ : EnvD} (enc : α → D) (g : α → Option D) (c : Str)  : ∀ (as : List α) (acc : List D) (σ1 : EnvD), wipeD σ1 [i] = wipeD τ [i] →
    (∀ a ∈ as, (∃ m d, g a = some d ∧ evV C cf e (τ.set i (some (fz (enc a)))) = .ok (⟨m, d⟩, τ.set i (some (fz (enc a))))) ∨ (g a = none ∧ evV C cf e (τ.set i (some (fz (enc a)))) = .exc c (τ.set i (some (fz (enc a)))))) → acc.length + as.length ≤ sizeLine → i < τ.length →
    ∃ σ', wipeD σ' [i] = wipeD τ [i] ∧ compR (fun σ => wipeD σ [i]) (bindP (.name i)) (evT C cf .nil) (evV C cf e) (as.map enc) acc σ1 = match as.mapM g with
      | some ds => .ok (acc ++ ds, σ')
      | none => .exc c σ'
  | [], acc, σ1, h1, _, _, _ => ⟨σ1, h1, by simp [compR]⟩
  | a :: as, acc, σ1, h1, h2, h3, hi => by
    rw [List.length_cons] at h3
    have hb : bindP (.name i) (enc a) (wipeD τ [i]) = some (τ.set i (some (fz (enc a)))) := by simp [wipeD]
    rcases h2 a List.mem_cons_self with ⟨m, d, hg, he⟩ | ⟨hg, he⟩
    · obtain ⟨σ', w', e2⟩ := compR_opt enc g c as (acc ++ [d]) (τ.set i (some (fz (enc a)))) (by simp [wipeD]) (fun b hb => h2 b (List.mem_cons_of_mem _ hb)) (by rw [List.length_append, List.length_singleton]; omega) hi
      refine ⟨σ', w', ?_⟩
      rw [List.map_cons, compR, h1, hb, ofOpt_some, R.bind_ok, e_t_n, R.bind_ok, if_pos rfl]
      dsimp only
      rw [he, R.bind_ok, if_pos (by omega)]
      dsimp only
      rw [e2, List.mapM_cons, hg]
      cases as.mapM g <;> simp
    · refine ⟨τ.set i (some (fz (enc a))), by simp [wipeD], ?_⟩
      rw [List.map_cons, compR, h1, hb, ofOpt_some, R.bind_ok, e_t_n, R.bind_ok, if_pos rfl]
      dsimp only
      rw [he, R.bind_exc, List.mapM_cons, hg]
      rfl
theorem comp_opt {α : Type} {C : Str → Option D} {cf : Str → List SV → RF} {i : Nat} {it : MI} {e : ME} {σ σ0 : EnvD} {lent held : List Nat} (enc : α → D) (g : α → Option D) (c : Str) (as : List α)
    (hit : evI C cf it σ = .ok (⟨as.map enc, lent, held⟩, σ0)) (hh : held.any ([i].contains ·) = false) (hl : as.length ≤ sizeLine) (hi : i < (lendAll σ0 lent).length)
    (he : ∀ a ∈ as, (∃ m d, g a = some d ∧ evV C cf e ((lendAll σ0 lent).set i (some (fz (enc a)))) = .ok (⟨m, d⟩, (lendAll σ0 lent).set i (some (fz (enc a))))) ∨ (g a = none ∧ evV C cf e ((lendAll σ0 lent).set i (some (fz (enc a)))) = .exc c ((lendAll σ0 lent).set i (some (fz (enc a)))))) :
    evV C cf (.comp [i] (.name i) it .nil e) σ = match as.mapM g with
      | some ds => .ok (ow (.list ds), unlend (lendAll σ0 lent) lent)
      | none => .exc c (unlend (lendAll σ0 lent) lent) := by
  obtain ⟨σ', hw, e2⟩ := compR_opt (C := C) (cf := cf) (i := i) (e := e) (τ := lendAll σ0 lent) enc g c as [] (wipeD (lendAll σ0 lent) [i]) wipeD_idem he (by simpa using hl) hi
  rw [evV, hit, R.bind_ok]
  dsimp only
  rw [if_neg (by rw [hh]; exact Bool.false_ne_true), e2]
  cases as.mapM g with
  | none => simp [back_wipe hw]
  | some ds => simp [back_wipe hw]
/-! ### figures -/
def dgO (c : Nat) : Option Int := if 48 ≤ c ∧ c < 58 then some ((c : Int) - 48) else none
def pairO : List Nat → Option Int
  | [a, b] => (dgO a).bind fun x => (dgO b).map fun y => 10 * x + y
  | _ => none
theorem fig_cps : ∀ a b : Fin 10, intText? ⟨#[48 + a.val, 48 + b.val]⟩ = some (10 * ((a : Nat) : Int) + ((b : Nat) : Int)) ∧ fig (10 * ((a : Nat) : Int) + ((b : Nat) : Int)) = ⟨#[48 + a.val, 48 + b.val]⟩ := by decide +kernel
theorem figs_in : ("0123456789" : Str).cps.toList = [48, 49, 50, 51, 52, 53, 54, 55, 56, 57] := by decide +kernel
theorem dg_in (c : Nat) : decide (c ∈ ("0123456789" : Str).cps.toList) = (dgO c).isSome := by
  rw [figs_in]
  unfold dgO
  by_cases h : 48 ≤ c ∧ c < 58
  · rw [if_pos h]
    simp only [Option.isSome_some, decide_eq_true_eq, List.mem_cons, List.not_mem_nil, or_false]
    omega
  · rw [if_neg h]
    simp only [Option.isSome_none, decide_eq_false_iff_not, List.mem_cons, List.not_mem_nil, or_false]
    omega
theorem dgO_some {c : Nat} {x : Int} (h : dgO c = some x) : ∃ k : Fin 10, c = 48 + k.val ∧ x = ((k : Nat) : Int) := by
  unfold dgO at h
  split at h
  · rename_i q
    cases h
    exact ⟨⟨c - 48, by omega⟩, by simp; omega, by simp; omega⟩
  · cases h
theorem o_isin_fig (c : Nat) : opD .isin [.str ⟨#[c]⟩, .str "0123456789"] = some (fz (.bool (dgO c).isSome)) := by
  show some (fz (.bool (decide (c ∈ ("0123456789" : Str).cps.toList) != false))) = _
  rw [dg_in]
  simp
theorem o_int_s {z : Str} {i : Int} (h : z.length ≤ 640) (e : intText? z = some i) : opD .int [.str z] = some (fz (.int i)) := by
  show (if z.length ≤ 640 then (intText? z).map fun n => fz (PyData.int n) else none) = _
  rw [if_pos h, e]; rfl
theorem len_c (l : List Nat) : (Str.mk l.toArray).length = l.length := by
  show l.toArray.size = _
  simp
theorem pair_is (n : Nat) (l : List Nat) (hl : l.length ≤ 1000) : cal (n + 1) "pair_of" [fz (.str ⟨l.toArray⟩)] = (match pairO l with
    | some i => .ok (fz (.int i)) [some (fz (.str ⟨l.toArray⟩))]
    | none => .exc "NoCode" [some (fz (.str ⟨l.toArray⟩))]) := by
  unfold cal
  rw [cal_of lk_pair_of rfl]
  have ln : opD .len [.str ⟨l.toArray⟩] = some (fz (.int (l.length : Int))) := by
    show (if (Str.mk l.toArray).length ≤ sizeLine then _ else _) = _
    rw [if_pos (sz (by rw [len_c]; omega)), len_c]
  by_cases h2 : l.length = 2
  · obtain ⟨a, b, rfl⟩ : ∃ a b, l = [a, b] := by
      match l, h2 with
      | [a, b], _ => exact ⟨a, b, rfl⟩
    have hcm := comp_map (C := lookC cs) (cf := callF (lookC cs) (look ds) n) (i := 1) (it := .seq (.var 0)) (e := .op .isin (.cons (.var 1) (.cons (.glo "FIGURES") .nil))) (σ := [some (fz (.str ⟨#[a, b]⟩)), none])
      (fun c => PyData.str ⟨#[c]⟩) (fun c => .bool (dgO c).isSome) [a, b] (i_seq_v rfl rfl) rfl (sz (by simp)) (by simp) (fun c _ => ⟨.frz, by
        have fg : lookC cs "FIGURES" = some (.str "0123456789") := by rfl
        simp [lendAll, fg, o_isin_fig]⟩)
    simp only [List.map_cons, List.map_nil] at hcm
    have al : opD .all [.list [.bool (dgO a).isSome, .bool (dgO b).isSome]] = some (fz (.bool ((dgO a).isSome && (dgO b).isSome))) := by
      show some (fz (.bool ([(dgO a).isSome, (dgO b).isSome].all id))) = _
      simp
    simp only [List.length_cons, List.length_nil] at ln
    cases ha : dgO a with
    | none =>
      simp [ha] at hcm al
      simp [ln, hcm, lendAll, unlend, al, pairO, ha]
    | some x =>
      cases hb : dgO b with
      | none =>
        simp [ha, hb] at hcm al
        simp [ln, hcm, lendAll, unlend, al, pairO, ha, hb]
      | some y =>
        simp [ha, hb] at hcm al
        obtain ⟨p, rfl, rfl⟩ := dgO_some ha
        obtain ⟨q, rfl, rfl⟩ := dgO_some hb
        have oi := o_int_s (z := ⟨#[48 + p.val, 48 + q.val]⟩) (show (2 : Nat) ≤ 640 by decide) (fig_cps p q).1
        simp [ln, hcm, lendAll, unlend, al, pairO, ha, hb, oi]
  · have hp : pairO l = none := by
      match l, h2 with
      | [], _ => rfl
      | [a], _ => rfl
      | a :: b :: c :: r, _ => rfl
    have ne : opD .ne [.int (l.length : Int), .int 2] = some (fz (.bool true)) := by
      rw [o_ne_i]
      have : ¬ ((l.length : Int) = 2) := by omega
      simp [this]
    simp [ln, ne, hp]
/-- the frame of a code -/
def readO (r : Rat) : List Nat → Option Int
  | [c0, c1, c2, c3, c4, c5, c6, c7, c8, c9, c10] =>
    if c2 = 58 ∧ c5 = 58 ∧ (c8 = 58 ∨ c8 = 59) then
      (pairO [c0, c1]).bind fun h => (pairO [c3, c4]).bind fun m => (pairO [c6, c7]).bind fun s => (pairO [c9, c10]).bind fun l =>
        if 60 ≤ m ∨ 60 ≤ s ∨ cnt r ≤ l then none
        else if c8 = 58 then some (((h * 60 + m) * 60 + s) * cnt r + l)
        else if lo r = 0 ∨ (s = 0 ∧ l < lo r ∧ m % 10 ≠ 0) then none
        else some (((h * 60 + m) * 60 + s) * cnt r + l - lo r * (h * 60 + m - (h * 60 + m) / 10))
    else none
  | _ => none
theorem readO_11 (r : Rat) (c0 c1 c2 c3 c4 c5 c6 c7 c8 c9 c10 : Nat) : readO r [c0, c1, c2, c3, c4, c5, c6, c7, c8, c9, c10] =
    if c2 = 58 ∧ c5 = 58 ∧ (c8 = 58 ∨ c8 = 59) then
      (pairO [c0, c1]).bind fun h => (pairO [c3, c4]).bind fun m => (pairO [c6, c7]).bind fun s => (pairO [c9, c10]).bind fun l =>
        if 60 ≤ m ∨ 60 ≤ s ∨ cnt r ≤ l then none
        else if c8 = 58 then some (((h * 60 + m) * 60 + s) * cnt r + l)
        else if lo r = 0 ∨ (s = 0 ∧ l < lo r ∧ m % 10 ≠ 0) then none
        else some (((h * 60 + m) * 60 + s) * cnt r + l - lo r * (h * 60 + m - (h * 60 + m) / 10))
    else none := rfl
def readD (r : Rat) : D → Option Int
  | .str z => readO r z.cps.toList
  | _ => none
theorem pairO_b {a b : Nat} {i : Int} (h : pairO [a, b] = some i) : 0 ≤ i ∧ i < 100 ∧ fig i = ⟨#[a, b]⟩ := by
  unfold pairO at h
  obtain ⟨x, e1, e2⟩ := Option.bind_eq_some_iff.mp h
  obtain ⟨y, e3, rfl⟩ := Option.map_eq_some_iff.mp e2
  obtain ⟨p, rfl, rfl⟩ := dgO_some e1
  obtain ⟨q, rfl, rfl⟩ := dgO_some e3
  exact ⟨by omega, by omega, (fig_cps p q).2⟩
theorem colons : ("::" : Str) = ⟨#[58, 58]⟩ ∧ (":" : Str) = ⟨#[58]⟩ ∧ (";" : Str) = ⟨#[59]⟩ ∧ (":;" : Str) = ⟨#[58, 59]⟩ ∧ (":;" : Str).cps.toList = [58, 59] := by decide +kernel
theorem readO_len {r : Rat} {l : List Nat} (h : l.length ≠ 11) : readO r l = none := by
  match l, h with
  | [], _ => rfl
  | [_], _ => rfl
  | [_, _], _ => rfl
  | [_, _, _], _ => rfl
  | [_, _, _, _], _ => rfl
  | [_, _, _, _, _], _ => rfl
  | [_, _, _, _, _, _], _ => rfl
  | [_, _, _, _, _, _, _], _ => rfl
  | [_, _, _, _, _, _, _, _], _ => rfl
  | [_, _, _, _, _, _, _, _, _], _ => rfl
  | [_, _, _, _, _, _, _, _, _, _], _ => rfl
  | _ :: _ :: _ :: _ :: _ :: _ :: _ :: _ :: _ :: _ :: _ :: _ :: _, _ => rfl
theorem list11 {l : List Nat} (h : l.length = 11) : ∃ c0 c1 c2 c3 c4 c5 c6 c7 c8 c9 c10, l = [c0, c1, c2, c3, c4, c5, c6, c7, c8, c9, c10] := by
  match l, h with
  | [c0, c1, c2, c3, c4, c5, c6, c7, c8, c9, c10], _ => exact ⟨_, _, _, _, _, _, _, _, _, _, _, rfl⟩
theorem sOk_of {l : List Nat} : sOk ⟨l.toArray⟩ ↔ ∀ c ∈ l, sOk ⟨#[c]⟩ := by
  have hh : ∀ x : Str, sOk x ↔ ∀ c ∈ x.cps.toList, sOk ⟨#[c]⟩ := fun x => by
    unfold sOk PyData.strOk
    rw [Array.all_eq_true_iff_forall_mem]
    simp
  exact hh _
theorem ix_s {l : List Nat} {i : Int} {c : Nat} (hl : l.length ≤ 1000) (e : atI l i = some c) : opD .ix [.str ⟨l.toArray⟩, .int i] = some (fz (.str ⟨#[c]⟩)) := by
  show (if (Str.mk l.toArray).length ≤ sizeLine then (atI (Str.mk l.toArray).cps.toList i).map fun c => fz (PyData.str ⟨#[c]⟩) else none) = _
  rw [if_pos (sz (by rw [len_c]; omega))]
  show (atI l.toArray.toList i).map _ = _
  rw [List.toList_toArray, e]; rfl
theorem sl_s {z y : Str} {lo hi : Option Int} (h : z.length ≤ 1000) (e : cutS z lo hi = y) : slD (.str z) lo hi = some (fz (.str y)) := by
  show (if z.length ≤ sizeLine then some (fz (PyData.str (cutS z lo hi))) else none) = _
  rw [if_pos (sz (by omega)), e]
theorem nin_cs (c : Nat) : opD .notin [.str ⟨#[c]⟩, .str ":;"] = some (fz (.bool (!decide (c = 58 ∨ c = 59)))) := by
  show some (fz (.bool (decide (c ∈ (":;" : Str).cps.toList) != true))) = _
  rw [colons.2.2.2.2]
  by_cases h : c = 58 ∨ c = 59 <;> simp [h]
theorem one_eq (a b : Nat) : ((Str.mk #[a]) = (Str.mk #[b])) ↔ a = b := by simp
theorem two_eq (a b c d : Nat) : ((Str.mk #[a, b]) = (Str.mk #[c, d])) ↔ a = c ∧ b = d := by simp
theorem read_is (n : Nat) {r : Rat} (h : r ∈ rates) (d : D) (hd : ∀ z, d = .str z → sOk z ∧ z.length ≤ 1000) : cal (n + 3) "read_code" [fz d, fz (fr r)] = (match readD r d with
    | some f => .ok (fz (.int f)) [some (fz d), some (fz (fr r))]
    | none => .exc "NoCode" [some (fz d), some (fz (fr r))]) := by
  unfold cal
  rw [cal_of lk_read_code rfl]
  by_cases hs : ∃ z, d = .str z
  · obtain ⟨z, rfl⟩ := hs
    obtain ⟨hz, hl⟩ := hd z rfl
    obtain ⟨l, rfl⟩ : ∃ l : List Nat, z = ⟨l.toArray⟩ := ⟨z.cps.toList, by cases z; simp⟩
    rw [len_c] at hl
    have ln : opD .len [.str ⟨l.toArray⟩] = some (fz (.int (l.length : Int))) := by
      show (if (Str.mk l.toArray).length ≤ sizeLine then _ else _) = _
      rw [if_pos (sz (by rw [len_c]; omega)), len_c]
    have isS : dTy (.str ⟨l.toArray⟩) .str = true := rfl
    have rd : readD r (.str ⟨l.toArray⟩) = readO r l := by simp [readD]
    rw [rd]
    by_cases h11 : l.length = 11
    · obtain ⟨c0, c1, c2, c3, c4, c5, c6, c7, c8, c9, c10, rfl⟩ := list11 h11
      have hc := sOk_of.mp hz
      have s2 := ix_s (i := 2) (c := c2) hl rfl
      have s5 := ix_s (i := 5) (c := c5) hl rfl
      have s8 := ix_s (i := 8) (c := c8) hl rfl
      have ad : opD .add [.str ⟨#[c2]⟩, .str ⟨#[c5]⟩] = some (fz (.str ⟨#[c2, c5]⟩)) := o_add_s (x := ⟨#[c2]⟩) (y := ⟨#[c5]⟩) (show 1 + 1 ≤ 1000000 by decide)
      have ok2 : sOk ⟨#[c2, c5]⟩ := (sOk_of (l := [c2, c5])).mpr fun c hcm => hc c (by
        simp only [List.mem_cons, List.not_mem_nil, or_false] at hcm
        rcases hcm with rfl | rfl <;> simp)
      have ne2 : opD .ne [.str ⟨#[c2, c5]⟩, .str "::"] = some (fz (.bool (!decide (c2 = 58 ∧ c5 = 58)))) := by
        rw [ne_str ok2 (by decide +kernel), colons.1]
        simp only [two_eq]
      have n8 := nin_cs c8
      have e8 : opD .eq [.str ⟨#[c8]⟩, .str ":"] = some (fz (.bool (decide (c8 = 58)))) := by
        rw [eq_str (hc c8 (by simp)) (by decide +kernel), colons.2.1]
        simp only [one_eq]
      have le := left_is (n := n) h
      have co := count_is (n := n + 1) h
      have isS : dTy (.str ⟨#[c0, c1, c2, c3, c4, c5, c6, c7, c8, c9, c10]⟩) .str = true := rfl
      simp only [List.length_cons, List.length_nil] at ln
      have mn : lookC cs "MINUTES" = some (.int 60) := by rfl
      have tn : lookC cs "TEN" = some (.int 10) := by rfl
      obtain ⟨⟨k1, k2⟩, k3⟩ := cnt_facts h
      by_cases q1 : c2 = 58 ∧ c5 = 58
      · obtain ⟨rfl, rfl⟩ := q1
        by_cases q2 : c8 = 58 ∨ c8 = 59
        · have hcm := comp_opt (C := lookC cs) (cf := callF (lookC cs) (look ds) (n + 2)) (i := 8) (it := .seq (.tup (.cons (.cst (.int 0)) (.cons (.cst (.int 3)) (.cons (.cst (.int 6)) (.cons (.cst (.int 9)) .nil)))))) (e := .call "pair_of" (.cons (.slice (.var 0) (.var 8) (.op .add (.cons (.var 8) (.cons (.cst (.int 2)) .nil)))) .nil)) (σ := [some (fz (.str ⟨#[c0, c1, 58, c3, c4, 58, c6, c7, c8, c9, c10]⟩)), some (fz (fr r)), some (fz (.int (lo r))), some (fz (.int (cnt r))), none, none, none, none, none, none, none])
            PyData.int (fun at_ => (pairO (if at_ = 0 then [c0, c1] else if at_ = 3 then [c3, c4] else if at_ = 6 then [c6, c7] else [c9, c10])).map PyData.int) "NoCode" [0, 3, 6, 9] (i_seq_e (σ' := [some (fz (.str ⟨#[c0, c1, 58, c3, c4, 58, c6, c7, c8, c9, c10]⟩)), some (fz (fr r)), some (fz (.int (lo r))), some (fz (.int (cnt r))), none, none, none, none, none, none, none]) (v := fz (.tuple [.int 0, .int 3, .int 6, .int 9])) rfl (by simp [sz]) rfl) rfl (sz (by simp)) (by simp [lendAll]) (fun i hi => by
              have go : ∀ (i : Int) (a b : Nat), slD (.str ⟨#[c0, c1, 58, c3, c4, 58, c6, c7, c8, c9, c10]⟩) (some i) (some (i + 2)) = some (fz (.str ⟨#[a, b]⟩)) → (∃ m d, (pairO [a, b]).map PyData.int = some d ∧ evV (lookC cs) (callF (lookC cs) (look ds) (n + 2)) (.call "pair_of" (.cons (.slice (.var 0) (.var 8) (.op .add (.cons (.var 8) (.cons (.cst (.int 2)) .nil)))) .nil)) [some (fz (.str ⟨#[c0, c1, 58, c3, c4, 58, c6, c7, c8, c9, c10]⟩)), some (fz (fr r)), some (fz (.int (lo r))), some (fz (.int (cnt r))), none, none, none, none, some (fz (.int i)), none, none] = .ok (⟨m, d⟩, [some (fz (.str ⟨#[c0, c1, 58, c3, c4, 58, c6, c7, c8, c9, c10]⟩)), some (fz (fr r)), some (fz (.int (lo r))), some (fz (.int (cnt r))), none, none, none, none, some (fz (.int i)), none, none])) ∨
                  ((pairO [a, b]).map PyData.int = none ∧ evV (lookC cs) (callF (lookC cs) (look ds) (n + 2)) (.call "pair_of" (.cons (.slice (.var 0) (.var 8) (.op .add (.cons (.var 8) (.cons (.cst (.int 2)) .nil)))) .nil)) [some (fz (.str ⟨#[c0, c1, 58, c3, c4, 58, c6, c7, c8, c9, c10]⟩)), some (fz (fr r)), some (fz (.int (lo r))), some (fz (.int (cnt r))), none, none, none, none, some (fz (.int i)), none, none] = .exc "NoCode" [some (fz (.str ⟨#[c0, c1, 58, c3, c4, 58, c6, c7, c8, c9, c10]⟩)), some (fz (fr r)), some (fz (.int (lo r))), some (fz (.int (cnt r))), none, none, none, none, some (fz (.int i)), none, none]) := fun i a b hsl => by
                have pr := pair_is (n + 1) [a, b] (by simp)
                cases hp : pairO [a, b] with
                | none =>
                  rw [hp] at pr
                  simp at pr
                  exact .inr ⟨rfl, by simp [hsl, pr]⟩
                | some v =>
                  rw [hp] at pr
                  simp at pr
                  exact .inl ⟨.frz, .int v, rfl, by simp [hsl, pr]⟩
              simp only [List.mem_cons, List.not_mem_nil, or_false] at hi
              rcases hi with rfl | rfl | rfl | rfl
              · exact go 0 c0 c1 (sl_s (show 11 ≤ 1000 by decide) rfl)
              · exact go 3 c3 c4 (sl_s (show 11 ≤ 1000 by decide) rfl)
              · exact go 6 c6 c7 (sl_s (show 11 ≤ 1000 by decide) rfl)
              · exact go 9 c9 c10 (sl_s (show 11 ≤ 1000 by decide) rfl))
          rw [readO_11, if_pos ⟨rfl, rfl, q2⟩]
          cases p0 : pairO [c0, c1] with
          | none =>
            simp [p0] at hcm
            simp [isS, ln, s2, s5, s8, ad, ne2, n8, q2, le, co, hcm, lendAll, unlend]
          | some hh =>
          cases p1 : pairO [c3, c4] with
          | none =>
            simp [p0, p1] at hcm
            simp [isS, ln, s2, s5, s8, ad, ne2, n8, q2, le, co, hcm, lendAll, unlend]
          | some mm =>
          cases p2 : pairO [c6, c7] with
          | none =>
            simp [p0, p1, p2] at hcm
            simp [isS, ln, s2, s5, s8, ad, ne2, n8, q2, le, co, hcm, lendAll, unlend]
          | some ss =>
          cases p3 : pairO [c9, c10] with
          | none =>
            simp [p0, p1, p2, p3] at hcm
            simp [isS, ln, s2, s5, s8, ad, ne2, n8, q2, le, co, hcm, lendAll, unlend]
          | some ll =>
            simp [p0, p1, p2, p3] at hcm
            obtain ⟨h0, h1, _⟩ := pairO_b p0
            obtain ⟨m0, m1, _⟩ := pairO_b p1
            obtain ⟨t0, t1, _⟩ := pairO_b p2
            obtain ⟨l0, l1, _⟩ := pairO_b p3
            have ge : ∀ a b : Int, opD .ge [.int a, .int b] = some (fz (.bool (decide (b ≤ a)))) := fun _ _ => rfl
            have b1 : big hh := big_of (by omega) (by omega)
            have b2 : big 60 := big_of (by omega) (by omega)
            have b3 : big (hh * 60 + mm) := big_of (by omega) (by omega)
            have b4 : big ((hh * 60 + mm) * 60 + ss) := big_of (by omega) (by omega)
            have b5 : big (cnt r) := big_of (by omega) (by omega)
            have b6 : big (lo r) := big_of (by omega) (by omega)
            have b7 : big (hh * 60 + mm - (hh * 60 + mm) / 10) := big_of (by omega) (by omega)
            have d10 : dvs 10 := dvs_of (by decide) (by decide)
            have lo0 : opD .eq [.int (lo r), .int 0] = some (fz (.bool (decide (lo r = 0)))) := by
              rw [o_eq rfl rfl]
              have : PyData.eqv (.int (lo r)) (.int 0) = decide (lo r = 0) := by
                show (lo r == 0) = _
                by_cases q : lo r = 0 <;> simp [q]
              rw [this]
            have ss0 : opD .eq [.int ss, .int 0] = some (fz (.bool (decide (ss = 0)))) := by
              rw [o_eq rfl rfl]
              have : PyData.eqv (.int ss) (.int 0) = decide (ss = 0) := by
                show (ss == 0) = _
                by_cases q : ss = 0 <;> simp [q]
              rw [this]
            have nem : opD .ne [.int (mm % 10), .int 0] = some (fz (.bool (!decide (mm % 10 = 0)))) := o_ne_i _ _
            by_cases x1 : 60 ≤ mm
            · simp [isS, ln, s2, s5, s8, ad, ne2, n8, q2, le, co, hcm, lendAll, unlend, mn, ge, x1]
            · by_cases x2 : 60 ≤ ss
              · simp [isS, ln, s2, s5, s8, ad, ne2, n8, q2, le, co, hcm, lendAll, unlend, mn, ge, x1, x2]
              · by_cases x3 : cnt r ≤ ll
                · simp [isS, ln, s2, s5, s8, ad, ne2, n8, q2, le, co, hcm, lendAll, unlend, mn, ge, x1, x2, x3]
                · by_cases x4 : c8 = 58
                  · subst x4
                    simp [isS, ln, s2, s5, s8, ad, ne2, n8, le, co, hcm, lendAll, unlend, mn, ge, x1, x2, x3, e8, b1, b2, b3, b4, b5]
                  · have q3 : c8 = 59 := q2.resolve_left x4
                    subst q3
                    clear x4 q2
                    by_cases x5 : lo r = 0
                    · have lo0 : opD .eq [.int (lo r), .int 0] = some (fz (.bool true)) := by rw [lo0, decide_eq_true x5]
                      have e : (if (59 : Nat) = 58 then some (((hh * 60 + mm) * 60 + ss) * cnt r + ll) else if lo r = 0 ∨ (ss = 0 ∧ ll < lo r ∧ mm % 10 ≠ 0) then none else some (((hh * 60 + mm) * 60 + ss) * cnt r + ll - lo r * (hh * 60 + mm - (hh * 60 + mm) / 10))) = none := by simp [x5]
                      simp only [Option.bind_some, e, x1, x2, x3, or_self, if_false]
                      simp [isS, ln, s2, s5, s8, ad, ne2, n8, le, co, hcm, lendAll, unlend, mn, ge, x1, x2, x3, e8, b1, b2, b3, b4, b5, lo0]
                    · have lo0 : opD .eq [.int (lo r), .int 0] = some (fz (.bool false)) := by rw [lo0, decide_eq_false x5]
                      have fin : ∀ q : Bool, q = decide (ss = 0 ∧ ll < lo r ∧ mm % 10 ≠ 0) → (if 60 ≤ mm ∨ 60 ≤ ss ∨ cnt r ≤ ll then none else if (59 : Nat) = 58 then some (((hh * 60 + mm) * 60 + ss) * cnt r + ll) else if lo r = 0 ∨ (ss = 0 ∧ ll < lo r ∧ mm % 10 ≠ 0) then none else some (((hh * 60 + mm) * 60 + ss) * cnt r + ll - lo r * (hh * 60 + mm - (hh * 60 + mm) / 10))) = if q = true then none else some (((hh * 60 + mm) * 60 + ss) * cnt r + ll - lo r * (hh * 60 + mm - (hh * 60 + mm) / 10)) := fun q hq => by
                        rw [if_neg (by omega), if_neg (by decide), hq]
                        by_cases z : ss = 0 ∧ ll < lo r ∧ mm % 10 ≠ 0
                        · rw [if_pos (.inr z), if_pos (decide_eq_true z)]
                        · rw [if_neg (by rintro (y | y); exact x5 y; exact z y), decide_eq_false z, if_neg Bool.false_ne_true]
                      simp only [Option.bind_some]
                      by_cases x6 : ss = 0
                      · have ss0 : opD .eq [.int ss, .int 0] = some (fz (.bool true)) := by rw [ss0, decide_eq_true x6]
                        by_cases x7 : ll < lo r
                        · by_cases x8 : mm % 10 = 0
                          · have nem : opD .ne [.int (mm % 10), .int 0] = some (fz (.bool false)) := by rw [nem, decide_eq_true x8]; rfl
                            rw [fin false (by rw [decide_eq_false (fun z => z.2.2 x8)])]
                            simp [isS, ln, s2, s5, s8, ad, ne2, n8, le, co, hcm, lendAll, unlend, mn, tn, ge, x1, x2, x3, e8, b1, b2, b3, b4, b5, b6, b7, d10, lo0, ss0, x7, nem]
                          · have nem : opD .ne [.int (mm % 10), .int 0] = some (fz (.bool true)) := by rw [nem, decide_eq_false x8]; rfl
                            rw [fin true (by rw [decide_eq_true ⟨x6, x7, x8⟩])]
                            simp [isS, ln, s2, s5, s8, ad, ne2, n8, le, co, hcm, lendAll, unlend, mn, tn, ge, x1, x2, x3, e8, b1, b2, b3, b4, b5, b6, b7, d10, lo0, ss0, x7, nem]
                        · rw [fin false (by rw [decide_eq_false (fun z => x7 z.2.1)])]
                          simp [isS, ln, s2, s5, s8, ad, ne2, n8, le, co, hcm, lendAll, unlend, mn, tn, ge, x1, x2, x3, e8, b1, b2, b3, b4, b5, b6, b7, d10, lo0, ss0, x7]
                      · have ss0 : opD .eq [.int ss, .int 0] = some (fz (.bool false)) := by rw [ss0, decide_eq_false x6]
                        rw [fin false (by rw [decide_eq_false (fun z => x6 z.1)])]
                        simp [isS, ln, s2, s5, s8, ad, ne2, n8, le, co, hcm, lendAll, unlend, mn, tn, ge, x1, x2, x3, e8, b1, b2, b3, b4, b5, b6, b7, d10, lo0, ss0]
        · rw [readO_11, if_neg (fun z => q2 z.2.2)]
          simp [isS, ln, s2, s5, s8, ad, ne2, n8, q2]
      · rw [readO_11, if_neg (fun z => q1 ⟨z.1, z.2.1⟩)]
        simp [isS, ln, s2, s5, s8, ad, ne2, q1]
    · rw [readO_len h11]
      have ne : opD .ne [.int (l.length : Int), .int 11] = some (fz (.bool true)) := by
        rw [o_ne_i]
        have : ¬ ((l.length : Int) = 11) := by omega
        simp [this]
      simp [isS, ln, ne]
  · have isS : dTy d .str = false := by
      cases d <;> first | rfl | exact absurd ⟨_, rfl⟩ hs
    have rd : readD r d = none := by
      cases d <;> first | rfl | exact absurd ⟨_, rfl⟩ hs
    rw [rd]
    simp [isS]
theorem dgO_is (k : Fin 10) : dgO (48 + k.val) = some ((k.val : Nat) : Int) := by
  unfold dgO
  rw [if_pos (by omega)]
  congr 1
  omega
theorem fig_is {i : Int} (h0 : 0 ≤ i) (h1 : i < 100) : ∃ a b : Nat, fig i = ⟨#[a, b]⟩ ∧ pairO [a, b] = some i := by
  refine ⟨48 + (i / 10).toNat, 48 + (i % 10).toNat, ?_, ?_⟩
  · have := (fig_cps ⟨(i / 10).toNat, by omega⟩ ⟨(i % 10).toNat, by omega⟩).2
    simp only at this
    rw [← this]
    congr 1
    omega
  · have e1 := dgO_is ⟨(i / 10).toNat, by omega⟩
    have e2 := dgO_is ⟨(i % 10).toNat, by omega⟩
    simp only at e1 e2
    simp only [pairO, e1, e2, Option.bind_some, Option.map_some]
    congr 1
    omega
/-- a code by its words -/
def codeD (h m s l : Int) (sg : Str) : Str := (fig h ++ ":" ++ fig m ++ ":" ++ fig s) ++ sg ++ fig l
theorem codeT_D (c n : Int) (sg : Str) : codeT c n sg = codeD (n / c / 60 / 60) (n / c / 60 % 60) (n / c % 60) (n % c) sg := rfl
def sgN (left : Bool) : Nat := if left then 59 else 58
def sgS (left : Bool) : Str := if left then ";" else ":"
theorem sgS_is (left : Bool) : sgS left = ⟨#[sgN left]⟩ := by
  cases left
  · exact colons.2.1
  · exact colons.2.2.1
theorem codeD_raw {a0 a1 b0 b1 c0 c1 d0 d1 g : Nat} {h m s l : Int} {sg : Str} (e0 : fig h = ⟨#[a0, a1]⟩) (e1 : fig m = ⟨#[b0, b1]⟩) (e2 : fig s = ⟨#[c0, c1]⟩) (e3 : fig l = ⟨#[d0, d1]⟩) (eg : sg = ⟨#[g]⟩) :
    codeD h m s l sg = ⟨[a0, a1, 58, b0, b1, 58, c0, c1, g, d0, d1].toArray⟩ := by
  unfold codeD
  rw [e0, e1, e2, e3, eg, colons.2.1]
  rfl
theorem withL_inv {c o : Int} (ho : (o = 2 ∧ c = 30) ∨ (o = 4 ∧ c = 60)) {M s l : Int} (M0 : 0 ≤ M) (s0 : 0 ≤ s) (s1 : s < 60) (l0 : 0 ≤ l) (l1 : l < c) (hn : ¬ (s = 0 ∧ l < o ∧ M % 10 ≠ 0)) :
    withL c o ((M * 60 + s) * c + l - o * (M - M / 10)) = (M * 60 + s) * c + l ∧ 0 ≤ (M * 60 + s) * c + l - o * (M - M / 10) ∧ (M * 60 + s) * c + l - o * (M - M / 10) ≤ (M * 60 + s) * c + l := by
  obtain ⟨q, t, hM, t0, t1, q0⟩ : ∃ q t : Int, M = 10 * q + t ∧ 0 ≤ t ∧ t < 10 ∧ 0 ≤ q := ⟨M / 10, M % 10, by omega, by omega, by omega, by omega⟩
  have e1 : M / 10 = q := by omega
  have e2 : M % 10 = t := by omega
  rw [e2] at hn
  rw [e1]
  unfold withL
  rcases ho with ⟨rfl, rfl⟩ | ⟨rfl, rfl⟩
  · have f1 : (M * 60 + s) * 30 + l - 2 * (M - q) = 17982 * q + (1798 * t + 30 * s + l) := by omega
    have f2 : (17982 * q + (1798 * t + 30 * s + l)) / (600 * 30 - 9 * 2) = q := by omega
    have f3 : (17982 * q + (1798 * t + 30 * s + l)) % (600 * 30 - 9 * 2) = 1798 * t + 30 * s + l := by omega
    rw [f1, f2, f3]
    refine ⟨?_, by omega, by omega⟩
    by_cases ht : t = 0
    · rw [if_neg (by omega)]; omega
    · rw [if_pos (by omega)]
      have : (1798 * t + 30 * s + l - 60 * 30) / (60 * 30 - 2) = t - 1 := by omega
      rw [this]; omega
  · have f1 : (M * 60 + s) * 60 + l - 4 * (M - q) = 35964 * q + (3596 * t + 60 * s + l) := by omega
    have f2 : (35964 * q + (3596 * t + 60 * s + l)) / (600 * 60 - 9 * 4) = q := by omega
    have f3 : (35964 * q + (3596 * t + 60 * s + l)) % (600 * 60 - 9 * 4) = 3596 * t + 60 * s + l := by omega
    rw [f1, f2, f3]
    refine ⟨?_, by omega, by omega⟩
    by_cases ht : t = 0
    · rw [if_neg (by omega)]; omega
    · rw [if_pos (by omega)]
      have : (3596 * t + 60 * s + l - 60 * 60) / (60 * 60 - 4) = t - 1 := by omega
      rw [this]; omega
theorem parts_back {c h m s l : Int} (hc : 24 ≤ c ∧ c ≤ 60) (h0 : 0 ≤ h) (m0 : 0 ≤ m) (m1 : m < 60) (s0 : 0 ≤ s) (s1 : s < 60) (l0 : 0 ≤ l) (l1 : l < c) :
    (((h * 60 + m) * 60 + s) * c + l) / c = (h * 60 + m) * 60 + s ∧ (((h * 60 + m) * 60 + s) * c + l) % c = l := by
  have e1 : (((h * 60 + m) * 60 + s) * c + l) / c = (h * 60 + m) * 60 + s := by
    rw [Int.add_comm, Int.add_mul_ediv_right _ _ (by omega), Int.ediv_eq_zero_of_lt l0 l1, Int.zero_add]
  refine ⟨e1, ?_⟩
  rw [Int.add_comm, Int.add_mul_emod_self_right, Int.emod_eq_of_lt l0 l1]
/-- what is read is a frame whose code is the very text -/
theorem readO_code {r : Rat} (h : r ∈ rates) {L : List Nat} {f : Int} (e : readO r L = some f) : ∃ left : Bool, L.length = 11 ∧ L[8]? = some (sgN left) ∧ 0 ≤ f ∧ f ≤ 21600000 ∧ (left = true → lo r ≠ 0) ∧ numL r f left < 360000 * cnt r ∧ codeT (cnt r) (numL r f left) (sgS left) = ⟨L.toArray⟩ := by
  by_cases h11 : L.length = 11
  · obtain ⟨c0, c1, c2, c3, c4, c5, c6, c7, c8, c9, c10, rfl⟩ := list11 h11
    rw [readO_11] at e
    by_cases q : c2 = 58 ∧ c5 = 58 ∧ (c8 = 58 ∨ c8 = 59)
    · rw [if_pos q] at e
      obtain ⟨rfl, rfl, q⟩ := q
      obtain ⟨hh, p0, e⟩ := Option.bind_eq_some_iff.mp e
      obtain ⟨mm, p1, e⟩ := Option.bind_eq_some_iff.mp e
      obtain ⟨ss, p2, e⟩ := Option.bind_eq_some_iff.mp e
      obtain ⟨ll, p3, e⟩ := Option.bind_eq_some_iff.mp e
      obtain ⟨h0, h1, g0⟩ := pairO_b p0
      obtain ⟨m0, m1, g1⟩ := pairO_b p1
      obtain ⟨s0, s1, g2⟩ := pairO_b p2
      obtain ⟨l0, l1, g3⟩ := pairO_b p3
      obtain ⟨⟨k1, k2⟩, k3⟩ := cnt_facts h
      by_cases x1 : 60 ≤ mm ∨ 60 ≤ ss ∨ cnt r ≤ ll
      · rw [if_pos x1] at e; cases e
      · rw [if_neg x1] at e
        have b1 : mm < 60 := by omega
        have b2 : ss < 60 := by omega
        have b3 : ll < cnt r := by omega
        obtain ⟨w1, w2⟩ := parts_back (c := cnt r) (h := hh) (m := mm) (s := ss) (l := ll) ⟨k1, k2⟩ h0 m0 b1 s0 b2 l0 b3
        have nb : ((hh * 60 + mm) * 60 + ss) * cnt r + ll < 360000 * cnt r := by
          have : ((hh * 60 + mm) * 60 + ss + 1) * cnt r ≤ 360000 * cnt r := Int.mul_le_mul_of_nonneg_right (by omega) (by omega)
          rw [Int.add_mul] at this
          omega
        have n0 : 0 ≤ ((hh * 60 + mm) * 60 + ss) * cnt r + ll := by
          have := Int.mul_nonneg (show 0 ≤ (hh * 60 + mm) * 60 + ss by omega) (show 0 ≤ cnt r by omega)
          omega
        have txt : ∀ (left : Bool), c8 = sgN left → codeT (cnt r) (((hh * 60 + mm) * 60 + ss) * cnt r + ll) (sgS left) = ⟨[c0, c1, 58, c3, c4, 58, c6, c7, c8, c9, c10].toArray⟩ := fun left hl => by
          rw [codeT_D, w1, w2, show ((hh * 60 + mm) * 60 + ss) / 60 / 60 = hh by omega, show ((hh * 60 + mm) * 60 + ss) / 60 % 60 = mm by omega, show ((hh * 60 + mm) * 60 + ss) % 60 = ss by omega]
          exact codeD_raw g0 g1 g2 g3 (by rw [hl]; exact sgS_is left)
        by_cases x4 : c8 = 58
        · rw [if_pos x4] at e
          cases e
          exact ⟨false, rfl, by simp [sgN, x4], n0, by omega, by simp, by simpa [numL] using nb, by simpa [numL] using txt false x4⟩
        · rw [if_neg x4] at e
          have x5 : c8 = 59 := q.resolve_left x4
          by_cases x6 : lo r = 0 ∨ (ss = 0 ∧ ll < lo r ∧ mm % 10 ≠ 0)
          · rw [if_pos x6] at e; cases e
          · rw [if_neg x6] at e
            cases e
            have ho : (lo r = 2 ∧ cnt r = 30) ∨ (lo r = 4 ∧ cnt r = 60) := by
              rcases k3 with z | z
              · exact absurd (.inl z) x6
              · exact z
            obtain ⟨v1, v2, v3⟩ := withL_inv ho (M := hh * 60 + mm) (s := ss) (l := ll) (by omega) s0 b2 l0 b3 (fun z => x6 (.inr ⟨z.1, z.2.1, by omega⟩))
            exact ⟨true, rfl, by simp [sgN, x5], v2, by omega, fun _ z => x6 (.inl z), by simpa [numL, v1] using nb, by simpa [numL, v1] using txt true x5⟩
    · rw [if_neg q] at e; cases e
  · rw [readO_len h11] at e; cases e
/-- codes by words, read -/
theorem readO_D {r : Rat} {h m s l : Int} (h0 : 0 ≤ h) (h1 : h < 100) (m0 : 0 ≤ m) (m1 : m < 100) (s0 : 0 ≤ s) (s1 : s < 100) (l0 : 0 ≤ l) (l1 : l < 100) (left : Bool) :
    readO r (codeD h m s l (sgS left)).cps.toList = if 60 ≤ m ∨ 60 ≤ s ∨ cnt r ≤ l then none
      else if left = false then some (((h * 60 + m) * 60 + s) * cnt r + l)
      else if lo r = 0 ∨ (s = 0 ∧ l < lo r ∧ m % 10 ≠ 0) then none
      else some (((h * 60 + m) * 60 + s) * cnt r + l - lo r * (h * 60 + m - (h * 60 + m) / 10)) := by
  obtain ⟨a0, a1, e0, p0⟩ := fig_is h0 h1
  obtain ⟨b0, b1, e1, p1⟩ := fig_is m0 m1
  obtain ⟨c0, c1, e2, p2⟩ := fig_is s0 s1
  obtain ⟨d0, d1, e3, p3⟩ := fig_is l0 l1
  rw [codeD_raw e0 e1 e2 e3 (sgS_is left)]
  rw [List.toList_toArray, readO_11, if_pos ⟨rfl, rfl, by cases left <;> simp [sgN]⟩, p0, p1, p2, p3]
  simp only [Option.bind_some]
  cases left <;> simp [sgN]
end RH.S

namespace RH.S
open PySem PySem.Spec L2
/-! ### codes there and back -/
/-- minutes, seconds and the rest of a number of which some are left out -/
theorem withL_parts {c o : Int} (ho : (o = 2 ∧ c = 30) ∨ (o = 4 ∧ c = 60)) {f : Int} (f0 : 0 ≤ f) :
    0 ≤ withL c o f ∧ withL c o f - o * (withL c o f / c / 60 - withL c o f / c / 60 / 10) = f ∧ ¬ (withL c o f / c % 60 = 0 ∧ withL c o f % c < o ∧ withL c o f / c / 60 % 60 % 10 ≠ 0) := by
  unfold withL
  rcases ho with ⟨rfl, rfl⟩ | ⟨rfl, rfl⟩
  · obtain ⟨q, R, e1, R0, R1⟩ : ∃ q R : Int, f = 17982 * q + R ∧ 0 ≤ R ∧ R < 17982 := ⟨f / 17982, f % 17982, by omega, by omega, by omega⟩
    have f2 : f / (600 * 30 - 9 * 2) = q := by omega
    have f3 : f % (600 * 30 - 9 * 2) = R := by omega
    rw [f2, f3]
    by_cases hR : 60 * 30 ≤ R
    · rw [if_pos hR]
      obtain ⟨t, u, e2, u0, u1⟩ : ∃ t u : Int, R - 1800 = 1798 * t + u ∧ 0 ≤ u ∧ u < 1798 := ⟨(R - 1800) / 1798, (R - 1800) % 1798, by omega, by omega, by omega⟩
      have f4 : (R - 60 * 30) / (60 * 30 - 2) = t := by omega
      rw [f4]
      have f5 : f + 2 * (9 * q + (1 + t)) = 18000 * q + 1800 * (t + 1) + (u + 2) := by omega
      rw [f5]
      have g1 : (18000 * q + 1800 * (t + 1) + (u + 2)) / 30 = 600 * q + 60 * (t + 1) + (u + 2) / 30 := by omega
      have g2 : (18000 * q + 1800 * (t + 1) + (u + 2)) % 30 = (u + 2) % 30 := by omega
      have t8 : 0 ≤ t ∧ t ≤ 8 := by omega
      have u8 : 0 ≤ (u + 2) / 30 ∧ (u + 2) / 30 ≤ 59 := by omega
      have g3 : (600 * q + 60 * (t + 1) + (u + 2) / 30) / 60 = 10 * q + t + 1 := by omega
      have g4 : (10 * q + t + 1) / 10 = q := by omega
      rw [g1, g2, g3, g4]
      refine ⟨by omega, by omega, ?_⟩
      rintro ⟨z1, z2, _⟩
      omega
    · rw [if_neg hR]
      have f5 : f + 2 * (9 * q + 0) = 18000 * q + R := by omega
      rw [f5]
      refine ⟨by omega, by omega, ?_⟩
      rintro ⟨_, _, z⟩
      omega
  · obtain ⟨q, R, e1, R0, R1⟩ : ∃ q R : Int, f = 35964 * q + R ∧ 0 ≤ R ∧ R < 35964 := ⟨f / 35964, f % 35964, by omega, by omega, by omega⟩
    have f2 : f / (600 * 60 - 9 * 4) = q := by omega
    have f3 : f % (600 * 60 - 9 * 4) = R := by omega
    rw [f2, f3]
    by_cases hR : 60 * 60 ≤ R
    · rw [if_pos hR]
      obtain ⟨t, u, e2, u0, u1⟩ : ∃ t u : Int, R - 3600 = 3596 * t + u ∧ 0 ≤ u ∧ u < 3596 := ⟨(R - 3600) / 3596, (R - 3600) % 3596, by omega, by omega, by omega⟩
      have f4 : (R - 60 * 60) / (60 * 60 - 4) = t := by omega
      rw [f4]
      have f5 : f + 4 * (9 * q + (1 + t)) = 36000 * q + 3600 * (t + 1) + (u + 4) := by omega
      rw [f5]
      have g1 : (36000 * q + 3600 * (t + 1) + (u + 4)) / 60 = 600 * q + 60 * (t + 1) + (u + 4) / 60 := by omega
      have g2 : (36000 * q + 3600 * (t + 1) + (u + 4)) % 60 = (u + 4) % 60 := by omega
      have t8 : 0 ≤ t ∧ t ≤ 8 := by omega
      have u8 : 0 ≤ (u + 4) / 60 ∧ (u + 4) / 60 ≤ 59 := by omega
      have g3 : (600 * q + 60 * (t + 1) + (u + 4) / 60) / 60 = 10 * q + t + 1 := by omega
      have g4 : (10 * q + t + 1) / 10 = q := by omega
      rw [g1, g2, g3, g4]
      refine ⟨by omega, by omega, ?_⟩
      rintro ⟨z1, z2, _⟩
      omega
    · rw [if_neg hR]
      have f5 : f + 4 * (9 * q + 0) = 36000 * q + R := by omega
      rw [f5]
      refine ⟨by omega, by omega, ?_⟩
      rintro ⟨_, _, z⟩
      omega
theorem withL_mono {c o : Int} (ho : (o = 2 ∧ c = 30) ∨ (o = 4 ∧ c = 60)) {f g : Int} (h : f < g) : withL c o f < withL c o g := by
  unfold withL
  rcases ho with ⟨rfl, rfl⟩ | ⟨rfl, rfl⟩
  · obtain ⟨q, R, e1, R0, R1⟩ : ∃ q R : Int, f = 17982 * q + R ∧ 0 ≤ R ∧ R < 17982 := ⟨f / 17982, f % 17982, by omega, by omega, by omega⟩
    obtain ⟨q', R', e1', R0', R1'⟩ : ∃ q R : Int, g = 17982 * q + R ∧ 0 ≤ R ∧ R < 17982 := ⟨g / 17982, g % 17982, by omega, by omega, by omega⟩
    rw [show f / (600 * 30 - 9 * 2) = q by omega, show f % (600 * 30 - 9 * 2) = R by omega, show g / (600 * 30 - 9 * 2) = q' by omega, show g % (600 * 30 - 9 * 2) = R' by omega]
    have hq : q ≤ q' := by omega
    split <;> split <;> omega
  · obtain ⟨q, R, e1, R0, R1⟩ : ∃ q R : Int, f = 35964 * q + R ∧ 0 ≤ R ∧ R < 35964 := ⟨f / 35964, f % 35964, by omega, by omega, by omega⟩
    obtain ⟨q', R', e1', R0', R1'⟩ : ∃ q R : Int, g = 35964 * q + R ∧ 0 ≤ R ∧ R < 35964 := ⟨g / 35964, g % 35964, by omega, by omega, by omega⟩
    rw [show f / (600 * 60 - 9 * 4) = q by omega, show f % (600 * 60 - 9 * 4) = R by omega, show g / (600 * 60 - 9 * 4) = q' by omega, show g % (600 * 60 - 9 * 4) = R' by omega]
    have hq : q ≤ q' := by omega
    split <;> split <;> omega
theorem numL_mono {r : Rat} (h : r ∈ rates) {left : Bool} (hl : left = true → lo r ≠ 0) {f g : Int} (hfg : f < g) : numL r f left < numL r g left := by
  unfold numL
  cases left with
  | false => simpa using hfg
  | true =>
    obtain ⟨_, k3⟩ := cnt_facts h
    simp only [if_true]
    exact withL_mono (k3.resolve_left (hl rfl)) hfg
/-- a frame's code, read -/
theorem read_back {r : Rat} (h : r ∈ rates) {left : Bool} (hl : left = true → lo r ≠ 0) {f : Int} (f0 : 0 ≤ f) (nb : numL r f left < 360000 * cnt r) : readO r (codeT (cnt r) (numL r f left) (sgS left)).cps.toList = some f := by
  obtain ⟨⟨k1, k2⟩, k3⟩ := cnt_facts h
  have n0 : 0 ≤ numL r f left := by
    unfold numL
    cases left with
    | false => simpa using f0
    | true => simp only [if_true]; exact (withL_parts (k3.resolve_left (hl rfl)) f0).1
  obtain ⟨p1, p2, p3, p4⟩ := parts_of ⟨k1, k2⟩ n0 nb
  rw [codeT_D, readO_D p1.1 p1.2 p2.1 (by omega) p3.1 (by omega) p4.1 (by omega)]
  rw [if_neg (by omega)]
  have e1 : (numL r f left / cnt r / 60 / 60 * 60 + numL r f left / cnt r / 60 % 60) = numL r f left / cnt r / 60 := by omega
  have e2 : numL r f left / cnt r / 60 * 60 + numL r f left / cnt r % 60 = numL r f left / cnt r := by omega
  have e3 : numL r f left / cnt r * cnt r + numL r f left % cnt r = numL r f left := Int.ediv_mul_add_emod _ _
  rw [e1, e2, e3]
  cases left with
  | false => simp [numL]
  | true =>
    obtain ⟨w0, w1, w2⟩ := withL_parts (k3.resolve_left (hl rfl)) f0
    have hn : numL r f true = withL (cnt r) (lo r) f := by simp [numL]
    rw [hn]
    rw [if_neg (by decide), if_neg (by rintro (z | z); exact hl rfl z; exact w2 z), w1]
/-! ### codes rise as texts -/
theorem fig_raw {i : Int} (h0 : 0 ≤ i) (h1 : i < 100) : fig i = ⟨#[48 + (i / 10).toNat, 48 + (i % 10).toNat]⟩ := by
  have := (fig_cps ⟨(i / 10).toNat, by omega⟩ ⟨(i % 10).toNat, by omega⟩).2
  simp only at this
  rw [← this]
  congr 1
  omega
theorem two_lt {i j : Int} (h0 : 0 ≤ i) (h : i < j) (h1 : j < 100) (r r' : List Nat) : (48 + (i / 10).toNat) :: (48 + (i % 10).toNat) :: r < (48 + (j / 10).toNat) :: (48 + (j % 10).toNat) :: r' := by
  rw [List.cons_lt_cons_iff, List.cons_lt_cons_iff]
  omega
theorem same_lt {a : Nat} {r r' : List Nat} (h : r < r') : a :: r < a :: r' := by
  rw [List.cons_lt_cons_iff]
  exact .inr ⟨rfl, h⟩
theorem codeD_lt {h m s l h' m' s' l' : Int} {sg : Str} {g : Nat} (eg : sg = ⟨#[g]⟩) (hb : 0 ≤ h ∧ h < 100) (mb : 0 ≤ m ∧ m < 100) (sb : 0 ≤ s ∧ s < 100) (lb : 0 ≤ l ∧ l < 100) (hb' : 0 ≤ h' ∧ h' < 100) (mb' : 0 ≤ m' ∧ m' < 100) (sb' : 0 ≤ s' ∧ s' < 100) (lb' : 0 ≤ l' ∧ l' < 100)
    (lt : h < h' ∨ (h = h' ∧ (m < m' ∨ (m = m' ∧ (s < s' ∨ (s = s' ∧ l < l')))))) : (codeD h m s l sg).cps.toList < (codeD h' m' s' l' sg).cps.toList := by
  rw [codeD_raw (fig_raw hb.1 hb.2) (fig_raw mb.1 mb.2) (fig_raw sb.1 sb.2) (fig_raw lb.1 lb.2) eg, codeD_raw (fig_raw hb'.1 hb'.2) (fig_raw mb'.1 mb'.2) (fig_raw sb'.1 sb'.2) (fig_raw lb'.1 lb'.2) eg]
  rw [List.toList_toArray, List.toList_toArray]
  rcases lt with lt | ⟨rfl, lt⟩
  · exact two_lt hb.1 lt hb'.2 _ _
  · refine same_lt (same_lt (same_lt ?_))
    rcases lt with lt | ⟨rfl, lt⟩
    · exact two_lt mb.1 lt mb'.2 _ _
    · refine same_lt (same_lt (same_lt ?_))
      rcases lt with lt | ⟨rfl, lt⟩
      · exact two_lt sb.1 lt sb'.2 _ _
      · refine same_lt (same_lt (same_lt ?_))
        exact two_lt lb.1 lt lb'.2 _ _
theorem codeT_lt {c n n' : Int} (hc : 24 ≤ c ∧ c ≤ 60) (h0 : 0 ≤ n) (h : n < n') (h1 : n' < 360000 * c) (left : Bool) : (codeT c n (sgS left)).cps.toList < (codeT c n' (sgS left)).cps.toList := by
  obtain ⟨p1, p2, p3, p4⟩ := parts_of hc h0 (by omega)
  obtain ⟨q1, q2, q3, q4⟩ := parts_of hc (by omega) h1
  have le : n / c ≤ n' / c := Int.ediv_le_ediv (by omega) (by omega)
  have e1 := Int.ediv_mul_add_emod n c
  have e2 := Int.ediv_mul_add_emod n' c
  have key : n / c < n' / c ∨ (n / c = n' / c ∧ n % c < n' % c) := by
    by_cases z : n / c = n' / c
    · rw [z] at e1
      exact .inr ⟨z, by omega⟩
    · exact .inl (by omega)
  rw [codeT_D, codeT_D]
  refine codeD_lt (sgS_is left) p1 (by omega) (by omega) (by omega) q1 (by omega) (by omega) (by omega) ?_
  generalize n / c = x at *
  generalize n' / c = y at *
  rcases key with z | ⟨rfl, z⟩
  · omega
  · exact .inr ⟨rfl, .inr ⟨rfl, .inr ⟨rfl, z⟩⟩⟩
end RH.S

namespace RH.S
open PySem PySem.Spec L2
/-! ### moments -/
theorem floor_divInt {t b : Int} (hb : 0 < b) : (Rat.divInt t b).floor = t / b := by
  rw [Rat.floor_def, divInt_num hb, divInt_den hb]
  have g0 : 0 < ((Int.gcd t b : Nat) : Int) := by
    have := Int.gcd_pos_of_ne_zero_right t (show b ≠ 0 by omega)
    omega
  obtain ⟨t', ht⟩ : ((Int.gcd t b : Nat) : Int) ∣ t := Int.gcd_dvd_left ..
  obtain ⟨b', hb'⟩ : ((Int.gcd t b : Nat) : Int) ∣ b := Int.gcd_dvd_right ..
  generalize ((Int.gcd t b : Nat) : Int) = g at *
  subst ht
  subst hb'
  rw [Int.mul_ediv_cancel_left _ (by omega), Int.mul_ediv_cancel_left _ (by omega), Int.mul_ediv_mul_of_pos _ _ g0]
theorem floor_mul (p q : Rat) : (p * q).floor = p.num * q.num / (p.den * q.den) := by
  rw [← divInt_mul, floor_divInt (Int.mul_pos (den_pos p) (den_pos q))]
theorem frame_at_is (n : Nat) {p q : Rat} (hp : Fq p) (hq : Fq q) (σ : EnvD) : gotK σ (cal (n + 4) "frame_at" [fz (fr p), fz (fr q)]) = .ok (fz (.int (p * q).floor), σ) := by
  unfold cal
  rw [cal_of lk_frame_at rfl]
  have h1 := times_is n hp hq
  have h2 := whole_is (n + 2) (p := p * q) ((Sz.mul hp hq).le (by decide))
  simp [h1, h2]
theorem moment_is (n : Nat) {f : Int} {r : Rat} (hf : f.natAbs < 2 ^ 100) (hr : r ∈ rates) (σ : EnvD) : gotK σ (cal (n + 3) "moment" [fz (.int f), fz (fr r)]) = .ok (fz (fr (Rat.divInt (f * r.den) r.num)), σ) := by
  unfold cal
  rw [cal_of lk_moment rfl]
  obtain ⟨h1, h2, h3, _⟩ := rate_facts hr
  have l1 := lowest_is n (t := f * r.den) h1 (by omega)
  have b1 : big f := big_n (n := 100) hf (by decide)
  have b2 : big (r.den : Int) := big_of (by omega) (by omega)
  simp [l1, b1, b2]
end RH.S

namespace RH.S
open PySem PySem.Spec L2
theorem drop_is (n : Nat) {r : Rat} (h : r ∈ rates) (σ : EnvD) : gotK σ (cal (n + 1) "_law_drop" [fz (fr r)]) = .ok (fz (.bool (decide (lo r ≠ 0))), σ) := by
  unfold cal
  rw [cal_of lk__law_drop rfl]
  have e : opD .isin [fr r, .list [.tuple [.int 30000, .int 1001], .tuple [.int 60000, .int 1001]]] = some (fz (.bool (decide (lo r ≠ 0)))) := by
    unfold rates at h
    simp only [List.mem_cons, List.not_mem_nil, or_false] at h
    rcases h with rfl | rfl | rfl | rfl | rfl | rfl | rfl | rfl <;> rfl
  simp [sz, e]
theorem numL_lt {r : Rat} (h : r ∈ rates) {left : Bool} (hl : left = true → lo r ≠ 0) {f : Int} (h0 : 0 ≤ f) (h1 : f < 350000 * cnt r) : numL r f left < 360000 * cnt r := by
  obtain ⟨⟨c1, c2⟩, c3⟩ := cnt_facts h
  unfold numL
  cases left with
  | false => simp; omega
  | true =>
    have c3 := c3.resolve_left (hl rfl)
    simp only [if_true]
    generalize cnt r = c at *
    generalize lo r = o at *
    unfold withL
    rcases c3 with ⟨rfl, rfl⟩ | ⟨rfl, rfl⟩
    · split <;> omega
    · split <;> omega
/-- the text of a frame's code -/
def tx (r : Rat) (left : Bool) (f : Int) : Str := codeT (cnt r) (numL r f left) (sgS left)
theorem numL_0 {r : Rat} (h : r ∈ rates) {left : Bool} (hl : left = true → lo r ≠ 0) {f : Int} (h0 : 0 ≤ f) : 0 ≤ numL r f left := by
  obtain ⟨⟨c1, c2⟩, c3⟩ := cnt_facts h
  unfold numL
  cases left with
  | false => simpa using h0
  | true => simp only [if_true]; exact (withL_parts (c3.resolve_left (hl rfl)) h0).1
theorem tx_ok {r : Rat} (h : r ∈ rates) {left : Bool} (hl : left = true → lo r ≠ 0) {f : Int} (h0 : 0 ≤ f) (h1 : f < 350000 * cnt r) : sOk (tx r left f) ∧ (tx r left f).length = 11 :=
  codeT_ok (cnt_facts h).1 (numL_0 h hl h0) (numL_lt h hl h0 h1) (by cases left <;> simp [sgS])
theorem ct_is (n : Nat) {r : Rat} (h : r ∈ rates) {left : Bool} (hl : left = true → lo r ≠ 0) {f : Int} (h0 : 0 ≤ f) (h1 : f < 350000 * cnt r) (σ : EnvD) : gotK σ (cal (n + 4) "code_text" [fz (.int f), fz (fr r), fz (.bool left)]) = .ok (fz (.str (tx r left f)), σ) := by
  obtain ⟨⟨c1, c2⟩, c3⟩ := cnt_facts h
  have c := code_is n h (f := f) (by omega) left
  have nl := numL_lt h hl h0 h1
  have e : codeO r f left = some (tx r left f) := by
    unfold codeO
    rw [if_neg (by rintro (a | ⟨a, b⟩ | a); omega; exact hl a b; omega)]
    rfl
  rw [e] at c
  rw [c]
  rfl
theorem rd_is (n : Nat) {r : Rat} (h : r ∈ rates) {left : Bool} (hl : left = true → lo r ≠ 0) {f : Int} (h0 : 0 ≤ f) (h1 : f < 350000 * cnt r) (σ : EnvD) : gotK σ (cal (n + 3) "read_code" [fz (.str (tx r left f)), fz (fr r)]) = .ok (fz (.int f), σ) := by
  obtain ⟨t1, t2⟩ := tx_ok h hl h0 h1
  have c := read_is n h (.str (tx r left f)) (fun z e => by cases e; exact ⟨t1, by omega⟩)
  have e : readD r (.str (tx r left f)) = some f := read_back h hl h0 (numL_lt h hl h0 h1)
  rw [e] at c
  rw [c]
  rfl
theorem fa_is (n : Nat) {r : Rat} (h : r ∈ rates) {f : Int} (h0 : 0 ≤ f) (h1 : f < 350000 * cnt r) (σ : EnvD) : gotK σ (cal (n + 4) "frame_at" [fz (fr (Rat.divInt (f * r.den) r.num)), fz (fr r)]) = .ok (fz (.int f), σ) := by
  obtain ⟨⟨c1, c2⟩, c3⟩ := cnt_facts h
  obtain ⟨g1, g2, g3, _⟩ := rate_facts h
  have m0 : 0 ≤ f * (r.den : Int) := Int.mul_nonneg h0 (by omega)
  have m1 : f * (r.den : Int) ≤ 21000000 * 1001 := Int.mul_le_mul (by omega) (by omega) (by omega) (by omega)
  have s := Sz.divInt (n := 40) (a := f * r.den) (b := r.num) g1 (by omega) (by omega)
  rw [frame_at_is n (s.le (by decide)) ((rate_sz h).le (by decide))]
  have e : Rat.divInt (f * r.den) r.num * r = (f : Rat) := by
    have e1 := divInt_div (f : Rat) r (rate_pos h)
    have e2 : Rat.divInt (f * r.den) r.num = (f : Rat) / r := by
      rw [← e1]
      show _ = Rat.divInt (f * r.den) (((1 : Nat) : Int) * r.num)
      simp
    rw [e2]
    have := rate_pos h
    exact Rat.div_mul_cancel (by intro z; rw [z] at this; exact absurd this (by decide))
  rw [e, Rat.floor_intCast]
/-- sorted(set(..)) of texts that rise -/
theorem sorted_rise {α : Type} (T : α → Str) {as : List α} (hne : as ≠ []) (hl : as.length < 4000) (hp : (as.map T).Pairwise fun a b => a.cps.toList < b.cps.toList) :
    opD .sortedSet [.list (as.map fun a => PyData.str (T a))] = some (ow (.list (as.map fun a => PyData.str (T a)))) := by
  show dSortSet [.list (as.map fun a => PyData.str (T a))] = _
  have e1 : ints? (as.map fun a => PyData.str (T a)) = none := by
    cases as with
    | nil => exact absurd rfl hne
    | cons a r => rfl
  have e2 : strs? (as.map fun a => PyData.str (T a)) = some (as.map T) := by
    clear hne hl hp e1
    induction as with
    | nil => rfl
    | cons a r ih => simp only [List.map_cons]; rw [strs?, ih]; rfl
  have nd : (as.map T).Nodup := hp.imp fun {a b} h => fun z => by
    rw [z] at h
    exact absurd h (List.lt_irrefl _)
  have so : (as.map T).mergeSort leS = as.map T := List.mergeSort_of_pairwise (hp.imp fun {a b} h => decide_eq_true (List.le_of_lt h))
  unfold dSortSet
  dsimp only
  rw [e1]
  dsimp only
  rw [e2, Option.bind_some, if_pos ⟨by rw [List.length_map]; exact hl, nd⟩, so, List.map_map]
  rfl
theorem rise {r : Rat} (h : r ∈ rates) {left : Bool} (hl : left = true → lo r ≠ 0) {a : Int} (h0 : 0 ≤ a) (h1 : a + 200 < 350000 * cnt r) :
    ((List.range 200).map fun i : Nat => tx r left (a + (i : Int))).Pairwise fun x y => x.cps.toList < y.cps.toList := by
  rw [List.pairwise_map]
  refine List.Pairwise.imp_of_mem (fun {i j} hi hj hij => ?_) List.pairwise_lt_range
  have hi := List.mem_range.mp hi
  have hj := List.mem_range.mp hj
  exact codeT_lt (cnt_facts h).1 (numL_0 h hl (by omega)) (numL_mono h hl (by omega)) (numL_lt h hl (by omega) (by omega)) left
theorem turn_ok {r : Rat} (h : r ∈ rates) {left : Bool} (hl : left = true → lo r ≠ 0) (sc kk x6 x7 x8 x9 x10 x11 : Option SV) (n9 : nl x9) (w : Well) :
    ∃ w' y9, nl y9 ∧ evSS (lookC cs) (callF (lookC cs) (look ds) 29) 1 [] lb_law_1 [sc, kk, some w.sv, some (fz (fr r)), some (fz (.bool left)), some (fz (.int (cnt r))), x6, x7, x8, x9, x10, x11] = .ok (.nx [sc, kk, some (Well.sv w'), some (fz (fr r)), some (fz (.bool left)), some (fz (.int (cnt r))), x6, x7, x8, y9, x10, x11]) := by
  obtain ⟨⟨c1, c2⟩, c3⟩ := cnt_facts h
  have b1 : big 350000 := big_of (by omega) (by omega)
  have b2 : big (cnt r) := big_of (by omega) (by omega)
  obtain ⟨f, w', f0, f1, e1⟩ := take_is 28 w (m := 350000 * cnt r) (by omega) (by omega)
  have ct := ct_is 25 h hl f0 f1
  have rd := rd_is 26 h hl f0 f1
  have mo := moment_is 26 (f := f) (by omega) h
  have fa := fa_is 25 h f0 f1
  have ne : opD .ne [.int f, .int f] = some (fz (.bool false)) := by rw [o_ne_i]; simp
  refine ⟨w', some (fz (.int f)), nl_f _, ?_⟩
  simp [lb_law_1, b1, b2, e1, stK_nl, n9, ct, rd, ne, mo, fa]
theorem okD_strs {α : Type} (T : α → Str) {as : List α} (h : ∀ a ∈ as, sOk (T a)) : okD (.list (as.map fun a => PyData.str (T a))) = true := by
  refine okD_of (n := 1) ?_ (by decide)
  rw [Ok_list]
  intro x hx
  obtain ⟨a, ha, rfl⟩ := List.mem_map.mp hx
  exact (Ok_str _ _).mpr (h a ha)
theorem okD_ints {α : Type} (T : α → Int) (as : List α) : okD (.list (as.map fun a => PyData.int (T a))) = true := by
  refine okD_of (n := 1) ?_ (by decide)
  rw [Ok_list]
  intro x hx
  obtain ⟨a, ha, rfl⟩ := List.mem_map.mp hx
  simp
theorem body_ok {ns : List Int} (hn : ns.length ≤ 63) (k : Int) (hk : 0 ≤ k) (hk2 : k < 1000) (js : List (Option SV)) (hj : js.length = 10) (hnl : ∀ x ∈ js, nl x) :
    ∃ σ2, evSS (lookC cs) (callF (lookC cs) (look ds) 29) 1 [] lb_law_0 (some (fz (.list (ns.map PyData.int))) :: some (fz (.int k)) :: js) = .ok (.nx σ2) ∧ InvJ (.list (ns.map PyData.int)) 11 σ2 := by
  match js, hj with
  | [x2, x3, x4, x5, x6, x7, x8, x9, x10, x11], _ =>
  simp only [List.forall_mem_cons] at hnl
  obtain ⟨h2, h3, h4, h5, h6, h7, h8, h9, h10, h11, _⟩ := hnl
  obtain ⟨w0, e0⟩ := well_is 28 hn hk hk2
  obtain ⟨sc, hsc⟩ : ∃ sc, some (fz (.list (ns.map PyData.int))) = sc := ⟨_, rfl⟩
  obtain ⟨r, hr, w1, e1⟩ := rate_is 27 w0
  obtain ⟨⟨c1, c2⟩, c3⟩ := cnt_facts hr
  have dr := drop_is 28 hr
  have sp : lb_law_0 = .cons (nthS lb_law_0 0) (.cons (nthS lb_law_0 1) (.cons (nthS lb_law_0 2) (.cons (nthS lb_law_0 3) (.cons (nthS lb_law_0 4) (.cons (nthS lb_law_0 5) (.cons (nthS lb_law_0 6) (.cons (nthS lb_law_0 7) (.cons (nthS lb_law_0 8) (.cons (nthS lb_law_0 9) .nil))))))))) := rfl
  have st0 : evS (lookC cs) (callF (lookC cs) (look ds) 29) 1 [] (nthS lb_law_0 0) [sc, some (fz (.int k)), x2, x3, x4, x5, x6, x7, x8, x9, x10, x11] = .ok (.nx [sc, some (fz (.int k)), some w0.sv, x3, x4, x5, x6, x7, x8, x9, x10, x11]) := by
    rw [← hsc]
    simp [nthS, lb_law_0, e0, stK_nl, h2]
  have st1 : evS (lookC cs) (callF (lookC cs) (look ds) 29) 1 [] (nthS lb_law_0 1) [sc, some (fz (.int k)), some w0.sv, x3, x4, x5, x6, x7, x8, x9, x10, x11] = .ok (.nx [sc, some (fz (.int k)), some w1.sv, some (fz (fr r)), x4, x5, x6, x7, x8, x9, x10, x11]) := by
    simp [nthS, lb_law_0, e1, stK_nl, h3]
  obtain ⟨left, w2, hl, st2⟩ : ∃ (left : Bool) (w2 : Well), (left = true → lo r ≠ 0) ∧ evS (lookC cs) (callF (lookC cs) (look ds) 29) 1 [] (nthS lb_law_0 2) [sc, some (fz (.int k)), some w1.sv, some (fz (fr r)), x4, x5, x6, x7, x8, x9, x10, x11] = .ok (.nx [sc, some (fz (.int k)), some w2.sv, some (fz (fr r)), some (fz (.bool left)), x5, x6, x7, x8, x9, x10, x11]) := by
    by_cases z : lo r = 0
    · have dr : ∀ σ, gotK σ (cal 29 "_law_drop" [fz (fr r)]) = .ok (fz (.bool false), σ) := fun σ => by rw [dr, decide_eq_false (fun y => y z)]
      exact ⟨false, w1, (fun h => by cases h), by simp [nthS, lb_law_0, dr, stK_nl, h4]⟩
    · have dr : ∀ σ, gotK σ (cal 29 "_law_drop" [fz (fr r)]) = .ok (fz (.bool true), σ) := fun σ => by rw [dr, decide_eq_true z]
      obtain ⟨v, w2, v0, v1, e2⟩ := take_is 28 w1 (show (0 : Int) < 3 by decide) (by decide)
      have gt : opD .gt [.int v, .int 0] = some (fz (.bool (decide (0 < v)))) := rfl
      exact ⟨decide (0 < v), w2, fun _ => z, by simp [nthS, lb_law_0, dr, e2, gt, stK_nl, h4]⟩
  have d := den_dvs ((rate_sz hr).le (by decide) : Sz 9000 r)
  have hc : -(-r.num / (r.den : Int)) = cnt r := rfl
  have st3 : evS (lookC cs) (callF (lookC cs) (look ds) 29) 1 [] (nthS lb_law_0 3) [sc, some (fz (.int k)), some w2.sv, some (fz (fr r)), some (fz (.bool left)), x5, x6, x7, x8, x9, x10, x11] = .ok (.nx [sc, some (fz (.int k)), some w2.sv, some (fz (fr r)), some (fz (.bool left)), some (fz (.int (cnt r))), x6, x7, x8, x9, x10, x11]) := by
    simp [nthS, lb_law_0, d, hc, stK_nl, h5]
  obtain ⟨v1, w3, a0, a1, e3⟩ := take_is 28 w2 (show (0 : Int) < 700 by decide) (by decide)
  obtain ⟨v2, w4, b0, b1, e4⟩ := take_is 28 w3 (show (0 : Int) < 500 by decide) (by decide)
  have k1 : big 60 := big_of (by omega) (by omega)
  have k2 : big (cnt r) := big_of (by omega) (by omega)
  have k3 : big (60 * cnt r) := big_of (by omega) (by omega)
  have k4 : big v1 := big_of (by omega) (by omega)
  have k5 : big 2 := big_of (by omega) (by omega)
  have k6 : big v2 := big_of (by omega) (by omega)
  have mb : 0 ≤ 60 * cnt r * v1 ∧ 60 * cnt r * v1 ≤ 3600 * 699 := by
    have q1 := Int.mul_nonneg (show 0 ≤ 60 * cnt r by omega) a0
    have q2 := Int.mul_le_mul (show 60 * cnt r ≤ 3600 by omega) (show v1 ≤ 699 by omega) a0 (by decide)
    exact ⟨q1, q2⟩
  obtain ⟨a, ha⟩ : ∃ a, (if 60 * cnt r * v1 - 2 * v2 > 0 then 60 * cnt r * v1 - 2 * v2 else 0) = a := ⟨_, rfl⟩
  have ab : 0 ≤ a ∧ a ≤ 2516400 := by rw [← ha]; split <;> omega
  have mx : opD .max2 [.int 0, .int (60 * cnt r * v1 - 2 * v2)] = some (fz (.int a)) := by rw [← ha]; rfl
  have st4 : evS (lookC cs) (callF (lookC cs) (look ds) 29) 1 [] (nthS lb_law_0 4) [sc, some (fz (.int k)), some w2.sv, some (fz (fr r)), some (fz (.bool left)), some (fz (.int (cnt r))), x6, x7, x8, x9, x10, x11] = .ok (.nx [sc, some (fz (.int k)), some w4.sv, some (fz (fr r)), some (fz (.bool left)), some (fz (.int (cnt r))), some (fz (.int a)), x7, x8, x9, x10, x11]) := by
    simp [nthS, lb_law_0, k1, k2, k3, k4, k5, k6, e3, e4, mx, stK_nl, h6]
  have lr : opD .lrng2 [.int a, .int (a + 200)] = some (ow (.list ((List.range 200).map fun i : Nat => PyData.int (a + (i : Int))))) := by
    show dLrng a (a + 200) = _
    unfold dLrng
    have e1 : i62 a = true := by unfold i62; simp; omega
    have e2 : i62 (a + 200) = true := by unfold i62; simp; omega
    have e3 : (a + 200 - a).toNat = 200 := by omega
    rw [e1, e2, e3]
    unfold rgD
    rw [e3]; rfl
  have st5 : evS (lookC cs) (callF (lookC cs) (look ds) 29) 1 [] (nthS lb_law_0 5) [sc, some (fz (.int k)), some w4.sv, some (fz (fr r)), some (fz (.bool left)), some (fz (.int (cnt r))), some (fz (.int a)), x7, x8, x9, x10, x11] = .ok (.nx [sc, some (fz (.int k)), some w4.sv, some (fz (fr r)), some (fz (.bool left)), some (fz (.int (cnt r))), some (fz (.int a)), some (ow (.list ((List.range 200).map fun i : Nat => PyData.int (a + (i : Int))))), x8, x9, x10, x11]) := by
    simp [nthS, lb_law_0, lr, stK_nl, h7, -List.map_map]
  obtain ⟨FR, hFR⟩ : ∃ x, ((List.range 200).map fun i : Nat => PyData.int (a + (i : Int))) = x := ⟨_, rfl⟩
  obtain ⟨TX, hTX⟩ : ∃ x, ((List.range 200).map fun i : Nat => PyData.str (tx r left (a + (i : Int)))) = x := ⟨_, rfl⟩
  have fb : ∀ i ∈ List.range 200, 0 ≤ a + ((i : Nat) : Int) ∧ a + ((i : Nat) : Int) < 350000 * cnt r := fun i hi => by
    have := List.mem_range.mp hi
    omega
  rw [hFR] at st5
  have cm1 := comp_map (C := lookC cs) (cf := callF (lookC cs) (look ds) 29) (i := 9) (it := .seq (.var 7)) (e := .call "code_text" (.cons (.var 9) (.cons (.var 3) (.cons (.var 4) .nil)))) (σ := [sc, some (fz (.int k)), some w4.sv, some (fz (fr r)), some (fz (.bool left)), some (fz (.int (cnt r))), some (fz (.int a)), some (ow (.list FR)), x8, x9, x10, x11])
    (fun i : Nat => PyData.int (a + (i : Int))) (fun i => .str (tx r left (a + (i : Int)))) (List.range 200) (i_seq_o (i := 7) (d := .list FR) rfl (by rw [hFR]; rfl)) rfl (sz (by simp)) (by simp) (fun i hi => ⟨.frz, by
      have ct := ct_is 25 hr hl (fb i hi).1 (fb i hi).2
      simp [lendAll, setMd, ct]⟩)
  rw [hTX] at cm1
  have st6 : evS (lookC cs) (callF (lookC cs) (look ds) 29) 1 [] (nthS lb_law_0 6) [sc, some (fz (.int k)), some w4.sv, some (fz (fr r)), some (fz (.bool left)), some (fz (.int (cnt r))), some (fz (.int a)), some (ow (.list FR)), x8, x9, x10, x11] = .ok (.nx [sc, some (fz (.int k)), some w4.sv, some (fz (fr r)), some (fz (.bool left)), some (fz (.int (cnt r))), some (fz (.int a)), some (ow (.list FR)), some (ow (.list TX)), x9, x10, x11]) := by
    simp [nthS, lb_law_0, cm1, lendAll, setMd, unlend, stK_nl, h8]
  have ss : opD .sortedSet [.list TX] = some (ow (.list TX)) := by
    rw [← hTX]
    exact sorted_rise (fun i : Nat => tx r left (a + (i : Int))) (by simp) (by simp) (rise hr hl ab.1 (by omega))
  have okT : okD (.list TX) = true := by
    rw [← hTX]
    exact okD_strs (fun i : Nat => tx r left (a + (i : Int))) fun i hi => (tx_ok hr hl (fb i hi).1 (fb i hi).2).1
  have neT : opD .ne [.list TX, .list TX] = some (fz (.bool false)) := by rw [o_ne okT okT, eqv_self okT]; rfl
  have okF : okD (.list FR) = true := by
    rw [← hFR]
    exact okD_ints (fun i : Nat => a + (i : Int)) _
  have neF : opD .ne [.list FR, .list FR] = some (fz (.bool false)) := by rw [o_ne okF okF, eqv_self okF]; rfl
  have st7 : evS (lookC cs) (callF (lookC cs) (look ds) 29) 1 [] (nthS lb_law_0 7) [sc, some (fz (.int k)), some w4.sv, some (fz (fr r)), some (fz (.bool left)), some (fz (.int (cnt r))), some (fz (.int a)), some (ow (.list FR)), some (ow (.list TX)), x9, x10, x11] = .ok (.nx [sc, some (fz (.int k)), some w4.sv, some (fz (fr r)), some (fz (.bool left)), some (fz (.int (cnt r))), some (fz (.int a)), some (ow (.list FR)), some (ow (.list TX)), x9, x10, x11]) := by
    simp [nthS, lb_law_0, ss, neT]
  have cm2 := comp_map (C := lookC cs) (cf := callF (lookC cs) (look ds) 29) (i := 10) (it := .seq (.var 8)) (e := .call "read_code" (.cons (.var 10) (.cons (.var 3) .nil))) (σ := [sc, some (fz (.int k)), some w4.sv, some (fz (fr r)), some (fz (.bool left)), some (fz (.int (cnt r))), some (fz (.int a)), some (ow (.list FR)), some (ow (.list TX)), x9, x10, x11])
    (fun i : Nat => PyData.str (tx r left (a + (i : Int)))) (fun i => .int (a + (i : Int))) (List.range 200) (i_seq_o (i := 8) (d := .list TX) rfl (by rw [hTX]; rfl)) rfl (sz (by simp)) (by simp) (fun i hi => ⟨.frz, by
      have rd := rd_is 26 hr hl (fb i hi).1 (fb i hi).2
      simp [lendAll, setMd, rd]⟩)
  rw [hFR] at cm2
  have st8 : evS (lookC cs) (callF (lookC cs) (look ds) 29) 1 [] (nthS lb_law_0 8) [sc, some (fz (.int k)), some w4.sv, some (fz (fr r)), some (fz (.bool left)), some (fz (.int (cnt r))), some (fz (.int a)), some (ow (.list FR)), some (ow (.list TX)), x9, x10, x11] = .ok (.nx [sc, some (fz (.int k)), some w4.sv, some (fz (fr r)), some (fz (.bool left)), some (fz (.int (cnt r))), some (fz (.int a)), some (ow (.list FR)), some (ow (.list TX)), x9, x10, x11]) := by
    simp [nthS, lb_law_0, cm2, lendAll, setMd, unlend, neF]
  have st9 : ∃ w5 y9 y11, nl y9 ∧ nl y11 ∧ evS (lookC cs) (callF (lookC cs) (look ds) 29) 1 [] (nthS lb_law_0 9) [sc, some (fz (.int k)), some w4.sv, some (fz (fr r)), some (fz (.bool left)), some (fz (.int (cnt r))), some (fz (.int a)), some (ow (.list FR)), some (ow (.list TX)), x9, x10, x11] = .ok (.nx [sc, some (fz (.int k)), some (Well.sv w5), some (fz (fr r)), some (fz (.bool left)), some (fz (.int (cnt r))), some (fz (.int a)), some (ow (.list FR)), some (ow (.list TX)), y9, x10, y11]) := by
    obtain ⟨σ2, f1, w5, y9, y11, m9, m11, rfl⟩ := forR_inv (bnd := bindC [] (.name 11)) (body := evSS (lookC cs) (callF (lookC cs) (look ds) 29) 1 [] lb_law_1) (fun σ => ∃ (w5 : Well) (y9 y11 : Option SV), nl y9 ∧ nl y11 ∧ σ = [sc, some (fz (.int k)), some w5.sv, some (fz (fr r)), some (fz (.bool left)), some (fz (.int (cnt r))), some (fz (.int a)), some (ow (.list FR)), some (ow (.list TX)), y9, x10, y11]) (rangeD 0 4 1) [sc, some (fz (.int k)), some w4.sv, some (fz (fr r)), some (fz (.bool left)), some (fz (.int (cnt r))), some (fz (.int a)), some (ow (.list FR)), some (ow (.list TX)), x9, x10, x11] ⟨w4, x9, x11, h9, h11, rfl⟩ (fun q hq σ hI => by
      obtain ⟨w5, y9, y11, m9, m11, rfl⟩ := hI
      obtain ⟨w6, z9, p9, ev⟩ := turn_ok hr hl sc (some (fz (.int k))) (some (fz (.int a))) (some (ow (.list FR))) (some (ow (.list TX))) y9 x10 (some (fz q)) m9 w5
      exact ⟨[sc, some (fz (.int k)), some w5.sv, some (fz (fr r)), some (fz (.bool left)), some (fz (.int (cnt r))), some (fz (.int a)), some (ow (.list FR)), some (ow (.list TX)), y9, x10, some (fz q)], by simp [freeK_nl m11], _, ev, w6, z9, some (fz q), p9, nl_f _, rfl⟩)
    refine ⟨w5, y9, y11, m9, m11, ?_⟩
    have it : evI (lookC cs) (callF (lookC cs) (look ds) 29) (.rng1 (.cst (.int 4))) [sc, some (fz (.int k)), some w4.sv, some (fz (fr r)), some (fz (.bool left)), some (fz (.int (cnt r))), some (fz (.int a)), some (ow (.list FR)), some (ow (.list TX)), x9, x10, x11] = .ok (⟨rangeD 0 4 1, [], []⟩, [sc, some (fz (.int k)), some w4.sv, some (fz (fr r)), some (fz (.bool left)), some (fz (.int (cnt r))), some (fz (.int a)), some (ow (.list FR)), some (ow (.list TX)), x9, x10, x11]) := by
      rw [i_rng1 (m := .frz) (j := 4) (σ' := [sc, some (fz (.int k)), some w4.sv, some (fz (fr r)), some (fz (.bool left)), some (fz (.int (cnt r))), some (fz (.int a)), some (ow (.list FR)), some (ow (.list TX)), x9, x10, x11]) (by simp) (by omega) (by omega)]
      rfl
    show evS (lookC cs) (callF (lookC cs) (look ds) 29) 1 [] (.for (.name 11) (.rng1 (.cst (.int 4))) lb_law_1) _ = _
    rw [s_for, it, R.bind_ok]
    simp [lendAll, f1, forK, unlend]
  obtain ⟨w5, y9, y11, m9, m11, st9⟩ := st9
  refine ⟨_, ?_, [some (fz (.int k)), some w5.sv, some (fz (fr r)), some (fz (.bool left)), some (fz (.int (cnt r))), some (fz (.int a)), some (ow (.list FR)), some (ow (.list TX)), y9, x10, y11], rfl, by simp [m9, m11, h10], rfl⟩
  rw [hsc, sp, s_cons, st0, R.bind_ok, nextK_nx, s_cons, st1, R.bind_ok, nextK_nx, s_cons, st2, R.bind_ok, nextK_nx, s_cons, st3, R.bind_ok, nextK_nx, s_cons, st4, R.bind_ok, nextK_nx, s_cons, st5, R.bind_ok, nextK_nx, s_cons, st6, R.bind_ok, nextK_nx, s_cons, st7, R.bind_ok, nextK_nx, s_cons, st8, R.bind_ok, nextK_nx, s_cons, st9, R.bind_ok, nextK_nx]
  simp
theorem plain (ns : List Int) (hn : ns.length ≤ 63) : ∃ outs, cal 30 "law" [fz (.list (ns.map PyData.int))] = .ok (fz (.bool true)) outs :=
  law_loop (n := 29) (m := 10) (A := 3) (B := 20) hn ⟨by decide, by decide⟩ ⟨by decide, by decide⟩ lk_law (body_ok hn)
end RH.S

namespace RH.S
open PySem PySem.Spec L2
theorem mt_is_int : mtDef fs xs hs N_is_int P_is_int fd_is_int (top 5) = true := by decide +kernel
theorem bd_is_int (kV doc pm : Value) (an : Option Addr) (cdv ct : Value) (us : List Value) (hl : us.length = P_is_int.length) : bindArgs (PySem.W.fnOf "is_int" "is_int" (defArgs (top 5)) (defBody (top 5)) (defScope (top 5)) .none kV doc pm an cdv ct) ⟨us, []⟩ = pure (P_is_int.zip us) := match us, hl with | [_], _ => rfl
theorem mt_count_of : mtDef fs xs hs N_count_of P_count_of fd_count_of (top 11) = true := by decide +kernel
theorem bd_count_of (kV doc pm : Value) (an : Option Addr) (cdv ct : Value) (us : List Value) (hl : us.length = P_count_of.length) : bindArgs (PySem.W.fnOf "count_of" "count_of" (defArgs (top 11)) (defBody (top 11)) (defScope (top 11)) .none kV doc pm an cdv ct) ⟨us, []⟩ = pure (P_count_of.zip us) := match us, hl with | [_], _ => rfl
theorem mt_left_of : mtDef fs xs hs N_left_of P_left_of fd_left_of (top 12) = true := by decide +kernel
theorem bd_left_of (kV doc pm : Value) (an : Option Addr) (cdv ct : Value) (us : List Value) (hl : us.length = P_left_of.length) : bindArgs (PySem.W.fnOf "left_of" "left_of" (defArgs (top 12)) (defBody (top 12)) (defScope (top 12)) .none kV doc pm an cdv ct) ⟨us, []⟩ = pure (P_left_of.zip us) := match us, hl with | [_], _ => rfl
theorem mt_two_figures : mtDef fs xs hs N_two_figures P_two_figures fd_two_figures (top 13) = true := by decide +kernel
theorem bd_two_figures (kV doc pm : Value) (an : Option Addr) (cdv ct : Value) (us : List Value) (hl : us.length = P_two_figures.length) : bindArgs (PySem.W.fnOf "two_figures" "two_figures" (defArgs (top 13)) (defBody (top 13)) (defScope (top 13)) .none kV doc pm an cdv ct) ⟨us, []⟩ = pure (P_two_figures.zip us) := match us, hl with | [_], _ => rfl
theorem mt_written : mtDef fs xs hs N_written P_written fd_written (top 14) = true := by decide +kernel
theorem bd_written (kV doc pm : Value) (an : Option Addr) (cdv ct : Value) (us : List Value) (hl : us.length = P_written.length) : bindArgs (PySem.W.fnOf "written" "written" (defArgs (top 14)) (defBody (top 14)) (defScope (top 14)) .none kV doc pm an cdv ct) ⟨us, []⟩ = pure (P_written.zip us) := match us, hl with | [_, _, _], _ => rfl
theorem mt_with_left : mtDef fs xs hs N_with_left P_with_left fd_with_left (top 15) = true := by decide +kernel
theorem bd_with_left (kV doc pm : Value) (an : Option Addr) (cdv ct : Value) (us : List Value) (hl : us.length = P_with_left.length) : bindArgs (PySem.W.fnOf "with_left" "with_left" (defArgs (top 15)) (defBody (top 15)) (defScope (top 15)) .none kV doc pm an cdv ct) ⟨us, []⟩ = pure (P_with_left.zip us) := match us, hl with | [_, _], _ => rfl
theorem mt_code_text : mtDef fs xs hs N_code_text P_code_text fd_code_text (top 16) = true := by decide +kernel
theorem bd1_code_text (D1 : Addr) (doc pm : Value) (an : Option Addr) (cdv ct : Value) (us ks : List Value) (h1 : us.length = 2) (h2 : ks.length = 1) : KwChain D1 ([("left_out" : Str)].zip ks) (bindArgs (PySem.W.fnOf "code_text" "code_text" (defArgs (top 16)) (defBody (top 16)) (defScope (top 16)) .none (.ref D1) doc pm an cdv ct) ⟨us, []⟩) (P_code_text.zip (us ++ ks)) := match us, h1, ks, h2 with | [_, _], _, [_], _ => ⟨_, _, _, _, _, _, rfl, rfl, rfl⟩
theorem bd2_code_text (kV doc pm : Value) (an : Option Addr) (cdv ct : Value) (us ws : List Value) (h1 : us.length = 2) (h2 : ws.length = 1) : bindArgs (PySem.W.fnOf "code_text" "code_text" (defArgs (top 16)) (defBody (top 16)) (defScope (top 16)) .none kV doc pm an cdv ct) ⟨us, [("left_out" : Str)].zip ws⟩ = pure (P_code_text.zip (us ++ ws)) := match us, h1, ws, h2 with | [_, _], _, [_], _ => rfl
theorem mt_pair_of : mtDef fs xs hs N_pair_of P_pair_of fd_pair_of (top 17) = true := by decide +kernel
theorem bd_pair_of (kV doc pm : Value) (an : Option Addr) (cdv ct : Value) (us : List Value) (hl : us.length = P_pair_of.length) : bindArgs (PySem.W.fnOf "pair_of" "pair_of" (defArgs (top 17)) (defBody (top 17)) (defScope (top 17)) .none kV doc pm an cdv ct) ⟨us, []⟩ = pure (P_pair_of.zip us) := match us, hl with | [_], _ => rfl
theorem mt_read_code : mtDef fs xs hs N_read_code P_read_code fd_read_code (top 18) = true := by decide +kernel
theorem bd_read_code (kV doc pm : Value) (an : Option Addr) (cdv ct : Value) (us : List Value) (hl : us.length = P_read_code.length) : bindArgs (PySem.W.fnOf "read_code" "read_code" (defArgs (top 18)) (defBody (top 18)) (defScope (top 18)) .none kV doc pm an cdv ct) ⟨us, []⟩ = pure (P_read_code.zip us) := match us, hl with | [_, _], _ => rfl
theorem mt_greatest : mtDef fs xs hs N_greatest P_greatest fd_greatest (top 20) = true := by decide +kernel
theorem bd_greatest (kV doc pm : Value) (an : Option Addr) (cdv ct : Value) (us : List Value) (hl : us.length = P_greatest.length) : bindArgs (PySem.W.fnOf "greatest" "greatest" (defArgs (top 20)) (defBody (top 20)) (defScope (top 20)) .none kV doc pm an cdv ct) ⟨us, []⟩ = pure (P_greatest.zip us) := match us, hl with | [_, _], _ => rfl
theorem mt_lowest : mtDef fs xs hs N_lowest P_lowest fd_lowest (top 21) = true := by decide +kernel
theorem bd_lowest (kV doc pm : Value) (an : Option Addr) (cdv ct : Value) (us : List Value) (hl : us.length = P_lowest.length) : bindArgs (PySem.W.fnOf "lowest" "lowest" (defArgs (top 21)) (defBody (top 21)) (defScope (top 21)) .none kV doc pm an cdv ct) ⟨us, []⟩ = pure (P_lowest.zip us) := match us, hl with | [_, _], _ => rfl
theorem mt_times : mtDef fs xs hs N_times P_times fd_times (top 22) = true := by decide +kernel
theorem bd_times (kV doc pm : Value) (an : Option Addr) (cdv ct : Value) (us : List Value) (hl : us.length = P_times.length) : bindArgs (PySem.W.fnOf "times" "times" (defArgs (top 22)) (defBody (top 22)) (defScope (top 22)) .none kV doc pm an cdv ct) ⟨us, []⟩ = pure (P_times.zip us) := match us, hl with | [_, _], _ => rfl
theorem mt_whole_part : mtDef fs xs hs N_whole_part P_whole_part fd_whole_part (top 23) = true := by decide +kernel
theorem bd_whole_part (kV doc pm : Value) (an : Option Addr) (cdv ct : Value) (us : List Value) (hl : us.length = P_whole_part.length) : bindArgs (PySem.W.fnOf "whole_part" "whole_part" (defArgs (top 23)) (defBody (top 23)) (defScope (top 23)) .none kV doc pm an cdv ct) ⟨us, []⟩ = pure (P_whole_part.zip us) := match us, hl with | [_], _ => rfl
theorem mt_moment : mtDef fs xs hs N_moment P_moment fd_moment (top 25) = true := by decide +kernel
theorem bd_moment (kV doc pm : Value) (an : Option Addr) (cdv ct : Value) (us : List Value) (hl : us.length = P_moment.length) : bindArgs (PySem.W.fnOf "moment" "moment" (defArgs (top 25)) (defBody (top 25)) (defScope (top 25)) .none kV doc pm an cdv ct) ⟨us, []⟩ = pure (P_moment.zip us) := match us, hl with | [_, _], _ => rfl
theorem mt_frame_at : mtDef fs xs hs N_frame_at P_frame_at fd_frame_at (top 26) = true := by decide +kernel
theorem bd_frame_at (kV doc pm : Value) (an : Option Addr) (cdv ct : Value) (us : List Value) (hl : us.length = P_frame_at.length) : bindArgs (PySem.W.fnOf "frame_at" "frame_at" (defArgs (top 26)) (defBody (top 26)) (defScope (top 26)) .none kV doc pm an cdv ct) ⟨us, []⟩ = pure (P_frame_at.zip us) := match us, hl with | [_, _], _ => rfl
theorem mt__law_well : mtDef fs xs hs N__law_well P__law_well fd__law_well (top 28) = true := by decide +kernel
theorem bd__law_well (kV doc pm : Value) (an : Option Addr) (cdv ct : Value) (us : List Value) (hl : us.length = P__law_well.length) : bindArgs (PySem.W.fnOf "_law_well" "_law_well" (defArgs (top 28)) (defBody (top 28)) (defScope (top 28)) .none kV doc pm an cdv ct) ⟨us, []⟩ = pure (P__law_well.zip us) := match us, hl with | [_, _], _ => rfl
theorem mt__law_take : mtDef fs xs hs N__law_take P__law_take fd__law_take (top 29) = true := by decide +kernel
theorem bd__law_take (kV doc pm : Value) (an : Option Addr) (cdv ct : Value) (us : List Value) (hl : us.length = P__law_take.length) : bindArgs (PySem.W.fnOf "_law_take" "_law_take" (defArgs (top 29)) (defBody (top 29)) (defScope (top 29)) .none kV doc pm an cdv ct) ⟨us, []⟩ = pure (P__law_take.zip us) := match us, hl with | [_, _], _ => rfl
theorem mt__law_rates : mtDef fs xs hs N__law_rates P__law_rates fd__law_rates (top 30) = true := by decide +kernel
theorem bd__law_rates (kV doc pm : Value) (an : Option Addr) (cdv ct : Value) (us : List Value) (hl : us.length = P__law_rates.length) : bindArgs (PySem.W.fnOf "_law_rates" "_law_rates" (defArgs (top 30)) (defBody (top 30)) (defScope (top 30)) .none kV doc pm an cdv ct) ⟨us, []⟩ = pure (P__law_rates.zip us) := match us, hl with | [], _ => rfl
theorem mt__law_rate : mtDef fs xs hs N__law_rate P__law_rate fd__law_rate (top 31) = true := by decide +kernel
theorem bd__law_rate (kV doc pm : Value) (an : Option Addr) (cdv ct : Value) (us : List Value) (hl : us.length = P__law_rate.length) : bindArgs (PySem.W.fnOf "_law_rate" "_law_rate" (defArgs (top 31)) (defBody (top 31)) (defScope (top 31)) .none kV doc pm an cdv ct) ⟨us, []⟩ = pure (P__law_rate.zip us) := match us, hl with | [_], _ => rfl
theorem mt__law_drop : mtDef fs xs hs N__law_drop P__law_drop fd__law_drop (top 32) = true := by decide +kernel
theorem bd__law_drop (kV doc pm : Value) (an : Option Addr) (cdv ct : Value) (us : List Value) (hl : us.length = P__law_drop.length) : bindArgs (PySem.W.fnOf "_law_drop" "_law_drop" (defArgs (top 32)) (defBody (top 32)) (defScope (top 32)) .none kV doc pm an cdv ct) ⟨us, []⟩ = pure (P__law_drop.zip us) := match us, hl with | [_], _ => rfl
theorem mt_law : mtDef fs xs hs N_law P_law fd_law (top 33) = true := by decide +kernel
theorem bd_law (kV doc pm : Value) (an : Option Addr) (cdv ct : Value) (us : List Value) (hl : us.length = P_law.length) : bindArgs (PySem.W.fnOf "law" "law" (defArgs (top 33)) (defBody (top 33)) (defScope (top 33)) .none kV doc pm an cdv ct) ⟨us, []⟩ = pure (P_law.zip us) := match us, hl with | [_], _ => rfl
theorem hdAll : AllP (fun e => mtDef fs xs hs e.N e.P e.fd e.st = true) ds := ⟨mt_is_int, mt_count_of, mt_left_of, mt_two_figures, mt_written, mt_with_left, mt_code_text, mt_pair_of, mt_read_code, mt_greatest, mt_lowest, mt_times, mt_whole_part, mt_moment, mt_frame_at, mt__law_well, mt__law_take, mt__law_rates, mt__law_rate, mt__law_drop, mt_law, trivial⟩
theorem hfs : ∀ g ∈ fs, (look ds g).isSome = true := by decide +kernel
end RH.S
open PySem PySem.W PyProof.Rows
set_option maxRecDepth 100000 in
set_option maxHeartbeats 0 in
theorem PySem.Challenge.cw_reelhouse_k03_whole_codes_there_and_back_holds : PySem.Challenge.rw_reelhouse_k03_whole_codes_there_and_back.Holds := by
  w_on; o_law; k_head; (case hw => w_witness2)
  k_fill
  refine RH.law_walk (N := 30) (ds := RH.S.ds) (cs := RH.S.cs) (fs := RH.S.fs) (xs := RH.S.xs) (hs := RH.S.hs) (law := ⟨"law", RH.S.fd_law, RH.S.N_law, RH.S.P_law, RH.S.top 33⟩) rfl (by decide) rfl ⟨rfl, by decide, by decide⟩ rfl rfl ?mem rfl (fun w h Y => PySem.W.kIn_of Y) ?T ?hb RH.S.hdAll RH.S.hfs RH.S.plain
  case mem =>
    exact List.Mem.tail _ (List.Mem.tail _ (List.Mem.tail _ (List.Mem.tail _ (List.Mem.tail _ (List.Mem.tail _ (List.Mem.tail _ (List.Mem.tail _ (List.Mem.tail _ (List.Mem.tail _ (List.Mem.tail _ (List.Mem.tail _ (List.Mem.tail _ (List.Mem.tail _ (List.Mem.tail _ (List.Mem.tail _ (List.Mem.tail _ (List.Mem.tail _ (List.Mem.tail _ (List.Mem.tail _ (List.Mem.head _))))))))))))))))))))
  case hb => exact fun kV doc pm an cdv ct u => RH.S.bd_law kV doc pm an cdv ct [u] rfl
  case T =>
    intro w h KX
    refine' ⟨⟨RH.mkF (x := "is_int") (st := RH.S.top 5) (ps := RH.S.P_is_int) rfl ?a0 ?l0 ?c0 ?k0 RH.S.bd_is_int,
      RH.mkF (x := "count_of") (st := RH.S.top 11) (ps := RH.S.P_count_of) rfl ?a1 ?l1 ?c1 ?k1 RH.S.bd_count_of,
      RH.mkF (x := "left_of") (st := RH.S.top 12) (ps := RH.S.P_left_of) rfl ?a2 ?l2 ?c2 ?k2 RH.S.bd_left_of,
      RH.mkF (x := "two_figures") (st := RH.S.top 13) (ps := RH.S.P_two_figures) rfl ?a3 ?l3 ?c3 ?k3 RH.S.bd_two_figures,
      RH.mkF (x := "written") (st := RH.S.top 14) (ps := RH.S.P_written) rfl ?a4 ?l4 ?c4 ?k4 RH.S.bd_written,
      RH.mkF (x := "with_left") (st := RH.S.top 15) (ps := RH.S.P_with_left) rfl ?a5 ?l5 ?c5 ?k5 RH.S.bd_with_left,
      RH.mkFK (x := "code_text") (st := RH.S.top 16) (ps := RH.S.P_code_text) (d := PyData.bool false) rfl ?a6 ?l6 ?c6 ?k6 ?d6 ?e6 rfl RH.S.bd1_code_text RH.S.bd2_code_text,
      RH.mkF (x := "pair_of") (st := RH.S.top 17) (ps := RH.S.P_pair_of) rfl ?a7 ?l7 ?c7 ?k7 RH.S.bd_pair_of,
      RH.mkF (x := "read_code") (st := RH.S.top 18) (ps := RH.S.P_read_code) rfl ?a8 ?l8 ?c8 ?k8 RH.S.bd_read_code,
      RH.mkF (x := "greatest") (st := RH.S.top 20) (ps := RH.S.P_greatest) rfl ?a9 ?l9 ?c9 ?k9 RH.S.bd_greatest,
      RH.mkF (x := "lowest") (st := RH.S.top 21) (ps := RH.S.P_lowest) rfl ?a10 ?l10 ?c10 ?k10 RH.S.bd_lowest,
      RH.mkF (x := "times") (st := RH.S.top 22) (ps := RH.S.P_times) rfl ?a11 ?l11 ?c11 ?k11 RH.S.bd_times,
      RH.mkF (x := "whole_part") (st := RH.S.top 23) (ps := RH.S.P_whole_part) rfl ?a12 ?l12 ?c12 ?k12 RH.S.bd_whole_part,
      RH.mkF (x := "moment") (st := RH.S.top 25) (ps := RH.S.P_moment) rfl ?a13 ?l13 ?c13 ?k13 RH.S.bd_moment,
      RH.mkF (x := "frame_at") (st := RH.S.top 26) (ps := RH.S.P_frame_at) rfl ?a14 ?l14 ?c14 ?k14 RH.S.bd_frame_at,
      RH.mkF (x := "_law_well") (st := RH.S.top 28) (ps := RH.S.P__law_well) rfl ?a15 ?l15 ?c15 ?k15 RH.S.bd__law_well,
      RH.mkF (x := "_law_take") (st := RH.S.top 29) (ps := RH.S.P__law_take) rfl ?a16 ?l16 ?c16 ?k16 RH.S.bd__law_take,
      RH.mkF (x := "_law_rates") (st := RH.S.top 30) (ps := RH.S.P__law_rates) rfl ?a17 ?l17 ?c17 ?k17 RH.S.bd__law_rates,
      RH.mkF (x := "_law_rate") (st := RH.S.top 31) (ps := RH.S.P__law_rate) rfl ?a18 ?l18 ?c18 ?k18 RH.S.bd__law_rate,
      RH.mkF (x := "_law_drop") (st := RH.S.top 32) (ps := RH.S.P__law_drop) rfl ?a19 ?l19 ?c19 ?k19 RH.S.bd__law_drop,
      RH.mkF (x := "law") (st := RH.S.top 33) (ps := RH.S.P_law) rfl ?a20 ?l20 ?c20 ?k20 RH.S.bd_law, trivial⟩,
      ⟨RH.mkC (x := "FIGURES") (d := PyData.str "0123456789") ?ca0 ?cb0,
      RH.mkC (x := "HOURS") (d := PyData.int 100) ?ca1 ?cb1,
      RH.mkC (x := "MINUTES") (d := PyData.int 60) ?ca2 ?cb2,
      RH.mkC (x := "TEN") (d := PyData.int 10) ?ca3 ?cb3, trivial⟩,
      ⟨RH.mkX (x := "NoCode") PySem.F.excBase_ValueError ?xa0 ?xq0 ?xk0 ?xs0 ?xt0, trivial⟩,
      trivial,
      ⟨RH.mkB (x := "len") ?b0, RH.mkB (x := "abs") ?b1, RH.mkB (x := "sum") ?b2, RH.mkB (x := "all") ?b3, RH.mkB (x := "any") ?b4, RH.mkB (x := "sorted") ?b5, RH.mkB (x := "max") ?b6, RH.mkB (x := "min") ?b7, RH.mkB (x := "divmod") ?b8, RH.mkB (x := "list") ?b9, RH.mkB (x := "tuple") ?b10, RH.mkB (x := "int") ?b11, RH.mkB (x := "str") ?b12, RH.mkB (x := "bool") ?b13, RH.mkB (x := "isinstance") ?b14, RH.mkB (x := "range") ?b15, RH.mkB (x := "enumerate") ?b16, RH.mkB (x := "zip") ?b17, RH.mkB (x := "set") ?b18, RH.mkB (x := "reversed") ?b19, RH.mkB (x := "dict") ?b20, trivial⟩, ?nl⟩
    (case a0 => k_is); (case l0 => k_is); (case c0 => k_is); (case k0 => k_is)
    (case a1 => k_is); (case l1 => k_is); (case c1 => k_is); (case k1 => k_is)
    (case a2 => k_is); (case l2 => k_is); (case c2 => k_is); (case k2 => k_is)
    (case a3 => k_is); (case l3 => k_is); (case c3 => k_is); (case k3 => k_is)
    (case a4 => k_is); (case l4 => k_is); (case c4 => k_is); (case k4 => k_is)
    (case a5 => k_is); (case l5 => k_is); (case c5 => k_is); (case k5 => k_is)
    (case a6 => k_is); (case l6 => k_is); (case c6 => k_is); (case k6 => k_is); (case d6 => k_is); (case e6 => kernel_rfl)
    (case a7 => k_is); (case l7 => k_is); (case c7 => k_is); (case k7 => k_is)
    (case a8 => k_is); (case l8 => k_is); (case c8 => k_is); (case k8 => k_is)
    (case a9 => k_is); (case l9 => k_is); (case c9 => k_is); (case k9 => k_is)
    (case a10 => k_is); (case l10 => k_is); (case c10 => k_is); (case k10 => k_is)
    (case a11 => k_is); (case l11 => k_is); (case c11 => k_is); (case k11 => k_is)
    (case a12 => k_is); (case l12 => k_is); (case c12 => k_is); (case k12 => k_is)
    (case a13 => k_is); (case l13 => k_is); (case c13 => k_is); (case k13 => k_is)
    (case a14 => k_is); (case l14 => k_is); (case c14 => k_is); (case k14 => k_is)
    (case a15 => k_is); (case l15 => k_is); (case c15 => k_is); (case k15 => k_is)
    (case a16 => k_is); (case l16 => k_is); (case c16 => k_is); (case k16 => k_is)
    (case a17 => k_is); (case l17 => k_is); (case c17 => k_is); (case k17 => k_is)
    (case a18 => k_is); (case l18 => k_is); (case c18 => k_is); (case k18 => k_is)
    (case a19 => k_is); (case l19 => k_is); (case c19 => k_is); (case k19 => k_is)
    (case a20 => k_is); (case l20 => k_is); (case c20 => k_is); (case k20 => k_is)
    (case ca0 => k_is); (case cb0 => kernel_rfl)
    (case ca1 => k_is); (case cb1 => kernel_rfl)
    (case ca2 => k_is); (case cb2 => kernel_rfl)
    (case ca3 => k_is); (case cb3 => kernel_rfl)
    (case xa0 => k_is); (case xq0 => kernel_rfl); (case xk0 => k_is); (case xs0 => k_is); (case xt0 => k_is)
    (case b0 => k_is)
    (case b1 => k_is)
    (case b2 => k_is)
    (case b3 => k_is)
    (case b4 => k_is)
    (case b5 => k_is)
    (case b6 => k_is)
    (case b7 => k_is)
    (case b8 => k_is)
    (case b9 => k_is)
    (case b10 => k_is)
    (case b11 => k_is)
    (case b12 => k_is)
    (case b13 => k_is)
    (case b14 => k_is)
    (case b15 => k_is)
    (case b16 => k_is)
    (case b17 => k_is)
    (case b18 => k_is)
    (case b19 => k_is)
    (case b20 => k_is)
    (case nl => kernel_rfl)

