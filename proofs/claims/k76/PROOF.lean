import PyProof.Rows.All
import Wide.All
import OpenK.AllK
import Wide.FinOn
import PySem.Builtin.Int.W1All
import PyProof.EqLayable
import KE.DataCmp
import KE.SortData
import KE.DataMinMax
import HandS.ForMost
import HandS.ForExc
import HandS.Gcd
import HandS.IsInst
import HandS.Conv
import HandS.Deep
import HandS.Flow
import HandS.Style
import HandS.TupAny
import HandS.WordsExc
import HandS.Wide
import HandS.HeadHook2
import KE.GoesEnum
import HandS.Iter
import HandS.SortInts
import KE.KTupSum
import PyProof.Rows.SortShell
import HandS.TupSets
import HandS.SetFor
import HandS.TupMul
import HandS.ExcIs
import KE.KStateDown
import HandS.Head0
import HandS.Head1
import HandS.Head2
import HandS.Head3
import HandS.HeadEnd
import HandS.HeadHook1
import HandS.Rev
import HandS.RevTup
import PySem.Challenge.RW_needlehouse_k76_whole_fewest_sizes
set_option Elab.async false
set_option linter.all false
/-! The D semantics: what the constructs compute, as plain functions over PyData. -/
namespace DL
open PySem

abbrev Da := PyData

inductive R (α : Type) where
  | ok (a : α)
  | exc (c : Str)
  | bad

def R.bind {α β : Type} : R α → (α → R β) → R β
  | .ok a, f => f a
  | .exc c, _ => .exc c
  | .bad, _ => .bad

@[simp] theorem R.bind_ok {α β : Type} (a : α) (f : α → R β) : (R.ok a).bind f = f a := by unfold R.bind; rfl
@[simp] theorem R.bind_exc {α β : Type} (c : Str) (f : α → R β) : (R.exc c : R α).bind f = .exc c := by unfold R.bind; rfl
@[simp] theorem R.bind_bad {α β : Type} (f : α → R β) : (R.bad : R α).bind f = .bad := by unfold R.bind; rfl
theorem R.bind_assoc {α β γ : Type} (r : R α) (f : α → R β) (g : β → R γ) : (r.bind f).bind g = r.bind fun a => (f a).bind g := by
  cases r <;> rfl
abbrev Ev := List (Option Da)
abbrev SE := Ev → R Da
abbrev SA := Ev → R (List Da)
abbrev STg := Da → Ev → R Ev
inductive Out where
  | nx (ρ : Ev)
  | rt (d : Da)
abbrev SS := Ev → R Out

/-! ### expressions -/
def vGet : Option (Option Da) → R Da
  | some (some d) => .ok d
  | _ => .bad
@[simp] theorem vGet_some (d : Da) : vGet (some (some d)) = .ok d := rfl
@[simp] def eVar (i : Nat) : SE := fun ρ => vGet ρ[i]?
@[simp] def eC (d : Da) : SE := fun _ => .ok d
@[simp] def aNil : SA := fun _ => .ok []
@[simp] def aCons (a : SE) (r : SA) : SA := fun ρ => (a ρ).bind fun x => (r ρ).bind fun xs => .ok (x :: xs)
@[simp] def e1 (f : Da → R Da) (a : SE) : SE := fun ρ => (a ρ).bind f
@[simp] def e2 (f : Da → Da → R Da) (a b : SE) : SE := fun ρ => (a ρ).bind fun x => (b ρ).bind fun y => f x y
@[simp] def eA (f : List Da → R Da) (a : SA) : SE := fun ρ => (a ρ).bind f

def big : Nat := 16777216
/-- truth -/
def tru : Da → Bool
  | .none => false
  | .bool b => b
  | .int i => i != 0
  | .str s => s.length != 0
  | .list xs => !xs.isEmpty
  | .tuple xs => !xs.isEmpty
  | .dict kvs => !kvs.isEmpty
@[simp] theorem tru_none : tru .none = false := rfl
@[simp] theorem tru_bool (b : Bool) : tru (.bool b) = b := rfl
@[simp] theorem tru_int (i : Int) : tru (.int i) = (i != 0) := rfl
@[simp] theorem tru_list (xs : List Da) : tru (.list xs) = !xs.isEmpty := rfl
@[simp] theorem tru_tuple (xs : List Da) : tru (.tuple xs) = !xs.isEmpty := rfl

def mulOk (i j : Int) : Bool := decide (i.natAbs < 18446744073709551616) || (decide (j.natAbs < 18446744073709551616) || decide (i.natAbs.log2 + j.natAbs.log2 < 1000000))
def dAdd : Da → Da → R Da
  | .int i, .int j => .ok (.int (i + j))
  | .str x, .str y => if x.length + y.length ≤ big then .ok (.str (x ++ y)) else .bad
  | .list x, .list y => if x.length + y.length ≤ big then .ok (.list (x ++ y)) else .bad
  | .tuple x, .tuple y => if x.length + y.length ≤ big then .ok (.tuple (x ++ y)) else .bad
  | _, _ => .bad
def dSub : Da → Da → R Da
  | .int i, .int j => .ok (.int (i - j))
  | _, _ => .bad
def mulI : Da → Da → R Da
  | .int i, .int j => if mulOk i j then .ok (.int (i * j)) else .bad
  | _, _ => .bad
def addI : Da → Da → R Da
  | .int i, .int j => .ok (.int (i + j))
  | _, _ => .bad
def repD : Da → Da → R Da
  | .list x, .int k => if x.length * k.toNat ≤ big ∧ k.natAbs < 9223372036854775808 then .ok (.list (List.replicate k.toNat x).flatten) else .bad
  | _, _ => .bad
def dDiv : Da → Da → R Da
  | .int i, .int j => if j ≠ 0 ∧ j.natAbs < 1073741824 then .ok (.int (i.fdiv j)) else .bad
  | _, _ => .bad
def dMod : Da → Da → R Da
  | .int i, .int j => if j ≠ 0 then .ok (.int (i.fmod j)) else .bad
  | _, _ => .bad
def dPow : Da → Da → R Da
  | .int i, .int j => if 0 ≤ j ∧ j ≤ 1000000 ∧ i.natAbs < 2 ^ 64 then .ok (.int (i ^ j.toNat)) else .bad
  | _, _ => .bad
def dAnd : Da → Da → R Da
  | .int i, .int j => .ok (.int (Builtin.bitAnd i j))
  | _, _ => .bad
def dNeg : Da → R Da
  | .int i => .ok (.int (-i))
  | _ => .bad
def dCmp (p : Int → Int → Bool) : Da → Da → R Da
  | .int i, .int j => .ok (.bool (p i j))
  | _, _ => .bad
abbrev dLt := dCmp fun i j => decide (i < j)
abbrev dLe := dCmp fun i j => decide (i ≤ j)
abbrev dGt := dCmp fun i j => decide (j < i)
abbrev dGe := dCmp fun i j => decide (j ≤ i)
/-- == : scalars at once, else data of any depth -/
def eqD (a b : Da) : R Bool := if SeqAt.shaped a && SeqAt.shaped b then .ok (PyData.eqv a b) else .bad
def dEq : Da → Da → R Da
  | .int i, .int j => .ok (.bool (decide (i = j)))
  | .bool i, .bool j => .ok (.bool (decide (i = j)))
  | .str i, .str j => .ok (.bool (decide (i = j)))
  | .none, .none => .ok (.bool true)
  | .none, .int _ => .ok (.bool false)
  | .int _, .none => .ok (.bool false)
  | a, b => (eqD a b).bind fun k => .ok (.bool k)
def rNot : R Da → R Da
  | .ok (.bool b) => .ok (.bool (!b))
  | .ok _ => .bad
  | .exc c => .exc c
  | .bad => .bad
def dNe (a b : Da) : R Da := rNot (dEq a b)
def isNone : Da → Bool
  | .none => true
  | _ => false
def dIsN (a : Da) : R Da := .ok (.bool (isNone a))
def dNotN (a : Da) : R Da := .ok (.bool (!isNone a))
def dIsB (k : Bool) : Da → R Da
  | .bool b => .ok (.bool (decide (b = k)))
  | _ => .bad
def dIsNotB (k : Bool) : Da → R Da
  | .bool b => .ok (.bool (!decide (b = k)))
  | _ => .bad
def inD (x : Da) (xs : List Da) : R Bool := if SeqAt.shaped x && SeqAt.shaped (.list xs) then .ok (xs.any fun z => PyData.eqv z x) else .bad
def dIn (x : Da) : Da → R Da
  | .list xs => (inD x xs).bind fun k => .ok (.bool k)
  | .tuple xs => (inD x xs).bind fun k => .ok (.bool k)
  | _ => .bad
def dNotIn (x y : Da) : R Da := rNot (dIn x y)
def dNot (a : Da) : R Da := .ok (.bool (!tru a))
@[simp] def eAnd (a b : SE) : SE := fun ρ => (a ρ).bind fun x => if tru x then b ρ else .ok x
@[simp] def eOr (a b : SE) : SE := fun ρ => (a ρ).bind fun x => if tru x then .ok x else b ρ
@[simp] def eIf (c a b : SE) : SE := fun ρ => (c ρ).bind fun x => if tru x then a ρ else b ρ
def chB (r : Da) (k : R Da) : R Da := match r with
  | .bool true => k
  | .bool false => .ok (.bool false)
  | _ => .bad
@[simp] theorem chB_bool (b : Bool) (k : R Da) : chB (.bool b) k = if b then k else .ok (.bool false) := by cases b <;> rfl
@[simp] def eChain (f g : Da → Da → R Da) (a b c : SE) : SE := fun ρ => (a ρ).bind fun x => (b ρ).bind fun y => (f x y).bind fun r => chB r ((c ρ).bind fun z => g y z)

/-! ### places -/
def sIxD (n d : Nat) : Option Int → Nat
  | none => d
  | some v => if v < 0 then (v + (n : Int)).toNat else min v.toNat n
def atD {α : Type} (xs : List α) (i : Int) : Option α := if 0 ≤ i then xs[i.toNat]? else if -(xs.length : Int) ≤ i then xs[(i + xs.length).toNat]? else none
def oR {α : Type} : Option α → R α
  | some a => .ok a
  | none => .bad
@[simp] theorem oR_some {α : Type} (a : α) : oR (some a) = .ok a := rfl
def keyEq (a b : Da) : Bool := PyData.eqv a b
def lookD (kvs : List (Da × Da)) (k : Da) : Option Da := (kvs.find? fun p => keyEq p.1 k).map (·.2)
def dIx : Da → Da → R Da
  | .list xs, .int i => oR (atD xs i)
  | .tuple xs, .int i => oR (atD xs i)
  | _, _ => .bad
def cutD {α : Type} (xs : List α) (lo hi : Option Int) : List α := (xs.drop (sIxD xs.length 0 lo)).take (sIxD xs.length xs.length hi - sIxD xs.length 0 lo)
def dSl (lo hi : Option Int) : Da → R Da
  | .list xs => .ok (.list (cutD xs lo hi))
  | .tuple xs => .ok (.tuple (cutD xs lo hi))
  | _ => .bad
abbrev SO := Ev → R (Option Int)
@[simp] def oNone : SO := fun _ => .ok none
def toI : Da → R Int
  | .int i => .ok i
  | _ => .bad
@[simp] theorem toI_int (i : Int) : toI (.int i) = .ok i := rfl
@[simp] def oSome (a : SE) : SO := fun ρ => (a ρ).bind fun x => (toI x).bind fun i => .ok (some i)
@[simp] def eSl (a : SE) (lo hi : SO) : SE := fun ρ => (a ρ).bind fun x => (lo ρ).bind fun l => (hi ρ).bind fun h => dSl l h x
def dRev : Da → R Da
  | .list xs => .ok (.list xs.reverse)
  | .tuple xs => .ok (.tuple xs.reverse)
  | _ => .bad
@[simp] def eTup (a : SA) : SE := fun ρ => (a ρ).bind fun xs => .ok (.tuple xs)
@[simp] def eLst (a : SA) : SE := fun ρ => (a ρ).bind fun xs => .ok (.list xs)

/-! ### targets, slots -/
@[simp] def gVar (i : Nat) : STg := fun d ρ => .ok (ρ.set i (some d))
def gEach : List STg → List Da → Ev → R Ev
  | [], [], ρ => .ok ρ
  | g :: gs, d :: ds, ρ => (g d ρ).bind fun ρ' => gEach gs ds ρ'
  | _, _, _ => .bad
@[simp] theorem gEach_nil (ρ : Ev) : gEach [] [] ρ = .ok ρ := rfl
@[simp] theorem gEach_cons (g : STg) (gs : List STg) (d : Da) (ds : List Da) (ρ : Ev) : gEach (g :: gs) (d :: ds) ρ = (g d ρ).bind fun ρ' => gEach gs ds ρ' := rfl
def gTupD (gs : List STg) : STg := fun d ρ => match d with
  | .tuple ds => gEach gs ds ρ
  | _ => .bad
@[simp] theorem gTupD_tuple (gs : List STg) (ds : List Da) (ρ : Ev) : gTupD gs (.tuple ds) ρ = gEach gs ds ρ := rfl
def kill (ρ : Ev) : List Nat → Ev
  | [] => ρ
  | i :: is => (kill ρ is).set i none
@[simp] theorem kill_nil (ρ : Ev) : kill ρ [] = ρ := rfl
@[simp] theorem kill_cons (ρ : Ev) (i : Nat) (is : List Nat) : kill ρ (i :: is) = (kill ρ is).set i none := rfl

/-! ### what is walked -/
abbrev SI := Ev → R (List Da)
def toL : Da → R (List Da)
  | .list xs => .ok xs
  | .tuple xs => .ok xs
  | _ => .bad
@[simp] theorem toL_list (xs : List Da) : toL (.list xs) = .ok xs := rfl
@[simp] theorem toL_tuple (xs : List Da) : toL (.tuple xs) = .ok xs := rfl
@[simp] def iL (a : SE) : SI := fun ρ => (a ρ).bind toL
def rngD (lo : Int) (n : Nat) : List Da := (List.range n).map fun k => .int (lo + (k : Nat))
def dRng (lo hi : Int) : R (List Da) := if lo.natAbs < 4611686018427387904 ∧ hi.natAbs < 4611686018427387904 ∧ (hi - lo).toNat ≤ big then .ok (rngD lo (hi - lo).toNat) else .bad
@[simp] def iRng1 (a : SE) : SI := fun ρ => (a ρ).bind fun x => (toI x).bind fun n => dRng 0 n
@[simp] def iRng2 (a b : SE) : SI := fun ρ => (a ρ).bind fun x => (b ρ).bind fun y => (toI x).bind fun i => (toI y).bind fun j => dRng i j
def enumD (k : Nat) : List Da → List Da
  | [] => []
  | x :: xs => .tuple [.int (k : Int), x] :: enumD (k + 1) xs
@[simp] def iEnum (a : SE) : SI := fun ρ => (a ρ).bind fun x => (toL x).bind fun xs => .ok (enumD 0 xs)
def zipD : List Da → List Da → List Da
  | x :: xs, y :: ys => .tuple [x, y] :: zipD xs ys
  | _, _ => []
@[simp] def iZip (a b : SE) : SI := fun ρ => (a ρ).bind fun x => (b ρ).bind fun y => (toL x).bind fun xs => (toL y).bind fun ys => .ok (zipD xs ys)

theorem rngC {lo hi : Int} (h : lo.natAbs < 4611686018427387904 ∧ hi.natAbs < 4611686018427387904 ∧ (hi - lo).toNat ≤ big) : -(2 ^ 62) ≤ lo ∧ lo < 2 ^ 62 ∧ -(2 ^ 62) ≤ hi ∧ hi < 2 ^ 62 ∧ (hi - lo).toNat ≤ big := by
  obtain ⟨h1, h2, h3⟩ := h
  omega

/-! ### comprehensions -/
def lcL (f : Da → R (Option Da)) : List Da → R (List Da)
  | [] => .ok []
  | x :: xs => match f x with
    | .ok y => (match lcL f xs with
      | .ok ys => .ok (match y with
        | none => ys
        | some v => v :: ys)
      | _ => .bad)
    | _ => .bad
@[simp] def eYes : SE := fun _ => .ok (.bool true)
def lcF (tg : STg) (own : List Nat) (te el : SE) (ρ : Ev) : Da → R (Option Da) := fun x => (tg x (kill ρ own)).bind fun ρ1 => (te ρ1).bind fun b => if tru b then (el ρ1).bind fun v => .ok (some v) else .ok none
def eLc (it : SI) (tg : STg) (own : List Nat) (te el : SE) : SE := fun ρ => (it ρ).bind fun xs => (lcL (lcF tg own te el ρ) xs).bind fun ys => .ok (.list ys)

/-- two for's -/
def lcL2 (f : Da → R (List Da)) : List Da → R (List Da)
  | [] => .ok []
  | x :: xs => match f x with
    | .ok ys => (match lcL2 f xs with
      | .ok zs => .ok (ys ++ zs)
      | _ => .bad)
    | _ => .bad
def lcF2 (tg : STg) (own : List Nat) (te : SE) (it1 : SI) (tg1 : STg) (vs1 : List Nat) (te1 el : SE) (ρ : Ev) : Da → R (List Da) := fun x => (tg x (kill ρ own)).bind fun ρ1 => (te ρ1).bind fun b => if tru b then (it1 ρ1).bind fun xs => lcL (lcF tg1 vs1 te1 el ρ1) xs else .ok []
def eLc2 (it : SI) (tg : STg) (own : List Nat) (te : SE) (it1 : SI) (tg1 : STg) (vs1 : List Nat) (te1 el : SE) : SE := fun ρ => (it ρ).bind fun xs => (lcL2 (lcF2 tg own te it1 tg1 vs1 te1 el ρ) xs).bind fun ys => if ys.length ≤ big then .ok (.list ys) else .bad

/-! ### built-ins -/
def dLen : List Da → R Da
  | [.list xs] => .ok (.int (xs.length : Nat))
  | [.tuple xs] => .ok (.int (xs.length : Nat))
  | _ => .bad
def dAbs : List Da → R Da
  | [.int i] => .ok (.int (if i < 0 then -i else i))
  | _ => .bad
def dMax2 : List Da → R Da
  | [.int i, .int j] => .ok (.int (if j > i then j else i))
  | _ => .bad
def dMin2 : List Da → R Da
  | [.int i, .int j] => .ok (.int (if j < i then j else i))
  | _ => .bad
def intsD : List Da → R (List Int)
  | [] => .ok []
  | .int i :: r => (intsD r).bind fun is => .ok (i :: is)
  | _ => .bad
def blsD : List Da → R (List Bool)
  | [] => .ok []
  | .bool i :: r => (blsD r).bind fun is => .ok (i :: is)
  | _ => .bad
def minI : List Int → R Int
  | [] => .bad
  | x :: xs => .ok (xs.foldl min x)
def maxI : List Int → R Int
  | [] => .bad
  | x :: xs => .ok (xs.foldl max x)
def dSumL : List Da → R Da
  | [.list xs] => (intsD xs).bind fun is => .ok (.int is.sum)
  | [.tuple xs] => (intsD xs).bind fun is => .ok (.int is.sum)
  | _ => .bad
def dMinL : List Da → R Da
  | [.list xs] => (intsD xs).bind fun is => (minI is).bind fun m => .ok (.int m)
  | _ => .bad
def dMaxL : List Da → R Da
  | [.list xs] => (intsD xs).bind fun is => (maxI is).bind fun m => .ok (.int m)
  | _ => .bad
/-! data in order: all of one kind, place by place -/
def someD : Da → Bool
  | .none => false
  | _ => true
def alkB (xs : List Da) : Bool := xs.all (fun x => xs.all fun y => PySem.W.alike x y) && (xs.all someD && (decide (PyData.depthAll xs ≤ 50) && PyData.canLayAll0 xs))
def tupD1 : Da → Bool
  | .tuple (_ :: _) => true
  | _ => false
def othD1 : Da → Bool
  | .none => false
  | .tuple _ => false
  | _ => true
def srtB (xs : List Da) : Bool := xs.all tupD1 || xs.all othD1
def minG : List Da → R Da
  | [] => .bad
  | x :: xs => if alkB (x :: xs) then .ok (PySem.W.minD x xs) else .bad
def maxG : List Da → R Da
  | [] => .bad
  | x :: xs => if alkB (x :: xs) then .ok (PySem.W.maxD x xs) else .bad
def dMinG : List Da → R Da
  | [.list xs] => minG xs
  | [.tuple xs] => minG xs
  | _ => .bad
def dMaxG : List Da → R Da
  | [.list xs] => maxG xs
  | [.tuple xs] => maxG xs
  | _ => .bad
def dSortG : List Da → R Da
  | [.list xs] => if alkB xs && srtB xs then .ok (.list (xs.mergeSort (PySem.W.dataLe false id))) else .bad
  | _ => .bad
/-- a < b of data -/
def dLtG (a b : Da) : R Da := if alkB [a, b] then .ok (.bool (PySem.W.dataLt a b)) else .bad
def dGtG (a b : Da) : R Da := if alkB [a, b] then .ok (.bool (PySem.W.dataLt b a)) else .bad
def dLeG (a b : Da) : R Da := if alkB [a, b] then .ok (.bool (!PySem.W.dataLt b a)) else .bad
def dGeG (a b : Da) : R Da := if alkB [a, b] then .ok (.bool (!PySem.W.dataLt a b)) else .bad
def dAll : List Da → R Da
  | [.list xs] => (blsD xs).bind fun bs => .ok (.bool (bs.all id))
  | _ => .bad
def dAny : List Da → R Da
  | [.list xs] => (blsD xs).bind fun bs => .ok (.bool (bs.any id))
  | _ => .bad
def dInt : List Da → R Da
  | [.int i] => .ok (.int i)
  | [.bool b] => .ok (.int (if b then 1 else 0))
  | _ => .bad
def dTuple : List Da → R Da
  | [.list xs] => .ok (.tuple xs)
  | [.tuple xs] => .ok (.tuple xs)
  | _ => .bad
def dList : List Da → R Da
  | [.list xs] => .ok (.list xs)
  | [.tuple xs] => .ok (.list xs)
  | _ => .bad
def dGcd : List Da → R Da
  | [.int i, .int j] => .ok (.int (Nat.gcd i.natAbs j.natAbs : Nat))
  | _ => .bad
@[simp] def eTupI (it : SI) : SE := fun ρ => (it ρ).bind fun xs => .ok (.tuple xs)
@[simp] def eLstI (it : SI) : SE := fun ρ => (it ρ).bind fun xs => .ok (.list xs)
inductive Ty where
  | int | bool | str | tuple | list | dict
def isTy : Ty → Da → Bool
  | .int, .int _ => true
  | .int, .bool _ => true
  | .bool, .bool _ => true
  | .str, .str _ => true
  | .tuple, .tuple _ => true
  | .list, .list _ => true
  | .dict, .dict _ => true
  | _, _ => false
def dIsi (t : Ty) (a : Da) : R Da := .ok (.bool (isTy t a))

/-! data without a list in it -/
mutual
def noL : Da → Bool
  | .none => true
  | .bool _ => true
  | .int _ => true
  | .str _ => true
  | .tuple xs => noLs xs
  | .list _ => false
  | .dict _ => false
def noLs : List Da → Bool
  | [] => true
  | x :: xs => noL x && noLs xs
end
def noR (d : Da) : R Da := if noL d then .ok d else .bad

/-! ### statements -/
@[simp] def sNx : SS := fun ρ => .ok (.nx ρ)
def andThen (o : Out) (b : SS) : R Out := match o with
  | .nx ρ => b ρ
  | .rt d => .ok (.rt d)
@[simp] theorem andThen_nx (ρ : Ev) (b : SS) : andThen (.nx ρ) b = b ρ := rfl
@[simp] theorem andThen_rt (d : Da) (b : SS) : andThen (.rt d) b = .ok (.rt d) := rfl
@[simp] def sSeq (a b : SS) : SS := fun ρ => (a ρ).bind fun o => andThen o b
@[simp] def sAsg (g : STg) (e : SE) : SS := fun ρ => (e ρ).bind fun d => (g d ρ).bind fun ρ' => .ok (.nx ρ')
@[simp] def sIf (c : SE) (a b : SS) : SS := fun ρ => (c ρ).bind fun x => if tru x then a ρ else b ρ
@[simp] def sRet (e : SE) : SS := fun ρ => (e ρ).bind fun d => .ok (.rt d)
@[simp] def sExpr (e : SE) : SS := fun ρ => (e ρ).bind fun _ => .ok (.nx ρ)
@[simp] def sRaise (c : Str) : SS := fun _ => .exc c
/-- x = e, e a new list of the def's own -/
def asL : Da → R Da
  | .list xs => .ok (.list xs)
  | _ => .bad
@[simp] theorem asL_list (xs : List Da) : asL (.list xs) = .ok (.list xs) := rfl
@[simp] def sOwn (i : Nat) (e : SE) : SS := fun ρ => (e ρ).bind fun d => (asL d).bind fun d => if i < ρ.length then .ok (.nx (ρ.set i (some d))) else .bad
/-- a, b = x, y; the flags: owned from then on -/
def asO (o : Bool) (d : Da) : R Da := match o with | true => asL d | false => .ok d
@[simp] theorem asO_t (d : Da) : asO true d = asL d := rfl
@[simp] theorem asO_f (d : Da) : asO false d = .ok d := rfl
@[simp] def sPr (oi oj : Bool) (i j : Nat) (a b : SE) : SS := fun ρ => (a ρ).bind fun x => (asO oi x).bind fun x => (b ρ).bind fun y => (asO oj y).bind fun y => if i < ρ.length ∧ j < ρ.length then .ok (.nx ((ρ.set i (some x)).set j (some y))) else .bad
/-- nothing is let out -/
def nox {α : Type} : R α → R α
  | .ok a => .ok a
  | _ => .bad
@[simp] theorem nox_ok {α : Type} (a : α) : nox (.ok a : R α) = .ok a := rfl
@[simp] def sNox (a : SS) : SS := fun ρ => nox (a ρ)
/-- slots forgotten ahead of a statement -/
@[simp] def sWk (k : List Nat) (a : SS) : SS := fun ρ => a (kill ρ k)
/-- .. behind it -/
@[simp] def sPost (k : List Nat) (a : SS) : SS := fun ρ => (a ρ).bind fun o => .ok (match o with
  | .nx ρ' => .nx (kill ρ' k)
  | .rt d => .rt d)
def forL (g : STg) (body : SS) : List Da → SS
  | [], ρ => .ok (.nx ρ)
  | x :: xs, ρ => (g x ρ).bind fun ρ1 => (body ρ1).bind fun o => andThen o (forL g body xs)
@[simp] def sFor (it : SI) (g : STg) (body : SS) : SS := fun ρ => (it ρ).bind fun xs => forL g body xs ρ
def whileF (c : SE) (body : SS) : Nat → SS
  | 0, _ => .bad
  | n + 1, ρ => (c ρ).bind fun x => if tru x then (body ρ).bind fun o => andThen o (whileF c body n) else .ok (.nx ρ)
def fuel : Nat := 1000000000
def sWhile (c : SE) (body : SS) : SS := whileF c body fuel
def updE (ρ : Ev) (i : Nat) (f : Da → R Da) : R Out := (vGet ρ[i]?).bind fun d => (f d).bind fun d' => .ok (.nx (ρ.set i (some d')))
def appD (x : Da) : Da → R Da
  | .list xs => if xs.length < big then .ok (.list (xs ++ [x])) else .bad
  | _ => .bad
@[simp] def sAppend (i : Nat) (e : SE) : SS := fun ρ => (e ρ).bind fun x => updE ρ i (appD x)
def ixD (n : Nat) (i : Int) : Option Nat := if 0 ≤ i then (if i < n then some i.toNat else none) else if -(n : Int) ≤ i then some (i + n).toNat else none
def setD (k v : Da) : Da → R Da
  | .list xs => (toI k).bind fun i => (oR (ixD xs.length i)).bind fun j => .ok (.list (xs.set j v))
  | _ => .bad
@[simp] def sSet (i : Nat) (k e : SE) : SS := fun ρ => (e ρ).bind fun v => (k ρ).bind fun j => updE ρ i (setD j v)

/-- x[k] += e -/
@[simp] def sAugI (i : Nat) (k e : SE) : SS := fun ρ => (k ρ).bind fun j => (vGet ρ[i]?).bind fun d => (dIx d j).bind fun x => (e ρ).bind fun y => (addI x y).bind fun z => updE ρ i (setD j z)
/-- x.pop() -/
def popD : Da → R Da
  | .list [] => .bad
  | .list (x :: xs) => .ok (.list (x :: xs).dropLast)
  | _ => .bad
@[simp] def sPop (i : Nat) : SS := fun ρ => updE ρ i popD
/-- sorted(..) of whole numbers -/
def insI (x : Int) : List Int → List Int
  | [] => [x]
  | y :: ys => if x ≤ y then x :: y :: ys else y :: insI x ys
def sortI (l : List Int) : List Int := l.foldr insI []
def dSorted : List Da → R Da
  | [.list xs] => (intsD xs).bind fun is => .ok (.list ((sortI is).map PyData.int))
  | [.tuple xs] => (intsD xs).bind fun is => .ok (.list ((sortI is).map PyData.int))
  | _ => .bad
/-- a text times 0 or 1 -/
def repS : Da → Da → R Da
  | .str x, .int k => if k = 0 then .ok (.str Str.empty) else if k = 1 then .ok (.str x) else .bad
  | _, _ => .bad
/-- a tuple times 1 or more -/
def repT : Da → Da → R Da
  | .tuple xs, .int k => if xs.length ≤ 1000 ∧ 1 ≤ xs.length ∧ 1 ≤ k ∧ k.natAbs ≤ 1000 then .ok (.tuple (List.replicate k.toNat xs).flatten) else if k = 0 ∨ (xs.length = 0 ∧ k.natAbs ≤ 1000) then .ok (.tuple []) else .bad
  | _, _ => .bad
/-- len(set(..)) of whole numbers -/
def ddI (l : List Int) : List Int := l.foldr (fun x acc => if x ∈ acc then acc else x :: acc) []
def dLenSet : Da → R Da
  | .list xs => (intsD xs).bind fun is => if is.length < 4000 then .ok (.int ((ddI is).length : Nat)) else .bad
  | .tuple xs => (intsD xs).bind fun is => if is.length < 4000 then .ok (.int ((ddI is).length : Nat)) else .bad
  | _ => .bad
/-- range(a, b, c), c > 0 -/
def rng3D (lo c : Int) (n : Nat) : List Da := (List.range n).map fun k => .int (lo + (k : Nat) * c)
def r3n (lo hi c : Int) : Nat := if lo < hi then ((hi - lo - 1) / c + 1).toNat else 0
def dRng3 (lo hi c : Int) : R (List Da) := if lo.natAbs < 1073741824 ∧ hi.natAbs < 1073741824 ∧ 0 < c ∧ c.natAbs < 1073741824 ∧ r3n lo hi c ≤ big then .ok (rng3D lo c (r3n lo hi c)) else if c = -1 ∧ lo.natAbs < 1073741824 ∧ hi.natAbs < 1073741824 ∧ (lo - hi).toNat ≤ big then .ok (rng3D lo (-1) (lo - hi).toNat) else .bad
@[simp] def iRng3 (a b c : SE) : SI := fun ρ => (a ρ).bind fun x => (b ρ).bind fun y => (c ρ).bind fun z => (toI x).bind fun i => (toI y).bind fun j => (toI z).bind fun k => dRng3 i j k
/-- a, b = e, f -/
def sPar2 (i j : Nat) (ρ : Ev) : List Da → R Out
  | [x, y] => .ok (.nx ((ρ.set i (some x)).set j (some y)))
  | _ => .bad
@[simp] theorem sPar2_ (i j : Nat) (ρ : Ev) (x y : Da) : sPar2 i j ρ [x, y] = .ok (.nx ((ρ.set i (some x)).set j (some y))) := rfl
@[simp] def sPar (i j : Nat) (a : SA) : SS := fun ρ => (a ρ).bind fun ds => sPar2 i j ρ ds

/-- try: b / except ..: the answer is the class's -/
def sTry (b : SS) (ok : List Str) (hv : Str → Da) : SS := fun ρ => match b ρ with
  | .exc c => if c ∈ ok then .ok (.rt (hv c)) else .bad
  | r => r

def runDef (n : Nat) (body : SS) (ds : List Da) : R Da := (body (ds.map some ++ List.replicate (n - ds.length) none)).bind fun o => match o with
  | .nx _ => .ok .none
  | .rt d => .ok d
end DL
set_option Elab.async false
set_option linter.all false
set_option maxRecDepth 100000
/-! The D layer's relation: values by value against the abstract heap; ownership of local lists. -/
namespace DL
open PySem PySem.Spec PyProof.Rows L2

theorem big_line : big = sizeLine := by rw [sizeLine_eq] <;> rfl

def KLs (K : PySem.W.Frag) (a : Addr) (xs : List V) : Prop := ∃ (o : Obj) (its : Array Value) (n : Nat), K.lookup a = some o ∧ o.cls = .type "list" ∧ o.dict = none ∧ o.data = .seq its n ∧ its.size ≤ sizeLine ∧ Vals xs its.toList
def LsR (K : PySem.W.Frag) (H : Hp) (O : List Addr) (a : Addr) (xs : List V) : Prop := (Rd H a (.lst xs) ∧ a ∉ O) ∨ KLs K a xs
theorem LsR.sq {K : PySem.W.Frag} {H : Hp} {O : List Addr} {a : Addr} {xs : List V} (h : LsR K H O a xs) : SqL K H a xs := by
  rcases h with h | h
  · exact .inl h.1
  · exact .inr h

mutual
inductive Rp (K : PySem.W.Frag) (H : Hp) (O : List Addr) : V → PyData → Prop
  | non : Rp K H O .non .none
  | bl (b : Bool) : Rp K H O (.bl b) (.bool b)
  | int (i : Int) : Rp K H O (.int i) (.int i)
  | str (x : Str) (h : x.length ≤ big) : Rp K H O (.str x) (.str x)
  | lst {a : Addr} {xs : List V} {ds : List PyData} (h : LsR K H O a xs) (n : ds.length ≤ big) (r : RpAll K H O xs ds) : Rp K H O (.ref a) (.list ds)
  | tup {a : Addr} {xs : List V} {ds : List PyData} (h : SqT K H a xs) (n : ds.length ≤ big) (r : RpAll K H O xs ds) : Rp K H O (.ref a) (.tuple ds)
inductive RpAll (K : PySem.W.Frag) (H : Hp) (O : List Addr) : List V → List PyData → Prop
  | nil : RpAll K H O [] []
  | cons {v : V} {vs : List V} {d : PyData} {ds : List PyData} (h : Rp K H O v d) (t : RpAll K H O vs ds) : RpAll K H O (v :: vs) (d :: ds)
end

def mutO : HO → Bool
  | .lst _ => true
  | .dK _ => true
  | .dT _ => true
  | .set _ _ => true
  | .ins _ _ _ => true
  | .ext _ => true
  | _ => false
/-- all but the mutable objects at G are kept -/
def Keep (G : List Addr) (H H' : Hp) : Prop := ∀ b o, H b = some o → (b ∈ G → mutO o = false) → H' b = some o
theorem Keep.of_same {G : List Addr} {H H' : Hp} (s : Same H H') : Keep G H H' := fun b o e _ => s b o e
theorem Keep.refl {G : List Addr} (H : Hp) : Keep G H H := fun _ _ e _ => e
theorem Keep.nil {H H' : Hp} (k : Keep [] H H') : Same H H' := fun b o e => k b o e (fun z => nomatch z)
/-- the mutable objects may have changed at G, which O holds; O' are the owned ones then -/
structure Grow (G O O' : List Addr) (H H' : Hp) : Prop where
  keep : Keep G H H'
  sub : ∀ b, b ∈ G → b ∈ O
  new : ∀ b, b ∈ O' → b ∈ O ∨ H b = none
theorem Grow.same {O : List Addr} {H H' : Hp} (s : Same H H') : Grow [] O O H H' := ⟨.of_same s, fun _ h => (nomatch h), fun _ h => .inl h⟩
theorem Grow.sub_ {O O' : List Addr} {H H' : Hp} (s : Same H H') (h : ∀ b, b ∈ O' → b ∈ O) : Grow [] O O' H H' := ⟨.of_same s, fun _ h => (nomatch h), fun b hb => .inl (h b hb)⟩

section
variable {K : PySem.W.Frag} {H H' : Hp} {O O' G : List Addr} {a : Addr} {xs : List V}
theorem rd_keep {u : HO} (k : Keep G H H') (h : Rd H a u) (m : a ∉ G ∨ mutO u = false) : Rd H' a u := by
  rcases h with h | ⟨o, h⟩
  · exact .inl (k _ _ h fun hb => m.elim (fun z => absurd hb z) id)
  · exact .inr ⟨o, k _ _ h fun _ => rfl⟩
theorem LsR.mono (g : Grow G O O' H H') (h : LsR K H O a xs) : LsR K H' O' a xs := by
  rcases h with ⟨h, n⟩ | h
  · refine .inl ⟨rd_keep g.keep h (.inl fun hb => n (g.sub _ hb)), fun hb => ?_⟩
    rcases g.new a hb with z | z
    · exact n z
    · rcases h with h | ⟨o, h⟩ <;> rw [z] at h <;> cases h
  · exact .inr h
theorem sqt_keep (k : Keep G H H') (h : SqT K H a xs) : SqT K H' a xs := by
  rcases h with h | h
  · exact .inl (rd_keep k h (.inr rfl))
  · exact .inr h
end
mutual
theorem Rp.mono {K : PySem.W.Frag} {H H' : Hp} {G O O' : List Addr} (g : Grow G O O' H H') : ∀ {d : PyData} {v : V}, Rp K H O v d → Rp K H' O' v d
  | .none, _, h => by cases h; exact .non
  | .bool _, _, h => by cases h; exact .bl _
  | .int _, _, h => by cases h; exact .int _
  | .str _, _, h => by cases h with | str x n => exact .str _ n
  | .list ds, _, h => by
    cases h with
    | lst h n r => exact .lst (h.mono g) n (RpAll.mono g r)
  | .tuple ds, _, h => by
    cases h with
    | tup h n r => exact .tup (sqt_keep g.keep h) n (RpAll.mono g r)
  | .dict _, _, h => by cases h
theorem RpAll.mono {K : PySem.W.Frag} {H H' : Hp} {G O O' : List Addr} (g : Grow G O O' H H') : ∀ {ds : List PyData} {vs : List V}, RpAll K H O vs ds → RpAll K H' O' vs ds
  | [], _, h => by cases h; exact .nil
  | d :: ds, _, h => by
    cases h with
    | cons h t => exact .cons (Rp.mono g h) (RpAll.mono g t)
end
mutual
theorem Rp.dp {K : PySem.W.Frag} {H : Hp} {O : List Addr} : ∀ {d : PyData} {v : V}, Rp K H O v d → Dp K H v d
  | .none, _, h => by cases h; exact .non
  | .bool _, _, h => by cases h; exact .bl _
  | .int _, _, h => by cases h; exact .int _
  | .str _, _, h => by cases h; exact .str _
  | .list ds, _, h => by
    cases h with
    | lst h n r => exact .lst h.sq (RpAll.dp r)
  | .tuple ds, _, h => by
    cases h with
    | tup h n r => exact .tup h (RpAll.dp r)
  | .dict _, _, h => by cases h
theorem RpAll.dp {K : PySem.W.Frag} {H : Hp} {O : List Addr} : ∀ {ds : List PyData} {vs : List V}, RpAll K H O vs ds → DpAll K H vs ds
  | [], _, h => by cases h; exact .nil
  | d :: ds, _, h => by
    cases h with
    | cons h t => exact .cons (Rp.dp h) (RpAll.dp t)
end
section
variable {K : PySem.W.Frag} {H H' : Hp} {O O' G : List Addr}
theorem RpAll.length : ∀ {vs : List V} {ds : List PyData}, RpAll K H O vs ds → vs.length = ds.length
  | _, _, .nil => rfl
  | _, _, .cons _ t => by rw [List.length_cons, List.length_cons, RpAll.length t]
theorem RpAll.get : ∀ {vs : List V} {ds : List PyData} {i : Nat} {d : PyData}, RpAll K H O vs ds → ds[i]? = some d → ∃ v, vs[i]? = some v ∧ Rp K H O v d
  | _, _, _, _, .nil, e => by simp at e
  | _, _, 0, _, .cons h _, e => by simp at e; subst e; exact ⟨_, rfl, h⟩
  | _, _, i + 1, d, .cons _ t, e => by
    obtain ⟨v, h1, h2⟩ := RpAll.get (i := i) (d := d) t (by simpa using e)
    exact ⟨v, by simpa using h1, h2⟩
theorem RpAll.getV : ∀ {vs : List V} {ds : List PyData} {i : Nat} {v : V}, RpAll K H O vs ds → vs[i]? = some v → ∃ d, ds[i]? = some d ∧ Rp K H O v d
  | _, _, _, _, .nil, e => by simp at e
  | _, _, 0, _, .cons h _, e => by simp at e; subst e; exact ⟨_, rfl, h⟩
  | _, _, i + 1, v, .cons _ t, e => by
    obtain ⟨d, h1, h2⟩ := RpAll.getV (i := i) (v := v) t (by simpa using e)
    exact ⟨d, by simpa using h1, h2⟩
theorem RpAll.append : ∀ {vs : List V} {ds : List PyData} {ws : List V} {es : List PyData}, RpAll K H O vs ds → RpAll K H O ws es → RpAll K H O (vs ++ ws) (ds ++ es)
  | _, _, _, _, .nil, h => h
  | _, _, _, _, .cons h t, h2 => .cons h (RpAll.append t h2)
theorem RpAll.take : ∀ {vs : List V} {ds : List PyData} (n : Nat), RpAll K H O vs ds → RpAll K H O (vs.take n) (ds.take n)
  | _, _, 0, _ => .nil
  | _, _, _ + 1, .nil => .nil
  | _, _, n + 1, .cons h t => .cons h (RpAll.take n t)
theorem RpAll.drop : ∀ {vs : List V} {ds : List PyData} (n : Nat), RpAll K H O vs ds → RpAll K H O (vs.drop n) (ds.drop n)
  | _, _, 0, h => h
  | _, _, _ + 1, .nil => .nil
  | _, _, n + 1, .cons _ t => RpAll.drop n t
theorem RpAll.reverse {vs : List V} {ds : List PyData} (h : RpAll K H O vs ds) : RpAll K H O vs.reverse ds.reverse := by
  induction vs generalizing ds with
  | nil => cases h; exact .nil
  | cons v vs ih =>
    cases h with
    | cons h t =>
      rw [List.reverse_cons, List.reverse_cons]
      exact (ih t).append (.cons h .nil)
theorem RpAll.rep {vs : List V} {ds : List PyData} (h : RpAll K H O vs ds) : ∀ k : Nat, RpAll K H O (List.replicate k vs).flatten (List.replicate k ds).flatten
  | 0 => .nil
  | k + 1 => by
    rw [List.replicate_succ, List.replicate_succ, List.flatten_cons, List.flatten_cons]
    exact h.append (RpAll.rep h k)
theorem RpAll.set {v : V} {d : PyData} (r : Rp K H O v d) : ∀ {vs : List V} {ds : List PyData} (i : Nat), RpAll K H O vs ds → RpAll K H O (vs.set i v) (ds.set i d)
  | _, _, _, .nil => .nil
  | _, _, 0, .cons _ t => .cons r t
  | _, _, i + 1, .cons h t => .cons h (RpAll.set r i t)
theorem RpAll.ints : ∀ {vs : List V} {ds : List PyData} {is : List Int}, RpAll K H O vs ds → intsD ds = .ok is → vs = is.map V.int
  | _, _, _, .nil, e => by
    unfold intsD at e
    cases e; rfl
  | _, _, is, .cons (d := d) (ds := ds) h t, e => by
    cases d with
    | int i =>
      unfold intsD at e
      cases q : intsD ds with
      | ok js =>
        rw [q] at e
        simp only [R.bind] at e
        cases e
        cases h
        rw [RpAll.ints t q]
        rfl
      | exc c => rw [q] at e; cases e
      | bad => rw [q] at e; cases e
    | _ => unfold intsD at e; cases e
theorem RpAll.bls : ∀ {vs : List V} {ds : List PyData} {is : List Bool}, RpAll K H O vs ds → blsD ds = .ok is → vs = is.map V.bl
  | _, _, _, .nil, e => by
    unfold blsD at e
    cases e; rfl
  | _, _, is, .cons (d := d) (ds := ds) h t, e => by
    cases d with
    | bool i =>
      unfold blsD at e
      cases q : blsD ds with
      | ok js =>
        rw [q] at e
        simp only [R.bind] at e
        cases e
        cases h
        rw [RpAll.bls t q]
        rfl
      | exc c => rw [q] at e; cases e
      | bad => rw [q] at e; cases e
    | _ => unfold blsD at e; cases e
end

/-! ### what a slot owns; what an expression gives -/
def Own (K : PySem.W.Frag) (H : Hp) (O : List Addr) (p : Addr) : PyData → Prop
  | .list ds => ∃ vs, H p = some (.lst vs) ∧ RpAll K H O vs ds ∧ ds.length ≤ big
  | _ => False
theorem Own.mono {K : PySem.W.Frag} {H H' : Hp} {G O O' : List Addr} {p : Addr} {d : PyData} (g : Grow G O O' H H') (hp : p ∉ G) (h : Own K H O p d) : Own K H' O' p d := by
  cases d with
  | list ds =>
    obtain ⟨vs, h1, h2, h3⟩ := h
    exact ⟨vs, g.keep _ _ h1 fun z => absurd z hp, h2.mono g, h3⟩
  | _ => exact h.elim
theorem Own.mut {K : PySem.W.Frag} {H : Hp} {O : List Addr} {p : Addr} {d : PyData} (h : Own K H O p d) : ∃ o, H p = some o ∧ mutO o = true := by
  cases d with
  | list ds => obtain ⟨vs, h1, _⟩ := h; exact ⟨_, h1, rfl⟩
  | _ => exact h.elim
/-- given up -/
theorem Own.rp {K : PySem.W.Frag} {H : Hp} {O : List Addr} {p : Addr} {d : PyData} (h : Own K H O p d) (hp : p ∉ O) : Rp K H O (.ref p) d := by
  cases d with
  | list ds => obtain ⟨vs, h1, h2, h3⟩ := h; exact .lst (.inl ⟨.inl h1, hp⟩) h3 h2
  | _ => exact h.elim

inductive Fl where
  | bo | sh | fr
def Res (K : PySem.W.Frag) (H0 H : Hp) (O : List Addr) : Fl → V → PyData → Prop
  | .bo, v, d => Rp K H O v d ∨ ∃ p, v = .ref p ∧ p ∈ O ∧ Own K H O p d
  | .sh, v, d => Rp K H O v d
  | .fr, v, d => Rp K H O v d ∧ ∀ ds, d = .list ds → ∃ p, v = .ref p ∧ H0 p = none ∧ Own K H (p :: O) p d
section
variable {K : PySem.W.Frag} {H0 H1 H H' : Hp} {O O' G : List Addr} {v : V} {d : PyData} {fl : Fl}
theorem Res.bo (h : Res K H0 H O fl v d) : Res K H1 H O .bo v d := by
  cases fl with
  | bo => exact h
  | sh => exact .inl h
  | fr => exact .inl h.1
theorem Res.mono (s : Same H H') (h : Res K H0 H O fl v d) : Res K H0 H' O fl v d := by
  cases fl with
  | bo =>
    rcases h with h | ⟨p, e, hp, h⟩
    · exact .inl (h.mono (.same s))
    · exact .inr ⟨p, e, hp, h.mono (.same s) (fun z => nomatch z)⟩
  | sh => exact Rp.mono (.same s) h
  | fr => exact ⟨Rp.mono (.same s) h.1, fun ds e => let ⟨p, e1, e2, e3⟩ := h.2 ds e; ⟨p, e1, e2, e3.mono (.same s) (fun z => nomatch z)⟩⟩
theorem Res.back (s : Same H0 H1) (h : Res K H1 H O fl v d) : Res K H0 H O fl v d := by
  cases fl with
  | bo => exact h
  | sh => exact h
  | fr => exact ⟨h.1, fun ds e => let ⟨p, e1, e2, e3⟩ := h.2 ds e; ⟨p, e1, s.free e2, e3⟩⟩
theorem Res.list {ds : List PyData} (h : Res K H0 H O fl v (.list ds)) : ∃ p vs, v = .ref p ∧ SqL K H p vs ∧ RpAll K H O vs ds ∧ ds.length ≤ big := by
  rcases h.bo (H1 := H0) with h' | ⟨p, e, hp, vs, h1, h2, h3⟩
  · cases h' with
    | lst hh n r => exact ⟨_, _, rfl, hh.sq, r, n⟩
  · exact ⟨p, vs, e, .of h1, h2, h3⟩
theorem Res.tuple {ds : List PyData} (h : Res K H0 H O fl v (.tuple ds)) : ∃ p vs, v = .ref p ∧ SqT K H p vs ∧ RpAll K H O vs ds ∧ ds.length ≤ big := by
  rcases h.bo (H1 := H0) with h' | ⟨p, e, hp, h⟩
  · cases h' with
    | tup hh n r => exact ⟨_, _, rfl, hh, r, n⟩
  · exact h.elim
theorem Res.int {i : Int} (h : Res K H0 H O fl v (.int i)) : v = .int i := by
  rcases h.bo (H1 := H0) with h | ⟨p, e, hp, h⟩
  · cases h; rfl
  · exact h.elim
theorem Res.bool {i : Bool} (h : Res K H0 H O fl v (.bool i)) : v = .bl i := by
  rcases h.bo (H1 := H0) with h | ⟨p, e, hp, h⟩
  · cases h; rfl
  · exact h.elim
theorem Res.none_ (h : Res K H0 H O fl v .none) : v = .non := by
  rcases h.bo (H1 := H0) with h | ⟨p, e, hp, h⟩
  · cases h; rfl
  · exact h.elim
theorem Res.str {i : Str} (h : Res K H0 H O fl v (.str i)) : v = .str i ∧ i.length ≤ big := by
  rcases h.bo (H1 := H0) with h | ⟨p, e, hp, h⟩
  · cases h with | str _ n => exact ⟨rfl, n⟩
  · exact h.elim
theorem Res.dp (h : Res K H0 H O fl v d) : Dp K H v d := by
  rcases h.bo (H1 := H0) with h | ⟨p, e, hp, h⟩
  · exact h.dp
  · cases d with
    | list ds =>
      obtain ⟨vs, h1, h2, h3⟩ := h
      subst e
      exact .lst (.of h1) h2.dp
    | _ => exact h.elim
/-- scalars are of any kind -/
def flatD : PyData → Bool
  | .none | .bool _ | .int _ | .str _ => true
  | _ => false
theorem Res.flat (h : Rp K H O v d) (f : flatD d = true) : Res K H0 H O fl v d := by
  cases fl with
  | bo => exact .inl h
  | sh => exact h
  | fr => exact ⟨h, fun ds e => by subst e; cases f⟩
theorem Res.nolist (h : Rp K H O v d) (f : ∀ ds, d ≠ .list ds) : Res K H0 H O fl v d := by
  cases fl with
  | bo => exact .inl h
  | sh => exact h
  | fr => exact ⟨h, fun ds e => absurd e (f ds)⟩
end

inductive ResAll (K : PySem.W.Frag) (H0 H : Hp) (O : List Addr) : List Fl → List V → List PyData → Prop
  | nil : ResAll K H0 H O [] [] []
  | cons {fl : Fl} {fls : List Fl} {v : V} {vs : List V} {d : PyData} {ds : List PyData} (h : Res K H0 H O fl v d) (t : ResAll K H0 H O fls vs ds) : ResAll K H0 H O (fl :: fls) (v :: vs) (d :: ds)
section
variable {K : PySem.W.Frag} {H0 H1 H H' : Hp} {O O' G : List Addr}
theorem ResAll.mono (s : Same H H') : ∀ {fls : List Fl} {vs : List V} {ds : List PyData}, ResAll K H0 H O fls vs ds → ResAll K H0 H' O fls vs ds
  | _, _, _, .nil => .nil
  | _, _, _, .cons h t => .cons (h.mono s) (t.mono s)
theorem ResAll.back (s : Same H0 H1) : ∀ {fls : List Fl} {vs : List V} {ds : List PyData}, ResAll K H1 H O fls vs ds → ResAll K H0 H O fls vs ds
  | _, _, _, .nil => .nil
  | _, _, _, .cons h t => .cons (h.back s) (t.back s)
/-- no borrowed one -/
def storable : List Fl → Bool
  | [] => true
  | .bo :: _ => false
  | _ :: r => storable r
theorem Res.stored {fl : Fl} {v : V} {d : PyData} (h : Res K H0 H O fl v d) (hf : storable [fl] = true) : Rp K H O v d := by
  cases fl with
  | bo => cases hf
  | sh => exact h
  | fr => exact h.1
theorem ResAll.rp : ∀ {fls : List Fl} {vs : List V} {ds : List PyData}, ResAll K H0 H O fls vs ds → storable fls = true → RpAll K H O vs ds
  | _, _, _, .nil, _ => .nil
  | fl :: _, _, _, .cons h t, s => by
    cases fl with
    | bo => cases s
    | sh => exact .cons (h.stored rfl) (t.rp s)
    | fr => exact .cons (h.stored rfl) (t.rp s)
end

/-! ### the slots -/
structure EnvR (K : PySem.W.Frag) (Γ : List Nat) (F : List Addr) (GO : List (Nat × Addr)) (σ : L2.St) (H : Hp) (ρ : Ev) : Prop where
  len : ρ.length = σ.length
  dom : GO.map (·.1) = Γ
  inj : (GO.map (·.2)).Nodup
  dis : ∀ p, p ∈ GO.map (·.2) → p ∉ F
  frn : ∀ b, b ∈ F → H b ≠ none
  own : ∀ i p, (i, p) ∈ GO → σ[i]? = some (some (.ref p)) ∧ ∃ d, ρ[i]? = some (some d) ∧ Own K H (GO.map (·.2) ++ F) p d
  sh : ∀ i d, i ∉ Γ → ρ[i]? = some (some d) → ∃ v, σ[i]? = some (some v) ∧ Rp K H (GO.map (·.2) ++ F) v d
section
variable {K : PySem.W.Frag} {Γ : List Nat} {F : List Addr} {GO : List (Nat × Addr)} {σ : L2.St} {H H' : Hp} {ρ : Ev}
theorem EnvR.mono (s : Same H H') (e : EnvR K Γ F GO σ H ρ) : EnvR K Γ F GO σ H' ρ where
  len := e.len
  dom := e.dom
  inj := e.inj
  dis := e.dis
  frn := fun b hb z => by
    cases q : H b with
    | none => exact e.frn b hb q
    | some o => rw [s b o q] at z; cases z
  own := fun i p hp => let ⟨h1, d, h2, h3⟩ := e.own i p hp; ⟨h1, d, h2, h3.mono (.same s) (fun z => nomatch z)⟩
  sh := fun i d hi hd => let ⟨v, h1, h2⟩ := e.sh i d hi hd; ⟨v, h1, h2.mono (.same s)⟩
theorem EnvR.alive (e : EnvR K Γ F GO σ H ρ) : ∀ b, b ∈ GO.map (·.2) ++ F → H b ≠ none := fun b hb => by
  rcases List.mem_append.mp hb with hb | hb
  · obtain ⟨⟨i, p⟩, hp, rfl⟩ := List.mem_map.mp hb
    obtain ⟨_, d, _, h3⟩ := e.own i p hp
    obtain ⟨o, z, _⟩ := h3.mut
    show H p ≠ none
    rw [z]
    exact fun z => nomatch z
  · exact e.frn b hb
theorem EnvR.newp (e : EnvR K Γ F GO σ H ρ) {p : Addr} (hp : H p = none) : p ∉ GO.map (·.2) ++ F := fun hb => e.alive p hb hp
/-- a value is put into a slot that owns nothing -/
theorem EnvR.setS (e : EnvR K Γ F GO σ H ρ) {i : Nat} {v : V} {d : PyData} (hi : i ∉ Γ) (h : Rp K H (GO.map (·.2) ++ F) v d) : EnvR K Γ F GO (σ.set i (some v)) H (ρ.set i (some d)) where
  len := by rw [List.length_set, List.length_set, e.len]
  dom := e.dom
  inj := e.inj
  dis := e.dis
  frn := e.frn
  own := fun j p hp => by
    have hj : i ≠ j := fun z => hi (by rw [← e.dom, z]; exact List.mem_map.mpr ⟨_, hp, rfl⟩)
    obtain ⟨h1, d', h2, h3⟩ := e.own j p hp
    exact ⟨by rw [List.getElem?_set_ne hj]; exact h1, d', by rw [List.getElem?_set_ne hj]; exact h2, h3⟩
  sh := fun j d' hj hd => by
    by_cases hij : i = j
    · subst hij
      by_cases hl : i < ρ.length
      · rw [List.getElem?_set_self hl] at hd
        cases hd
        exact ⟨v, by rw [List.getElem?_set_self (by rw [← e.len]; exact hl)], h⟩
      · rw [List.getElem?_eq_none (by rw [List.length_set]; omega)] at hd; cases hd
    · rw [List.getElem?_set_ne hij] at hd ⊢
      exact e.sh j d' hj hd
/-- slots forgotten -/
theorem EnvR.kill1 (e : EnvR K Γ F GO σ H ρ) {i : Nat} (hi : i ∉ Γ) : EnvR K Γ F GO σ H (ρ.set i none) where
  len := by rw [List.length_set, e.len]
  dom := e.dom
  inj := e.inj
  dis := e.dis
  frn := e.frn
  own := fun j p hp => by
    have hj : i ≠ j := fun z => hi (by rw [← e.dom, z]; exact List.mem_map.mpr ⟨_, hp, rfl⟩)
    obtain ⟨h1, d', h2, h3⟩ := e.own j p hp
    exact ⟨h1, d', by rw [List.getElem?_set_ne hj]; exact h2, h3⟩
  sh := fun j d' hj hd => by
    by_cases hij : i = j
    · subst hij
      by_cases hl : i < ρ.length
      · rw [List.getElem?_set_self hl] at hd; cases hd
      · rw [List.getElem?_eq_none (by rw [List.length_set]; omega)] at hd; cases hd
    · rw [List.getElem?_set_ne hij] at hd
      exact e.sh j d' hj hd
theorem EnvR.wipe1 (e : EnvR K Γ F GO σ H ρ) {i : Nat} (hi : i ∉ Γ) : EnvR K Γ F GO (σ.set i none) H (ρ.set i none) where
  len := by rw [List.length_set, List.length_set, e.len]
  dom := e.dom
  inj := e.inj
  dis := e.dis
  frn := e.frn
  own := fun j p hp => by
    have hj : i ≠ j := fun z => hi (by rw [← e.dom, z]; exact List.mem_map.mpr ⟨_, hp, rfl⟩)
    obtain ⟨h1, d', h2, h3⟩ := e.own j p hp
    exact ⟨by rw [List.getElem?_set_ne hj]; exact h1, d', by rw [List.getElem?_set_ne hj]; exact h2, h3⟩
  sh := fun j d' hj hd => by
    by_cases hij : i = j
    · subst hij
      by_cases hl : i < ρ.length
      · rw [List.getElem?_set_self hl] at hd; cases hd
      · rw [List.getElem?_eq_none (by rw [List.length_set]; omega)] at hd; cases hd
    · rw [List.getElem?_set_ne hij] at hd ⊢
      exact e.sh j d' hj hd
theorem EnvR.killAll (e : EnvR K Γ F GO σ H ρ) : ∀ {is : List Nat}, (∀ i, i ∈ is → i ∉ Γ) → EnvR K Γ F GO σ H (kill ρ is)
  | [], _ => e
  | i :: is, h => (e.killAll fun j hj => h j (List.mem_cons_of_mem _ hj)).kill1 (h i List.mem_cons_self)
theorem EnvR.wipeAll (e : EnvR K Γ F GO σ H ρ) : ∀ {is : List Nat}, (∀ i, i ∈ is → i ∉ Γ) → EnvR K Γ F GO (wipe σ is) H (kill ρ is)
  | [], _ => e
  | i :: is, h => (e.wipeAll fun j hj => h j (List.mem_cons_of_mem _ hj)).wipe1 (h i List.mem_cons_self)
/-- owned slots given up -/
theorem EnvR.freeze (e : EnvR K Γ F GO σ H ρ) (q : Nat → Bool) : EnvR K (Γ.filter q) F (GO.filter fun z => q z.1) σ H ρ := by
  have sub : ∀ b, b ∈ (GO.filter fun z => q z.1).map (·.2) ++ F → b ∈ GO.map (·.2) ++ F := fun b hb => by
    rcases List.mem_append.mp hb with hb | hb
    · obtain ⟨z, hz, rfl⟩ := List.mem_map.mp hb
      exact List.mem_append_left _ (List.mem_map.mpr ⟨z, (List.mem_filter.mp hz).1, rfl⟩)
    · exact List.mem_append_right _ hb
  have g : Grow [] (GO.map (·.2) ++ F) ((GO.filter fun z => q z.1).map (·.2) ++ F) H H := .sub_ (.refl H) sub
  refine ⟨e.len, ?_, ?_, fun p hp => ?_, e.frn, fun i p hp => ?_, fun i d hi hd => ?_⟩
  · rw [← e.dom, List.filter_map]; rfl
  · exact e.inj.sublist (List.filter_sublist.map _)
  · obtain ⟨z, hz, rfl⟩ := List.mem_map.mp hp
    exact e.dis _ (List.mem_map.mpr ⟨z, (List.mem_filter.mp hz).1, rfl⟩)
  · obtain ⟨h1, d, h2, h3⟩ := e.own i p (List.mem_filter.mp hp).1
    exact ⟨h1, d, h2, h3.mono g (fun z => nomatch z)⟩
  · by_cases hg : i ∈ Γ
    · rw [← e.dom] at hg
      obtain ⟨⟨j, p⟩, hp, rfl⟩ := List.mem_map.mp hg
      obtain ⟨h1, d', h2, h3⟩ := e.own j p hp
      have hd' : ρ[j]? = some (some d) := hd
      rw [h2] at hd'
      cases hd'
      refine ⟨.ref p, h1, (h3.mono g (fun z => nomatch z)).rp fun hb => ?_⟩
      rcases List.mem_append.mp hb with hb | hb
      · obtain ⟨⟨j2, p2⟩, hz, hp2⟩ := List.mem_map.mp hb
        obtain ⟨hz1, hz2⟩ := List.mem_filter.mp hz
        have : j2 = j := by
          -- unlike slots own unlike objects
          have hp2' : p2 = p := hp2
          subst hp2'
          obtain ⟨i1, hi1, e1⟩ := List.mem_iff_getElem.mp hp
          obtain ⟨i2, hi2, e2⟩ := List.mem_iff_getElem.mp hz1
          have n := e.inj
          have a1 : (GO.map (·.2))[i1]? = some p2 := by rw [List.getElem?_map, List.getElem?_eq_getElem hi1, e1]; rfl
          have a2 : (GO.map (·.2))[i2]? = some p2 := by rw [List.getElem?_map, List.getElem?_eq_getElem hi2, e2]; rfl
          have q12 : i1 = i2 := by
            obtain ⟨b1, c1⟩ := List.getElem?_eq_some_iff.mp a1
            obtain ⟨b2, c2⟩ := List.getElem?_eq_some_iff.mp a2
            exact (List.getElem_inj n).mp (c1.trans c2.symm)
          subst q12
          rw [e1] at e2
          exact (congrArg Prod.fst e2).symm
        subst this
        exact hi (List.mem_filter.mpr ⟨by rw [← e.dom]; exact List.mem_map.mpr ⟨_, hp, rfl⟩, hz2⟩)
      · exact e.dis p (List.mem_map.mpr ⟨_, hp, rfl⟩) hb
    · obtain ⟨v, h1, h2⟩ := e.sh i d hg hd
      exact ⟨v, h1, h2.mono g⟩
end
end DL
set_option Elab.async false
set_option linter.all false
set_option maxRecDepth 100000
/-! The D layer's rules: each construct's reading is a plain function (DSem). -/
namespace DL
open PySem PySem.Spec PyProof.Rows L2

/-! ### judgements -/
abbrev MG := Str → Option Value
def W0 : WX := fun _ _ _ _ => False
/-- what is left to be shown of a result -/
def FinG {α : Type} (mg : MG) (W : WX) (σ : L2.St) (H : Hp) (r : R α) (P : α → Prop) : Prop := match r with
  | .ok a => P a
  | .exc c => ∀ C H', mg c = some (.ref C) → Same H H' → W (.ref C) none σ H'
  | .bad => False
section
variable {α β : Type} {mg : MG} {W : WX} {σ : L2.St} {H H1 : Hp} {r : R α} {P P' : α → Prop}
theorem FinG.bind {f : α → R β} {P : β → Prop} (h : FinG mg W σ H (r.bind f) P) : FinG mg W σ H r fun a => FinG mg W σ H (f a) P := by
  cases r <;> exact h
theorem FinG.imp (h : FinG mg W σ H r P) (w : ∀ a, r = .ok a → P a → P' a) : FinG mg W σ H r P' := by
  cases r with
  | ok a => exact w a rfl h
  | exc c => exact h
  | bad => exact h
theorem FinG.mono (s : Same H H1) (h : FinG mg W σ H r P) (w : ∀ a, r = .ok a → P a → P' a) : FinG mg W σ H1 r P' := by
  cases r with
  | ok a => exact w a rfl h
  | exc c => exact fun C H' hc s' => h C H' hc (s.trans s')
  | bad => exact h
end
abbrev Ads (GO : List (Nat × Addr)) : List Addr := GO.map (·.2)
/-- where a piece of code begins: the slots' values -/
def At (K : PySem.W.Frag) (Γ : List Nat) (σ : L2.St) (H : Hp) (k : Ev → List Addr → List (Nat × Addr) → Prop) : Prop := ∃ ρ F GO, EnvR K Γ F GO σ H ρ ∧ k ρ F GO
def PE_ (K : PySem.W.Frag) (H : Hp) (O : List Addr) (fl : Fl) (Q : VK) (d : Da) : Prop := ∀ v H', Same H H' → Res K H H' O fl v d → Q v H'
def tDE (K : PySem.W.Frag) (mg : MG) (W : WX) (Γ : List Nat) (fl : Fl) (se : SE) : TE := fun σ H Q => At K Γ σ H fun ρ F GO => FinG mg W σ H (se ρ) (PE_ K H (Ads GO ++ F) fl Q)
def tDT (K : PySem.W.Frag) (mg : MG) (W : WX) (Γ : List Nat) (se : SE) : TT := fun σ H Q => At K Γ σ H fun ρ F GO => FinG mg W σ H (se ρ) fun d => ∀ H', Same H H' → Q (tru d) H'
def tDA (K : PySem.W.Frag) (mg : MG) (W : WX) (Γ : List Nat) (fls : List Fl) (sa : SA) : TA := fun σ H Q => At K Γ σ H fun ρ F GO => FinG mg W σ H (sa ρ) fun ds => ∀ vs H', Same H H' → ResAll K H H' (Ads GO ++ F) fls vs ds → Q vs H'
def DE (X : Cx) (W : WX) (Γ : List Nat) (e : Expr) (fl : Fl) (se : SE) : Prop := PE X e (tDE X.K X.mg W Γ fl se)
def DT (X : Cx) (W : WX) (Γ : List Nat) (e : Expr) (se : SE) : Prop := PT X e (tDT X.K X.mg W Γ se)
def DW (X : Cx) (W : WX) (Γ : List Nat) (e : Expr) (se : SE) : Prop := PW X e (tDT X.K X.mg W Γ se)
def DA (X : Cx) (W : WX) (Γ : List Nat) (es : List Expr) (fls : List Fl) (sa : SA) : Prop := PA X es (tDA X.K X.mg W Γ fls sa)

section
variable {X : Cx} {e : Expr} {es : List Expr}
theorem pe_imp {t t' : TE} (h : PE X e t) (w : ∀ σ H Q, t' σ H Q → t σ H Q) : PE X e t' := ⟨fun pins s σ H Q I q => h.run pins s σ H Q I (w _ _ _ q)⟩
theorem pt_imp {t t' : TT} (h : PT X e t) (w : ∀ σ H Q, t' σ H Q → t σ H Q) : PT X e t' := ⟨fun pins s σ H Q I q => h.run pins s σ H Q I (w _ _ _ q)⟩
theorem pw_imp {t t' : TT} (h : PW X e t) (w : ∀ σ H Q, t' σ H Q → t σ H Q) : PW X e t' := ⟨fun wh pins s σ H Q I q => h.run wh pins s σ H Q I (w _ _ _ q)⟩
theorem pa_imp {t t' : TA} (h : PA X es t) (w : ∀ σ H Q, t' σ H Q → t σ H Q) : PA X es t' := ⟨fun pos pins s σ H Q I q => h.run pos pins s σ H Q I (w _ _ _ q)⟩
end

section
variable {K : PySem.W.Frag} {mg : MG} {W : WX} {Γ : List Nat} {F : List Addr} {GO : List (Nat × Addr)} {σ : L2.St} {H H' H1 : Hp} {ρ : Ev} {O : List Addr}
/-- the first part runs, then the rest -/
theorem at_e {β : Type} (E : EnvR K Γ F GO σ H ρ) {fl : Fl} {se : SE} {f : Da → R β} {P : β → Prop} {R' : V → Hp → Prop} (h : FinG mg W σ H ((se ρ).bind f) P)
    (hk : ∀ d v H1, Same H H1 → Res K H H1 (Ads GO ++ F) fl v d → EnvR K Γ F GO σ H1 ρ → FinG mg W σ H1 (f d) P → R' v H1) : tDE K mg W Γ fl se σ H R' :=
  ⟨ρ, F, GO, E, h.bind.imp fun d _ q v H1 s r => hk d v H1 s r (E.mono s) (q.mono s fun _ _ z => z)⟩
theorem at_t {β : Type} (E : EnvR K Γ F GO σ H ρ) {se : SE} {f : Da → R β} {P : β → Prop} {R' : Bool → Hp → Prop} (h : FinG mg W σ H ((se ρ).bind f) P)
    (hk : ∀ d H1, Same H H1 → EnvR K Γ F GO σ H1 ρ → FinG mg W σ H1 (f d) P → R' (tru d) H1) : tDT K mg W Γ se σ H R' :=
  ⟨ρ, F, GO, E, h.bind.imp fun d _ q H1 s => hk d H1 s (E.mono s) (q.mono s fun _ _ z => z)⟩
theorem at_a {β : Type} (E : EnvR K Γ F GO σ H ρ) {fls : List Fl} {sa : SA} {f : List Da → R β} {P : β → Prop} {R' : List V → Hp → Prop} (h : FinG mg W σ H ((sa ρ).bind f) P)
    (hk : ∀ ds vs H1, Same H H1 → ResAll K H H1 (Ads GO ++ F) fls vs ds → EnvR K Γ F GO σ H1 ρ → FinG mg W σ H1 (f ds) P → R' vs H1) : tDA K mg W Γ fls sa σ H R' :=
  ⟨ρ, F, GO, E, h.bind.imp fun d _ q v H1 s r => hk d v H1 s r (E.mono s) (q.mono s fun _ _ z => z)⟩
theorem PE_.mono {fl : Fl} {Q : VK} {d : Da} (s : Same H H1) (h : PE_ K H O fl Q d) : PE_ K H1 O fl Q d := fun v H' s' r => h v H' (s.trans s') (r.back s)
/-- an answer -/
theorem PE_.now {fl : Fl} {Q : VK} {d : Da} {v : V} (h : PE_ K H O fl Q d) (r : Res K H H O fl v d) : Q v H := h v H (.refl H) r
theorem same_upd {p : Addr} {o : HO} (h : H p = none) : Same H (upd H p o) := fun b x e => by
  rw [upd_ne (ne_of_none e h)]
  exact e
theorem Grow.more {p : Addr} (s : Same H H1) (hp : H p = none) : Grow [] O (p :: O) H H1 where
  keep := .of_same s
  sub := fun _ z => (List.not_mem_nil z).elim
  new := fun b hb => by
    rcases List.mem_cons.mp hb with e | hb
    · subst e; exact .inr hp
    · exact .inl hb
/-- a new tuple, a new list -/
theorem PE_.newT {fl : Fl} {Q : VK} {ds : List Da} {vs : List V} {p : Addr} (h : PE_ K H O fl Q (.tuple ds)) (r : RpAll K H O vs ds) (n : ds.length ≤ big) (hp : H p = none) : Q (.ref p) (upd H p (.tup vs)) :=
  h _ _ (same_upd hp) (.nolist (.tup (.of upd_same) n (r.mono (.same (same_upd hp)))) fun _ e => nomatch e)
theorem PE_.newL {Q : VK} {ds : List Da} {vs : List V} {p : Addr} (h : PE_ K H O .fr Q (.list ds)) (r : RpAll K H O vs ds) (n : ds.length ≤ big) (hp : H p = none) (ho : p ∉ O) : Q (.ref p) (upd H p (.lst vs)) := by
  have r1 : RpAll K (upd H p (.lst vs)) O vs ds := r.mono (.same (same_upd hp))
  have r2 : RpAll K (upd H p (.lst vs)) (p :: O) vs ds := r.mono (Grow.more (same_upd hp) hp)
  refine h _ _ (same_upd hp) ⟨.lst (.inl ⟨.inl upd_same, ho⟩) n r1, fun ds' e => ?_⟩
  cases e
  exact ⟨p, rfl, hp, vs, upd_same, r2, n⟩
end

/-! ### names, constants -/
abbrev flOf (Γ : List Nat) (i : Nat) : Fl := match Γ.contains i with
  | true => .bo
  | false => .sh
section
variable {X : Cx} {W : WX} {Γ : List Nat}
theorem de_var {i : Nat} {x : Str} {pos : Pos} (hN : X.N[i]? = some x) (hv : Vis X.env.scope x) (hd : (x == ("__debug__" : Str)) = false := by decide) (hcd : (x == ("__classdict__" : Str)) = false := by decide) :
    DE X W Γ (.Name x pos) (flOf Γ i) (eVar i) := pe_imp (pe_var hN hv hd hcd) fun σ H Q h => by
  obtain ⟨ρ, F, GO, E, h⟩ := h
  have h' : FinG X.mg W σ H (vGet ρ[i]?) (PE_ X.K H (Ads GO ++ F) (flOf Γ i) Q) := h
  cases e : ρ[i]? with
  | none => rw [e] at h'; exact h'.elim
  | some o =>
    rw [e] at h'
    cases o with
    | none => exact h'.elim
    | some d =>
      have h2 : PE_ X.K H (Ads GO ++ F) (flOf Γ i) Q d := h'
      unfold flOf at h2
      by_cases hi : i ∈ Γ
      · rw [List.contains_iff_mem.mpr hi] at h2
        rw [← E.dom] at hi
        obtain ⟨⟨j, p⟩, hp, rfl⟩ := List.mem_map.mp hi
        obtain ⟨h1, d', h3, h4⟩ := E.own j p hp
        have e' : ρ[j]? = some (some d) := e
        rw [h3] at e'
        cases e'
        exact ⟨.ref p, h1, h2.now (.inr ⟨p, rfl, List.mem_append_left _ (List.mem_map.mpr ⟨_, hp, rfl⟩), h4⟩)⟩
      · have c : Γ.contains i = false := by
          cases q : Γ.contains i with
          | false => rfl
          | true => exact absurd (List.contains_iff_mem.mp q) hi
        rw [c] at h2
        obtain ⟨v, h1, h3⟩ := E.sh i d hi e
        exact ⟨v, h1, h2.now h3⟩
/-- the i-th name of the def -/
def visB (sc : Scope) (x : Str) : Bool := match sc.names.lookup x with
  | some .local => true
  | some .cell => true
  | some .free => true
  | _ => false
theorem vis_of {sc : Scope} {x : Str} (h : visB sc x = true) : Vis sc x := by
  unfold visB at h
  split at h
  · exact .inl (by assumption)
  · exact .inr (.inl (by assumption))
  · exact .inr (.inr (by assumption))
  · cases h
def nameOk (N : List Str) (sc : Scope) (i : Nat) (x : Str) : Bool := decide (N[i]? = some x) && (visB sc x && (!(x == ("__debug__" : Str)) && !(x == ("__classdict__" : Str))))
theorem nameOk_of {N : List Str} {sc : Scope} {i : Nat} {x : Str} (h : nameOk N sc i x = true) : N[i]? = some x ∧ Vis sc x ∧ (x == ("__debug__" : Str)) = false ∧ (x == ("__classdict__" : Str)) = false := by
  unfold nameOk at h
  simp only [Bool.and_eq_true, decide_eq_true_eq, Bool.not_eq_true'] at h
  exact ⟨h.1, vis_of h.2.1, h.2.2.1, h.2.2.2⟩
theorem dv (i : Nat) {x : Str} {pos : Pos} (h : nameOk X.N X.env.scope i x = true := by kernel_rfl) : DE X W Γ (.Name x pos) (flOf Γ i) (eVar i) :=
  let h' := nameOk_of h
  de_var h'.1 h'.2.1 h'.2.2.1 h'.2.2.2
theorem de_c {e : Expr} {v : V} {d : Da} {fl : Fl} (h : PE X e (tC v)) (r : ∀ H O, Rp X.K H O v d) (f : flatD d = true) : DE X W Γ e fl (eC d) := pe_imp h fun σ H Q h => by
  obtain ⟨ρ, F, GO, E, h⟩ := h
  have h2 : PE_ X.K H (Ads GO ++ F) fl Q d := h
  exact h2.now (.flat (r _ _) f)
theorem de_int {i : Int} {j pos} : DE X W Γ (.Constant (.int i) j pos) .fr (eC (.int i)) := de_c pe_int (fun _ _ => .int i) rfl
theorem de_bl {b : Bool} {j pos} : DE X W Γ (.Constant (.bool b) j pos) .fr (eC (.bool b)) := de_c pe_bl (fun _ _ => .bl b) rfl
theorem de_non {j pos} : DE X W Γ (.Constant .none j pos) .fr (eC .none) := de_c pe_non (fun _ _ => .non) rfl
theorem de_str {x : Str} {j pos} (h : x.length ≤ big := by decide) : DE X W Γ (.Constant (.str x) j pos) .fr (eC (.str x)) := de_c pe_str (fun _ _ => .str x h) rfl
/-- a module's int -/
theorem de_globI {x : Str} {i : Int} {pos : Pos} (hg : Gl X x) (hm : ∃ t, X.mg x = some (.int i t)) (hd : (x == ("__debug__" : Str)) = false := by decide) : DE X W Γ (.Name x pos) .fr (eC (.int i)) := by
  obtain ⟨t, hm⟩ := hm
  exact de_c (v := .int i) (pe_glob hg hm ⟨t, rfl⟩ hd) (fun _ _ => .int i) rfl
/-- kinds of answers made weaker -/
theorem Res.toSh {K : PySem.W.Frag} {H0 H : Hp} {O : List Addr} {fl : Fl} {v : V} {d : Da} (f : storable [fl] = true) (r : Res K H0 H O fl v d) : Res K H0 H O .sh v d := r.stored f
theorem de_sh {e : Expr} {fl : Fl} {se : SE} (h : DE X W Γ e fl se) (f : storable [fl] = true := by kernel_rfl) : DE X W Γ e .sh se := pe_imp h fun σ H Q ⟨ρ, F, GO, E, q⟩ => ⟨ρ, F, GO, E, q.imp fun d _ z v H' s r => z v H' s (r.toSh f)⟩
theorem de_bo {e : Expr} {fl : Fl} {se : SE} (h : DE X W Γ e fl se) : DE X W Γ e .bo se := pe_imp h fun σ H Q ⟨ρ, F, GO, E, q⟩ => ⟨ρ, F, GO, E, q.imp fun d _ z v H' s r => z v H' s r.bo⟩

/-! ### operators -/
/-- the reading r of values does what f does of data -/
def OpS (X : Cx) (r : R2) (fl : Fl) (f : Da → Da → R Da) : Prop :=
  ∀ (mg : MG) (W : WX) (σ : L2.St) (O : List Addr) (H0 H : Hp) (x y : V) (a b : Da) (Q : VK), (∀ p, H p = none → p ∉ O) → Res X.K H0 H O .bo x a → Res X.K H0 H O .bo y b → FinG mg W σ H (f a b) (PE_ X.K H O fl Q) → r x y H Q
def UnS (X : Cx) (r : V → Hp → VK → Prop) (fl : Fl) (f : Da → R Da) : Prop :=
  ∀ (mg : MG) (W : WX) (σ : L2.St) (O : List Addr) (H0 H : Hp) (x : V) (a : Da) (Q : VK), (∀ p, H p = none → p ∉ O) → Res X.K H0 H O .bo x a → FinG mg W σ H (f a) (PE_ X.K H O fl Q) → r x H Q
def CallS (X : Cx) (r : List V → Hp → VK → Prop) (fl : Fl) (f : List Da → R Da) : Prop :=
  ∀ (mg : MG) (W : WX) (σ : L2.St) (O : List Addr) (H0 H : Hp) (fls : List Fl) (xs : List V) (as : List Da) (Q : VK), (∀ p, H p = none → p ∉ O) → ResAll X.K H0 H O fls xs as → FinG mg W σ H (f as) (PE_ X.K H O fl Q) → r xs H Q
variable {a b : Expr} {fa fb fl : Fl} {sa sb : SE} {pos : Pos}
theorem EnvR.fresh {K : PySem.W.Frag} {F : List Addr} {GO : List (Nat × Addr)} {σ : L2.St} {H : Hp} {ρ : Ev} (E : EnvR K Γ F GO σ H ρ) : ∀ p, H p = none → p ∉ Ads GO ++ F := fun _ hp => E.newp hp
theorem bin_s {r : R2} {f : Da → Da → R Da} (hs : OpS X r fl f) (ta tb : TE) {σ : L2.St} {H : Hp} {Q : VK} (ha : tDE X.K X.mg W Γ fa sa σ H Q → True)
    (h : tDE X.K X.mg W Γ fl (e2 f sa sb) σ H Q) : tOp r (tDE X.K X.mg W Γ fa sa) (tDE X.K X.mg W Γ fb sb) σ H Q := by
  obtain ⟨ρ, F, GO, E, h⟩ := h
  refine at_e E h fun d v H1 s1 r1 E1 h1 => at_e E1 h1 fun d2 v2 H2 s2 r2 E2 h2 => ?_
  exact hs _ _ _ _ H2 H2 v v2 d d2 Q E2.fresh (r1.bo.mono s2) r2.bo (h2.imp fun _ _ z => z.mono (s1.trans s2))
theorem de_bin {op : Operator} {r : R2} {f : Da → Da → R Da} (ho : OpR X (binaryOp op) r) (hs : OpS X r fl f) (ha : DE X W Γ a fa sa) (hb : DE X W Γ b fb sb) : DE X W Γ (.BinOp a op b pos) fl (e2 f sa sb) :=
  pe_imp (pe_op ho ha hb) fun σ H Q h => bin_s hs (tDE X.K X.mg W Γ fa sa) (tDE X.K X.mg W Γ fb sb) (fun _ => trivial) h
theorem de_cmp {op : CmpOp} {r : R2} {f : Da → Da → R Da} (ho : OpR X (compareOp op) r) (hs : OpS X r fl f) (ha : DE X W Γ a fa sa) (hb : DE X W Γ b fb sb) (hm : behindInMarks op b = false) : DE X W Γ (.Compare a [op] [b] pos) fl (e2 f sa sb) :=
  pe_imp (pe_cmpR ho ha hb hm) fun σ H Q h => bin_s hs (tDE X.K X.mg W Γ fa sa) (tDE X.K X.mg W Γ fb sb) (fun _ => trivial) h
theorem de_ix {r : R2} {f : Da → Da → R Da} (ho : IxR X r) (hs : OpS X r fl f) (ha : DE X W Γ a fa sa) (hb : DE X W Γ b fb sb) (hp : PlainIx b) : DE X W Γ (.Subscript a b pos) fl (e2 f sa sb) :=
  pe_imp (pe_ix ho ha hb hp) fun σ H Q h => bin_s hs (tDE X.K X.mg W Γ fa sa) (tDE X.K X.mg W Γ fb sb) (fun _ => trivial) h
theorem de_un {op : UnaryOp} {r : V → Hp → VK → Prop} {f : Da → R Da} (ho : UnR X (unaryOp op) r) (hs : UnS X r fl f) (ha : DE X W Γ a fa sa) : DE X W Γ (.UnaryOp op a pos) fl (e1 f sa) :=
  pe_imp (pe_un ho ha) fun σ H Q h => by
    obtain ⟨ρ, F, GO, E, h⟩ := h
    exact at_e E h fun d v H1 s1 r1 E1 h1 => hs _ _ _ _ H1 H1 v d Q E1.fresh r1.bo (h1.imp fun _ _ z => z.mono s1)
end
end DL
set_option Elab.async false
set_option linter.all false
set_option maxRecDepth 100000
namespace DL
open PySem PySem.Spec PyProof.Rows L2

/-! ### what the operators do -/
section
variable {X : Cx}
theorem big_le {n : Nat} (h : n ≤ big) : n ≤ sizeLine := by rw [← big_line]; exact h
theorem sixD (n d : Nat) (o : Option Int) : sIxD n d o = HT.sIx n d o := by cases o <;> rfl
theorem cutD_V (xs : List V) (lo hi : Option Int) : cutD xs lo hi = cutV xs lo hi := by unfold cutD cutV; simp only [sixD]
theorem RpAll.cut {K : PySem.W.Frag} {H : Hp} {O : List Addr} {vs : List V} {ds : List Da} (r : RpAll K H O vs ds) (lo hi : Option Int) : RpAll K H O (cutV vs lo hi) (cutD ds lo hi) := by
  rw [← cutD_V]
  unfold cutD
  rw [r.length]
  exact (r.drop _).take _
theorem cutD_len {α : Type} (xs : List α) (lo hi : Option Int) : (cutD xs lo hi).length ≤ xs.length := by
  unfold cutD
  have h1 := List.length_take_le (sIxD xs.length xs.length hi - sIxD xs.length 0 lo) (xs.drop (sIxD xs.length 0 lo))
  have h2 := List.length_take_le' (sIxD xs.length xs.length hi - sIxD xs.length 0 lo) (xs.drop (sIxD xs.length 0 lo))
  rw [List.length_drop] at h2
  omega

def rCatL (K : PySem.W.Frag) : R2 := fun x y H Q => ∃ l b xs zs, x = .ref l ∧ y = .ref b ∧ SqL K H l xs ∧ SqL K H b zs ∧ xs.length + zs.length ≤ sizeLine ∧ ∀ p, H p = none → Q (.ref p) (upd H p (.lst (xs ++ zs)))
theorem op_catL : OpR X (binaryOp .Add) (rCatL X.K) := by
  intro pins s σ H x y v u Q I rx ry h
  obtain ⟨l, b, xs, zs, rfl, rfl, hH, hB, hz, q⟩ := h
  cases rx
  cases ry
  obtain ⟨its, r, ⟨⟨cls, dd, data, sl⟩, n, ho, hc, hd0, hd⟩, _⟩ := I.list hH
  obtain ⟨its2, r2, ⟨⟨cls2, dd2, data2, sl2⟩, n2, ho2, hc2, hd20, hd2⟩, _⟩ := I.list hB
  simp only at hc hd hc2 hd2
  subst hc hd hc2 hd2
  have e : its.toArray ++ its2.toArray = (its ++ its2).toArray := by simp
  have hl := r.length
  have hl2 := r2.length
  refine concat_meets ⟨_, ho, rfl⟩ ⟨_, ho2, rfl⟩ noFill_list_add seq_list_add PySem.F.slot_list_add PySem.F.entry_list_add (PySem.F.args_list_add_2 _ _) (list_addW l b its.toArray its2.toArray n n2 dd dd2 sl sl2 (by simp only [List.size_toArray]; omega)) ⟨ho, ho2, ?_⟩
  rw [e]
  exact ⟨.ref _, _, I.lnew (t' := s.toks) (r.append r2) (by rw [List.length_append]; omega), rfl, q _ I.fresh⟩

def rAddD (K : PySem.W.Frag) : R2 := fun x y H Q => (∃ i j, x = .int i ∧ y = .int j ∧ Q (.int (i + j)) H) ∨ (∃ i j, x = .str i ∧ y = .str j ∧ i.length + j.length ≤ sizeLine ∧ Q (.str (i ++ j)) H) ∨ rCatA K x y H Q ∨ rCatL K x y H Q
theorem op_addD : OpR X (binaryOp .Add) (rAddD X.K) := op_add.or (op_add_str.or (op_catA.or op_catL))
/-- an answer that is a scalar -/
theorem PE_.flat {K : PySem.W.Frag} {H : Hp} {O : List Addr} {fl : Fl} {Q : VK} {d : Da} {v : V} (h : PE_ K H O fl Q d) (r : Rp K H O v d) (f : flatD d = true) : Q v H := h.now (.flat r f)
theorem os_add : OpS X (rAddD X.K) .fr dAdd := by
  intro mg W σ O H0 H x y a b Q nw hx hy h
  unfold dAdd at h
  split at h
  · cases hx.int; cases hy.int
    exact .inl ⟨_, _, rfl, rfl, PE_.flat h (.int _) rfl⟩
  · obtain ⟨rfl, h1⟩ := hx.str
    obtain ⟨rfl, h2⟩ := hy.str
    split at h
    · rename_i hl
      exact .inr (.inl ⟨_, _, rfl, rfl, big_le hl, PE_.flat h (.str _ (by rw [Str.length_append]; exact hl)) rfl⟩)
    · exact h.elim
  · obtain ⟨p, vs, rfl, s1, r1, n1⟩ := hx.list
    obtain ⟨q, ws, rfl, s2, r2, n2⟩ := hy.list
    split at h
    · rename_i hl
      refine .inr (.inr (.inr ⟨p, q, vs, ws, rfl, rfl, s1, s2, by rw [r1.length, r2.length]; exact big_le hl, fun t ht => PE_.newL (K := X.K) (Q := Q) h (r1.append r2) (by rw [List.length_append]; exact hl) ht (nw t ht)⟩))
    · exact h.elim
  · obtain ⟨p, vs, rfl, s1, r1, n1⟩ := hx.tuple
    obtain ⟨q, ws, rfl, s2, r2, n2⟩ := hy.tuple
    split at h
    · rename_i hl
      refine .inr (.inr (.inl ⟨p, q, vs, ws, rfl, rfl, s1, s2, by rw [r1.length, r2.length]; exact big_le hl, fun e => ?_, fun _ e => ?_, fun _ _ t ht => ?_⟩))
      · subst e
        cases r1
        exact PE_.now h (.nolist (.tup s2 n2 r2) fun _ e => nomatch e)
      · subst e
        cases r2
        rw [List.append_nil] at h
        exact PE_.now h (.nolist (.tup s1 n1 r1) fun _ e => nomatch e)
      · exact PE_.newT h (r1.append r2) (by rw [List.length_append]; exact hl) ht
    · exact h.elim
  · exact h.elim
theorem os_sub : OpS X (rI0 fun i j => .int (i - j)) .fr dSub := by
  intro mg W σ O H0 H x y a b Q nw hx hy h
  unfold dSub at h
  split at h
  · cases hx.int; cases hy.int
    exact ⟨_, _, rfl, rfl, PE_.flat h (.int _) rfl⟩
  · exact h.elim
def CMulA (i j : Int) : Prop := CMul i j ∨ CMulW i j
theorem mulOk_c {i j : Int} (h : mulOk i j = true) : CMulA i j := by
  unfold mulOk at h
  rcases Bool.or_eq_true_iff.mp h with h | h
  · have := of_decide_eq_true h
    exact .inl (.inl ⟨by omega, by omega⟩)
  · rcases Bool.or_eq_true_iff.mp h with h | h
    · have := of_decide_eq_true h
      exact .inl (.inr ⟨by omega, by omega⟩)
    · exact .inr (show i.natAbs.log2 + j.natAbs.log2 < 1000000 from of_decide_eq_true h)
def rMulD : R2 := rI CMulA fun i j => .int (i * j)
theorem op_mulA : OpR X (binaryOp .Mult) rMulD := opI fun _ _ _ _ _ _ _ hc q => mul_int q (hc.elim CMul.ok CMulW.ok)
theorem os_mul : OpS X rMulD .fr mulI := by
  intro mg W σ O H0 H x y a b Q nw hx hy h
  unfold mulI at h
  split at h
  · cases hx.int; cases hy.int
    split at h
    · rename_i c
      exact ⟨_, _, rfl, rfl, mulOk_c c, PE_.flat h (.int _) rfl⟩
    · exact h.elim
  · exact h.elim
theorem os_div : OpS X (rI CDivN fun i j => .int (i.fdiv j)) .fr dDiv := by
  intro mg W σ O H0 H x y a b Q nw hx hy h
  unfold dDiv at h
  split at h
  · cases hx.int; cases hy.int
    split at h
    · rename_i c
      exact ⟨_, _, rfl, rfl, c, PE_.flat h (.int _) rfl⟩
    · exact h.elim
  · exact h.elim
theorem os_mod : OpS X (rI (fun _ j => j ≠ 0) fun i j => .int (i.fmod j)) .fr dMod := by
  intro mg W σ O H0 H x y a b Q nw hx hy h
  unfold dMod at h
  split at h
  · cases hx.int; cases hy.int
    split at h
    · rename_i c
      exact ⟨_, _, rfl, rfl, c, PE_.flat h (.int _) rfl⟩
    · exact h.elim
  · exact h.elim
theorem os_pow : OpS X (rI CPow fun i j => .int (i ^ j.toNat)) .fr dPow := by
  intro mg W σ O H0 H x y a b Q nw hx hy h
  unfold dPow at h
  split at h
  · cases hx.int; cases hy.int
    split at h
    · rename_i c
      exact ⟨_, _, rfl, rfl, c, PE_.flat h (.int _) rfl⟩
    · exact h.elim
  · exact h.elim
theorem os_and : OpS X (rI0 fun i j => .int (Builtin.bitAnd i j)) .fr dAnd := by
  intro mg W σ O H0 H x y a b Q nw hx hy h
  unfold dAnd at h
  split at h
  · cases hx.int; cases hy.int
    exact ⟨_, _, rfl, rfl, PE_.flat h (.int _) rfl⟩
  · exact h.elim
theorem us_neg : UnS X (rU fun i => .int (-i)) .fr dNeg := by
  intro mg W σ O H0 H x a Q nw hx h
  unfold dNeg at h
  split at h
  · cases hx.int
    exact ⟨_, rfl, PE_.flat h (.int _) rfl⟩
  · exact h.elim
theorem os_cmp {p : Int → Int → Bool} : OpS X (rI0 fun i j => .bl (p i j)) .fr (dCmp p) := by
  intro mg W σ O H0 H x y a b Q nw hx hy h
  unfold dCmp at h
  split at h
  · cases hx.int; cases hy.int
    exact ⟨_, _, rfl, rfl, PE_.flat h (.bl _) rfl⟩
  · exact h.elim
def rEqA (K : PySem.W.Frag) : R2 := fun x y H Q => rEq x y H Q ∨ rEqD K x y H Q
def rNeA (K : PySem.W.Frag) : R2 := fun x y H Q => rNe x y H Q ∨ rNeD K x y H Q
theorem op_eqA (hu : X.A.units + 64 < cLine) : OpR X (compareOp .Eq) (rEqA X.K) := op_eq.or (op_eqD hu)
theorem op_neA (hu : X.A.units + 64 < cLine) : OpR X (compareOp .NotEq) (rNeA X.K) := op_ne.or (op_neD hu)
theorem decI (i j : Int) : decide (V.int i = V.int j) = decide (i = j) := by
  by_cases h : i = j
  · subst h; simp
  · rw [decide_eq_false h, decide_eq_false fun e => h (by cases e; rfl)]
theorem decB (i j : Bool) : decide (V.bl i = V.bl j) = decide (i = j) := by cases i <;> cases j <;> rfl
theorem decS (i j : Str) : decide (V.str i = V.str j) = decide (i = j) := by
  by_cases h : i = j
  · subst h; simp
  · rw [decide_eq_false h, decide_eq_false fun e => h (by cases e; rfl)]
theorem os_eq : OpS X (rEqA X.K) .fr dEq := by
  intro mg W σ O H0 H x y a b Q nw hx hy h
  unfold dEq at h
  split at h
  · cases hx.int; cases hy.int
    exact .inl ⟨rfl, by rw [decI]; exact PE_.flat h (.bl _) rfl⟩
  · cases hx.bool; cases hy.bool
    exact .inl ⟨rfl, by rw [decB]; exact PE_.flat h (.bl _) rfl⟩
  · obtain ⟨rfl, _⟩ := hx.str
    obtain ⟨rfl, _⟩ := hy.str
    exact .inl ⟨rfl, by rw [decS]; exact PE_.flat h (.bl _) rfl⟩
  · cases hx.none_; cases hy.none_
    exact .inl ⟨rfl, PE_.flat h (.bl _) rfl⟩
  · cases hx.none_; cases hy.int
    exact .inl ⟨rfl, PE_.flat h (.bl _) rfl⟩
  · cases hx.int; cases hy.none_
    exact .inl ⟨rfl, PE_.flat h (.bl _) rfl⟩
  · unfold eqD at h
    split at h
    · rename_i c
      obtain ⟨c1, c2⟩ := Bool.and_eq_true_iff.mp c
      exact .inr ⟨_, _, hx.dp, hy.dp, c1, c2, PE_.flat h (.bl _) rfl⟩
    · exact h.elim
theorem os_ne : OpS X (rNeA X.K) .fr dNe := by
  intro mg W σ O H0 H x y a b Q nw hx hy h
  unfold dNe dEq at h
  split at h
  · cases hx.int; cases hy.int
    exact .inl ⟨rfl, by rw [decI]; exact PE_.flat h (.bl _) rfl⟩
  · cases hx.bool; cases hy.bool
    exact .inl ⟨rfl, by rw [decB]; exact PE_.flat h (.bl _) rfl⟩
  · obtain ⟨rfl, _⟩ := hx.str
    obtain ⟨rfl, _⟩ := hy.str
    exact .inl ⟨rfl, by rw [decS]; exact PE_.flat h (.bl _) rfl⟩
  · cases hx.none_; cases hy.none_
    exact .inl ⟨rfl, PE_.flat h (.bl _) rfl⟩
  · cases hx.none_; cases hy.int
    exact .inl ⟨rfl, PE_.flat h (.bl _) rfl⟩
  · cases hx.int; cases hy.none_
    exact .inl ⟨rfl, PE_.flat h (.bl _) rfl⟩
  · unfold eqD at h
    split at h
    · rename_i c
      obtain ⟨c1, c2⟩ := Bool.and_eq_true_iff.mp c
      exact .inr ⟨_, _, hx.dp, hy.dp, c1, c2, PE_.flat h (.bl _) rfl⟩
    · exact h.elim
/-! is None, is True -/
theorem Res.nonB {K : PySem.W.Frag} {H0 H : Hp} {O : List Addr} {fl : Fl} {v : V} {d : Da} (h : Res K H0 H O fl v d) : decide (v = .non) = isNone d := by
  rcases h.bo (H1 := H0) with h' | ⟨p, e, hp, ho⟩
  · cases h' <;> first | rfl | simp [isNone]
  · subst e
    cases d with
    | list ds => rfl
    | _ => exact ho.elim
theorem op_isN_ : OpR X (compareOp .Is) (fun x y H Q => y = .non ∧ Q (.bl (decide (x = .non))) H) := op_isN
theorem de_isN {W : WX} {Γ : List Nat} {a : Expr} {fa : Fl} {sa : SE} {j : Nat} {pos pos' : Pos} (ha : DE X W Γ a fa sa) : DE X W Γ (.Compare a [.Is] [.Constant .none j pos'] pos) .fr (e1 dIsN sa) :=
  pe_imp (pe_cmp (pc_isN ha) rfl) fun σ H Q h => by
    obtain ⟨ρ, F, GO, E, h⟩ := h
    refine at_e E h fun d v H1 s1 r1 E1 h1 => ?_
    rw [r1.nonB]
    exact PE_.flat (PE_.mono s1 h1) (.bl _) rfl
theorem de_notN {W : WX} {Γ : List Nat} {a : Expr} {fa : Fl} {sa : SE} {j : Nat} {pos pos' : Pos} (ha : DE X W Γ a fa sa) : DE X W Γ (.Compare a [.IsNot] [.Constant .none j pos'] pos) .fr (e1 dNotN sa) :=
  pe_imp (pe_cmp (pc_notN ha) rfl) fun σ H Q h => by
    obtain ⟨ρ, F, GO, E, h⟩ := h
    refine at_e E h fun d v H1 s1 r1 E1 h1 => ?_
    rw [r1.nonB]
    exact PE_.flat (PE_.mono s1 h1) (.bl _) rfl
theorem de_isB {W : WX} {Γ : List Nat} {a : Expr} {fa : Fl} {sa : SE} {k : Bool} {j : Nat} {pos pos' : Pos} (ha : DE X W Γ a fa sa) : DE X W Γ (.Compare a [.Is] [.Constant (.bool k) j pos'] pos) .fr (e1 (dIsB k) sa) :=
  pe_imp (pe_cmpR op_isBl ha pe_bl (nomark _)) fun σ H Q h => by
    obtain ⟨ρ, F, GO, E, h⟩ := h
    refine at_e E h fun d v H1 s1 r1 E1 h1 => ?_
    unfold dIsB at h1
    split at h1
    · cases r1.bool
      exact ⟨_, _, rfl, rfl, PE_.flat (PE_.mono s1 h1) (.bl _) rfl⟩
    · exact h1.elim
theorem de_notB {W : WX} {Γ : List Nat} {a : Expr} {fa : Fl} {sa : SE} {k : Bool} {j : Nat} {pos pos' : Pos} (ha : DE X W Γ a fa sa) : DE X W Γ (.Compare a [.IsNot] [.Constant (.bool k) j pos'] pos) .fr (e1 (dIsNotB k) sa) :=
  pe_imp (pe_cmpR op_notBl ha pe_bl (nomark _)) fun σ H Q h => by
    obtain ⟨ρ, F, GO, E, h⟩ := h
    refine at_e E h fun d v H1 s1 r1 E1 h1 => ?_
    unfold dIsNotB at h1
    split at h1
    · cases r1.bool
      exact ⟨_, _, rfl, rfl, PE_.flat (PE_.mono s1 h1) (.bl _) rfl⟩
    · exact h1.elim

/-! places -/
theorem atD_I {α : Type} (xs : List α) (i : Int) {v : α} (h : atD xs i = some v) : atI xs i = some v := by
  unfold atD at h
  unfold atI ixN
  split at h
  · rename_i c
    rw [if_pos c]
    by_cases hl : i < xs.length
    · rw [if_pos hl]; exact h
    · rw [List.getElem?_eq_none (by omega)] at h; cases h
  · rename_i c
    rw [if_neg c]
    split at h
    · rename_i c2; rw [if_pos c2]; exact h
    · cases h
theorem atD_get {K : PySem.W.Frag} {H : Hp} {O : List Addr} {vs : List V} {ds : List Da} (r : RpAll K H O vs ds) {i : Int} {d : Da} (h : atD ds i = some d) : ∃ v, atD vs i = some v ∧ Rp K H O v d := by
  unfold atD at h ⊢
  rw [r.length]
  by_cases c : 0 ≤ i
  · rw [if_pos c] at h ⊢
    exact r.get h
  · rw [if_neg c] at h ⊢
    by_cases c2 : -(ds.length : Int) ≤ i
    · rw [if_pos c2] at h ⊢
      exact r.get h
    · rw [if_neg c2] at h
      cases h
theorem ix_any : IxR X (fun x y H Q => rIxL X.K x y H Q ∨ rIxT X.K x y H Q) := ix_list.or ix_tup
theorem os_ix : OpS X (fun x y H Q => rIxL X.K x y H Q ∨ rIxT X.K x y H Q) .sh dIx := by
  intro mg W σ O H0 H x y a b Q nw hx hy h
  unfold dIx at h
  split at h
  · rename_i ds i
    obtain ⟨p, vs, rfl, s1, r1, n1⟩ := hx.list
    cases hy.int
    cases e : atD ds i with
    | none => rw [e] at h; exact h.elim
    | some d =>
      rw [e] at h
      obtain ⟨v, e2, r2⟩ := atD_get r1 e
      exact .inl ⟨p, vs, i, v, rfl, rfl, s1, atD_I _ _ e2, PE_.now h r2⟩
  · rename_i ds i
    obtain ⟨p, vs, rfl, s1, r1, n1⟩ := hx.tuple
    cases hy.int
    cases e : atD ds i with
    | none => rw [e] at h; exact h.elim
    | some d =>
      rw [e] at h
      obtain ⟨v, e2, r2⟩ := atD_get r1 e
      exact .inr ⟨p, vs, i, v, rfl, rfl, s1, atD_I _ _ e2, PE_.now h r2⟩
  · exact h.elim
end

/-! ### in -/
section
variable {X : Cx}
def rInA (K : PySem.W.Frag) : R2 := fun x y H Q => ∃ d ds, Dp K H x d ∧ (Dp K H y (.list ds) ∨ Dp K H y (.tuple ds)) ∧ SeqAt.shaped d = true ∧ SeqAt.shaped (.list ds) = true ∧ Q (.bl (ds.any fun z => PyData.eqv z d)) H
def rNotInA (K : PySem.W.Frag) : R2 := fun x y H Q => ∃ d ds, Dp K H x d ∧ (Dp K H y (.list ds) ∨ Dp K H y (.tuple ds)) ∧ SeqAt.shaped d = true ∧ SeqAt.shaped (.list ds) = true ∧ Q (.bl (!ds.any fun z => PyData.eqv z d)) H
theorem op_inA (hu : X.A.units + 65 < cLine) : OpR X (compareOp .In) (rInA X.K) := by
  intro pins s σ H x y v u Q I rx ry h
  obtain ⟨d, ds, hd, he, sd, se, q⟩ := h
  obtain ⟨as, r1⟩ := Dp.reads I d x v hd rx
  rcases he with he | he
  · obtain ⟨bs, r2⟩ := Dp.reads I (.list ds) y u he ry
    exact SeqAt.in_list_reads r2 r1 (SeqAt.canLay_of_shaped se) (SeqAt.canLay_of_shaped sd) (room_in_shaped sd hu) ⟨.bl _, H, I, rfl, q⟩
  · obtain ⟨bs, r2⟩ := Dp.reads I (.tuple ds) y u he ry
    exact SeqAt.in_tuple_reads r2 r1 (SeqAt.canLay_of_shaped (d := .list ds) se) (SeqAt.canLay_of_shaped sd) (room_in_shaped sd hu) ⟨.bl _, H, I, rfl, q⟩
theorem op_notInA (hu : X.A.units + 65 < cLine) : OpR X (compareOp .NotIn) (rNotInA X.K) := by
  intro pins s σ H x y v u Q I rx ry h
  obtain ⟨d, ds, hd, he, sd, se, q⟩ := h
  obtain ⟨as, r1⟩ := Dp.reads I d x v hd rx
  rcases he with he | he
  · obtain ⟨bs, r2⟩ := Dp.reads I (.list ds) y u he ry
    exact SeqAt.notIn_list_reads r2 r1 (SeqAt.canLay_of_shaped se) (SeqAt.canLay_of_shaped sd) (room_in_shaped sd hu) ⟨.bl _, H, I, rfl, q⟩
  · obtain ⟨bs, r2⟩ := Dp.reads I (.tuple ds) y u he ry
    exact SeqAt.notIn_tuple_reads r2 r1 (SeqAt.canLay_of_shaped (d := .list ds) se) (SeqAt.canLay_of_shaped sd) (room_in_shaped sd hu) ⟨.bl _, H, I, rfl, q⟩
theorem os_in : OpS X (rInA X.K) .fr dIn := by
  intro mg W σ O H0 H x y a b Q nw hx hy h
  unfold dIn inD at h
  split at h
  · split at h
    · rename_i c
      obtain ⟨c1, c2⟩ := Bool.and_eq_true_iff.mp c
      exact ⟨_, _, hx.dp, .inl hy.dp, c1, c2, PE_.flat h (.bl _) rfl⟩
    · exact h.elim
  · split at h
    · rename_i c
      obtain ⟨c1, c2⟩ := Bool.and_eq_true_iff.mp c
      exact ⟨_, _, hx.dp, .inr hy.dp, c1, c2, PE_.flat h (.bl _) rfl⟩
    · exact h.elim
  · exact h.elim
theorem os_notIn : OpS X (rNotInA X.K) .fr dNotIn := by
  intro mg W σ O H0 H x y a b Q nw hx hy h
  unfold dNotIn dIn inD at h
  split at h
  · split at h
    · rename_i c
      obtain ⟨c1, c2⟩ := Bool.and_eq_true_iff.mp c
      exact ⟨_, _, hx.dp, .inl hy.dp, c1, c2, PE_.flat h (.bl _) rfl⟩
    · exact h.elim
  · split at h
    · rename_i c
      obtain ⟨c1, c2⟩ := Bool.and_eq_true_iff.mp c
      exact ⟨_, _, hx.dp, .inr hy.dp, c1, c2, PE_.flat h (.bl _) rfl⟩
    · exact h.elim
  · exact h.elim
end

/-! ### tests, and, or, not, if-else, chains -/
section
variable {X : Cx} {W : WX} {Γ : List Nat} {a b c : Expr} {fa fb fc fl : Fl} {sa sb sc : SE} {pos : Pos} {rest : List Expr}
theorem Res.tru {K : PySem.W.Frag} {H0 H : Hp} {O : List Addr} {v : V} {d : Da} (h : Res K H0 H O fl v d) : TruV K v H (tru d) := by
  cases d with
  | none => cases h.none_; rfl
  | bool k => cases h.bool; rfl
  | int i => cases h.int; rfl
  | str s =>
    obtain ⟨rfl, n⟩ := h.str
    refine ⟨big_le n, ?_⟩
    show (s.length != 0) = ((s.length : Int) != 0)
    by_cases e : s.length = 0
    · rw [e]; rfl
    · have e2 : ((s.length : Nat) : Int) ≠ 0 := by omega
      rw [bne_iff_ne.mpr e, bne_iff_ne.mpr e2]
  | list ds =>
    obtain ⟨p, vs, rfl, s1, r1, n1⟩ := h.list
    refine .inl ⟨vs, s1, ?_⟩
    cases r1 <;> rfl
  | tuple ds =>
    obtain ⟨p, vs, rfl, s1, r1, n1⟩ := h.tuple
    refine .inr (.inl ⟨vs, s1, ?_⟩)
    cases r1 <;> rfl
  | dict _ =>
    rcases h.bo (H1 := H0) with h' | ⟨p, e, hp, ho⟩
    · cases h'
    · exact ho.elim
theorem dt_truth (ha : DE X W Γ a fa sa) (he : ∀ whole, isTrue a X.env whole = (do let v ← whole; standAt a.pos; holding [v] (truthy v)) := by intro _; rfl) : DT X W Γ a sa :=
  pt_imp (pt_truth ha he) fun σ H Q h => by
    obtain ⟨ρ, F, GO, E, h⟩ := h
    exact ⟨ρ, F, GO, E, h.imp fun d _ q v H1 s1 r1 => ⟨_, r1.tru, q H1 s1⟩⟩
theorem dt_cmp {op : CmpOp} {r : R2} {f : Da → Da → R Da} (ho : OpR X (compareOp op) r) (hs : OpS X r fl f) (ha : DE X W Γ a fa sa) (hb : DE X W Γ b fb sb) (hm : behindInMarks op b = false) (bl : ∀ x y z, f x y = .ok z → ∃ k, z = .bool k) : DT X W Γ (.Compare a [op] [b] pos) (e2 f sa sb) :=
  pt_imp (pt_cmpR ho ha hb hm) fun σ H Q h => by
    obtain ⟨ρ, F, GO, E, h⟩ := h
    refine at_e E h fun d v H1 s1 r1 E1 h1 => at_e E1 h1 fun d2 v2 H2 s2 r2 E2 h2 => ?_
    refine hs X.mg W σ _ H2 H2 v v2 d d2 _ E2.fresh (r1.bo.mono s2) r2.bo (h2.imp fun z e q w H3 s3 r3 => ?_)
    obtain ⟨k, rfl⟩ := bl _ _ _ e
    cases r3.bool
    exact ⟨k, rfl, q H3 ((s1.trans s2).trans s3)⟩
theorem dt_not (ha : DT X W Γ a sa) : DT X W Γ (.UnaryOp .Not a pos) (e1 dNot sa) :=
  pt_imp (pt_not ha) fun σ H Q h => by
    obtain ⟨ρ, F, GO, E, h⟩ := h
    exact at_t E h fun d H1 s1 E1 h1 => h1 H1 s1
theorem de_not (ha : DE X W Γ a fa sa) : DE X W Γ (.UnaryOp .Not a pos) .fr (e1 dNot sa) :=
  pe_imp (pe_notT ha) fun σ H Q h => by
    obtain ⟨ρ, F, GO, E, h⟩ := h
    refine at_e E h fun d v H1 s1 r1 E1 h1 => ⟨_, r1.tru, ?_⟩
    exact PE_.flat (PE_.mono s1 h1) (.bl _) rfl
theorem FinG.ite {α : Type} {mg : MG} {σ : L2.St} {H : Hp} {k : Bool} {r r' : R α} {P : α → Prop} {A B : Prop} (h : FinG mg W σ H (if k = true then r else r') P) (h1 : FinG mg W σ H r P → A) (h2 : FinG mg W σ H r' P → B) : if k = true then A else B := by
  cases k with
  | true => rw [if_pos rfl] at h ⊢; exact h1 h
  | false => rw [if_neg Bool.false_ne_true] at h ⊢; exact h2 h
theorem dw_and1 (ha : DT X W Γ a sa) : DW X W Γ (.BoolOp .And [a] pos) sa := pw_and1 ha
theorem dw_or1 (ha : DT X W Γ a sa) : DW X W Γ (.BoolOp .Or [a] pos) sa := pw_or1 ha
theorem dw_and (ha : DT X W Γ a sa) (hb : DW X W Γ (.BoolOp .And (b :: rest) pos) sb) : DW X W Γ (.BoolOp .And (a :: b :: rest) pos) (eAnd sa sb) :=
  pw_imp (pw_and ha hb) fun σ H Q h => by
    obtain ⟨ρ, F, GO, E, h⟩ := h
    refine at_t E h fun d H1 s1 E1 h1 => ?_
    cases e : tru d with
    | true =>
      rw [if_pos rfl]
      rw [e, if_pos rfl] at h1
      exact ⟨ρ, F, GO, E1, h1.imp fun z _ q H2 s2 => q H2 (s1.trans s2)⟩
    | false =>
      rw [if_neg Bool.false_ne_true]
      rw [e, if_neg Bool.false_ne_true] at h1
      have q := h1 H1 s1
      rw [e] at q
      exact q
theorem dw_or (ha : DT X W Γ a sa) (hb : DW X W Γ (.BoolOp .Or (b :: rest) pos) sb) : DW X W Γ (.BoolOp .Or (a :: b :: rest) pos) (eOr sa sb) :=
  pw_imp (pw_or ha hb) fun σ H Q h => by
    obtain ⟨ρ, F, GO, E, h⟩ := h
    refine at_t E h fun d H1 s1 E1 h1 => ?_
    cases e : tru d with
    | true =>
      rw [if_pos rfl]
      rw [e, if_pos rfl] at h1
      have q := h1 H1 s1
      rw [e] at q
      exact q
    | false =>
      rw [if_neg Bool.false_ne_true]
      rw [e, if_neg Bool.false_ne_true] at h1
      exact ⟨ρ, F, GO, E1, h1.imp fun z _ q H2 s2 => q H2 (s1.trans s2)⟩
theorem dt_w (h : DW X W Γ a sa) : DT X W Γ a sa := PW.pt h
theorem de_one {op : BoolOp} (h : DE X W Γ a fa sa) : DE X W Γ (.BoolOp op [a] pos) fa sa := pe_one h
theorem de_and (ha : DE X W Γ a .sh sa) (hb : DE X W Γ (.BoolOp .And (b :: rest) pos) .sh sb) : DE X W Γ (.BoolOp .And (a :: b :: rest) pos) .sh (eAnd sa sb) :=
  pe_imp (pe_andT ha hb) fun σ H Q h => by
    obtain ⟨ρ, F, GO, E, h⟩ := h
    refine at_e E h fun d v H1 s1 r1 E1 h1 => ⟨_, r1.tru, h1.ite (fun h2 => ⟨ρ, F, GO, E1, h2.imp fun _ _ q => PE_.mono s1 q⟩) fun h2 => (PE_.mono s1 h2).now r1⟩
theorem de_or (ha : DE X W Γ a .sh sa) (hb : DE X W Γ (.BoolOp .Or (b :: rest) pos) .sh sb) : DE X W Γ (.BoolOp .Or (a :: b :: rest) pos) .sh (eOr sa sb) :=
  pe_imp (pe_orT ha hb) fun σ H Q h => by
    obtain ⟨ρ, F, GO, E, h⟩ := h
    refine at_e E h fun d v H1 s1 r1 E1 h1 => ⟨_, r1.tru, h1.ite (fun h2 => (PE_.mono s1 h2).now r1) fun h2 => ⟨ρ, F, GO, E1, h2.imp fun _ _ q => PE_.mono s1 q⟩⟩
theorem de_if (hc : DT X W Γ c sc) (ha : DE X W Γ a fl sa) (hb : DE X W Γ b fl sb) : DE X W Γ (.IfExp c a b pos) fl (eIf sc sa sb) :=
  pe_imp (pe_ifExp hc ha hb) fun σ H Q h => by
    obtain ⟨ρ, F, GO, E, h⟩ := h
    refine at_t E h fun d H1 s1 E1 h1 => h1.ite (fun h2 => ⟨ρ, F, GO, E1, h2.imp fun _ _ q => PE_.mono s1 q⟩) fun h2 => ⟨ρ, F, GO, E1, h2.imp fun _ _ q => PE_.mono s1 q⟩
theorem chain_s {r r' : R2} {f g : Da → Da → R Da} (hs : OpS X r .fr f) (hs' : OpS X r' .fr g) (bl : ∀ x y z, f x y = .ok z → ∃ k, z = .bool k) {σ : L2.St} {H : Hp} {Q : VK}
    (h : tDE X.K X.mg W Γ .fr (eChain f g sa sb sc) σ H Q) : tChain r r' (tDE X.K X.mg W Γ fa sa) (tDE X.K X.mg W Γ fb sb) (tDE X.K X.mg W Γ fc sc) σ H Q := by
  obtain ⟨ρ, F, GO, E, h⟩ := h
  refine at_e E h fun d v H1 s1 r1 E1 h1 => at_e E1 h1 fun d2 v2 H2 s2 r2 E2 h2 => ?_
  refine hs X.mg W σ _ H2 H2 v v2 d d2 _ E2.fresh (r1.bo.mono s2) r2.bo (h2.bind.imp fun z e q w H3 s3 r3 => ?_)
  obtain ⟨k, rfl⟩ := bl _ _ _ e
  cases r3.bool
  refine ⟨k, rfl, ?_⟩
  cases k with
  | true =>
    rw [if_pos rfl]
    refine at_e (E2.mono s3) (FinG.mono s3 q fun _ _ z => z) fun d4 v4 H4 s4 r4 E4 h4 => ?_
    exact hs' X.mg W σ _ H4 H4 v2 v4 d2 d4 _ E4.fresh (r2.bo.mono (s3.trans s4)) r4.bo (h4.imp fun _ _ z => z.mono (((s1.trans s2).trans s3).trans s4))
  | false =>
    rw [if_neg Bool.false_ne_true]
    exact PE_.flat (PE_.mono ((s1.trans s2).trans s3) q) (.bl _) rfl
theorem de_chain {op op' : CmpOp} {r r' : R2} {f g : Da → Da → R Da} (ho : OpR X (compareOp op) r) (ho' : OpR X (compareOp op') r') (hs : OpS X r .fr f) (hs' : OpS X r' .fr g) (bl : ∀ x y z, f x y = .ok z → ∃ k, z = .bool k) (ha : DE X W Γ a fa sa) (hb : DE X W Γ b fb sb) (hc : DE X W Γ c fc sc)
    (hm : lastMarks [op, op'] [b, c] = false := by with_unfolding_all rfl) : DE X W Γ (.Compare a [op, op'] [b, c] pos) .fr (eChain f g sa sb sc) :=
  pe_imp (pe_chain ho ho' ha hb hc hm) fun σ H Q h => chain_s hs hs' bl h
theorem dt_chain {op op' : CmpOp} {r r' : R2} {f g : Da → Da → R Da} (ho : OpR X (compareOp op) r) (ho' : OpR X (compareOp op') r') (hs : OpS X r .fr f) (hs' : OpS X r' .fr g) (bl : ∀ x y z, f x y = .ok z → ∃ k, z = .bool k) (bl' : ∀ x y z, g x y = .ok z → ∃ k, z = .bool k) (ha : DE X W Γ a fa sa) (hb : DE X W Γ b fb sb) (hc : DE X W Γ c fc sc)
    (hm : lastMarks [op, op'] [b, c] = false := by with_unfolding_all rfl) : DT X W Γ (.Compare a [op, op'] [b, c] pos) (eChain f g sa sb sc) :=
  pt_imp (pt_chain ho ho' ha hb hc hm) fun σ H Q h => by
    refine chain_s hs hs' bl ?_
    obtain ⟨ρ, F, GO, E, h⟩ := h
    refine ⟨ρ, F, GO, E, h.imp fun d e q v H1 s1 r1 => ?_⟩
    have : ∃ k, d = .bool k := by
      unfold eChain at e
      cases e1 : sa ρ with
      | ok x =>
        cases e2 : sb ρ with
        | ok y =>
          cases e3 : f x y with
          | ok z =>
            obtain ⟨k, rfl⟩ := bl _ _ _ e3
            rw [e1, e2] at e
            simp only [R.bind, e3] at e
            cases k with
            | true =>
              cases e4 : sc ρ with
              | ok w => rw [e4] at e; exact bl' _ _ _ e
              | exc _ => rw [e4] at e; cases e
              | bad => rw [e4] at e; cases e
            | false => cases e; exact ⟨_, rfl⟩
          | exc _ => rw [e1, e2] at e; simp only [R.bind, e3] at e; cases e
          | bad => rw [e1, e2] at e; simp only [R.bind, e3] at e; cases e
        | exc _ => rw [e1, e2] at e; cases e
        | bad => rw [e1, e2] at e; cases e
      | exc _ => rw [e1] at e; cases e
      | bad => rw [e1] at e; cases e
    obtain ⟨k, rfl⟩ := this
    cases r1.bool
    exact ⟨k, rfl, q H1 s1⟩
theorem bl_cmp {p : Int → Int → Bool} (x y z : Da) (h : dCmp p x y = .ok z) : ∃ k, z = .bool k := by
  unfold dCmp at h
  split at h
  · cases h; exact ⟨_, rfl⟩
  · cases h
theorem bl_eq (x y z : Da) (h : dEq x y = .ok z) : ∃ k, z = .bool k := by
  unfold dEq at h
  split at h <;> first | (cases h; exact ⟨_, rfl⟩) | skip
  unfold eqD at h
  split at h
  · cases h; exact ⟨_, rfl⟩
  · cases h
theorem bl_not {r : R Da} (z : Da) (h : rNot r = .ok z) : ∃ k, z = .bool k := by
  unfold rNot at h
  split at h <;> first | (cases h; exact ⟨_, rfl⟩) | cases h
theorem bl_ne (x y z : Da) (h : dNe x y = .ok z) : ∃ k, z = .bool k := bl_not z h
theorem bl_in (x y z : Da) (h : dIn x y = .ok z) : ∃ k, z = .bool k := by
  unfold dIn inD at h
  split at h <;> first | cases h | skip
  all_goals
    split at h
    · cases h; exact ⟨_, rfl⟩
    · cases h
theorem bl_notIn (x y z : Da) (h : dNotIn x y = .ok z) : ∃ k, z = .bool k := bl_not z h
end

/-! ### arguments, displays, slices -/
section
variable {X : Cx} {W : WX} {Γ : List Nat} {a b c e : Expr} {es : List Expr} {fa fb fl : Fl} {fls : List Fl} {sa sb se : SE} {ss : SA} {pos : Pos}
theorem da_nil : DA X W Γ [] [] aNil := pa_imp pa_nil fun σ H Q ⟨ρ, F, GO, E, h⟩ => h [] H (.refl H) .nil
theorem da_cons (ha : DE X W Γ e fl se) (hr : DA X W Γ es fls ss) (hs : starEach (e :: es) X.env = (false, eval e X.env) :: starEach es X.env := by kernel_rfl) : DA X W Γ (e :: es) (fl :: fls) (aCons se ss) :=
  pa_imp (pa_cons ha hr hs) fun σ H Q h => by
    obtain ⟨ρ, F, GO, E, h⟩ := h
    refine at_e E h fun d v H1 s1 r1 E1 h1 => at_a E1 h1 fun ds vs H2 s2 r2 E2 h2 => ?_
    exact h2 _ _ (s1.trans s2) (.cons (r1.mono s2) (r2.back s1))
theorem de_tup {x1} (h : DA X W Γ es fls ss) (hf : storable fls = true := by kernel_rfl) (hn : es.length ≤ 1000 := by decide) (hl : ∀ ρ ds, ss ρ = .ok ds → ds.length ≤ big) : DE X W Γ (.Tuple es x1 pos) .fr (eTup ss) :=
  pe_imp (pe_tup h) fun σ H Q h => by
    obtain ⟨ρ, F, GO, E, h⟩ := h
    have hl' := hl ρ
    refine ⟨ρ, F, GO, E, h.bind.imp fun ds e q vs H1 s1 r1 => ?_⟩
    have n := hl' ds e
    have r2 := r1.rp hf
    exact ⟨by rw [r2.length]; exact big_le n, fun p hp => PE_.newT (PE_.mono s1 q) r2 n hp⟩
theorem de_lst (h : DA X W Γ es fls ss) (hf : storable fls = true := by kernel_rfl) (hl : ∀ ρ ds, ss ρ = .ok ds → ds.length ≤ big) : DE X W Γ (.List es pos) .fr (eLst ss) :=
  pe_imp (pe_lst h) fun σ H Q h => by
    obtain ⟨ρ, F, GO, E, h⟩ := h
    have hl' := hl ρ
    refine ⟨ρ, F, GO, E, h.bind.imp fun ds e q vs H1 s1 r1 => ?_⟩
    have n := hl' ds e
    have r2 := r1.rp hf
    exact ⟨by rw [r2.length]; exact big_le n, fun p hp => PE_.newL (PE_.mono s1 q) r2 n hp ((E.mono s1).newp hp)⟩
/-- how many arguments there are -/
theorem len_nil (ρ : Ev) (ds : List Da) (h : aNil ρ = .ok ds) : ds.length ≤ 0 := by cases h; exact Nat.le_refl _
theorem len_cons {n : Nat} (h : ∀ ρ ds, ss ρ = .ok ds → ds.length ≤ n) (ρ : Ev) (ds : List Da) (e : aCons se ss ρ = .ok ds) : ds.length ≤ n + 1 := by
  unfold aCons at e
  cases e1 : se ρ with
  | ok x =>
    cases e2 : ss ρ with
    | ok xs => rw [e1, e2] at e; cases e; exact Nat.succ_le_succ (h ρ xs e2)
    | exc _ => rw [e1, e2] at e; cases e
    | bad => rw [e1, e2] at e; cases e
  | exc _ => rw [e1] at e; cases e
  | bad => rw [e1] at e; cases e
theorem len_big {n : Nat} (h : ∀ ρ ds, ss ρ = .ok ds → ds.length ≤ n) (hn : n ≤ 1000) (ρ : Ev) (ds : List Da) (e : ss ρ = .ok ds) : ds.length ≤ big := Nat.le_trans (h ρ ds e) (Nat.le_trans hn (by decide))

/-! slices -/
def tDO (K : PySem.W.Frag) (mg : MG) (W : WX) (Γ : List Nat) (so : SO) : TO := fun σ H Q => At K Γ σ H fun ρ F GO => FinG mg W σ H (so ρ) fun o => ∀ H', Same H H' → Q o H'
def DO (X : Cx) (W : WX) (Γ : List Nat) (e : Option Expr) (so : SO) : Prop := PO X e (tDO X.K X.mg W Γ so)
theorem po_imp {e : Option Expr} {t t' : TO} (h : PO X e t) (w : ∀ σ H Q, t' σ H Q → t σ H Q) : PO X e t' := ⟨fun pins s σ H Q I q => h.run pins s σ H Q I (w _ _ _ q)⟩
theorem do_none : DO X W Γ none oNone := po_imp po_none fun σ H Q ⟨ρ, F, GO, E, h⟩ => h H (.refl H)
theorem do_some (ha : DE X W Γ e fl se) : DO X W Γ (some e) (oSome se) := po_imp (po_some ha) fun σ H Q h => by
  obtain ⟨ρ, F, GO, E, h⟩ := h
  refine at_e E h fun d v H1 s1 r1 E1 h1 => ?_
  cases d with
  | int i => cases r1.int; exact ⟨i, rfl, h1 H1 s1⟩
  | _ => exact h1.elim
theorem at_o {β : Type} {K : PySem.W.Frag} {mg : MG} {F : List Addr} {GO : List (Nat × Addr)} {σ : L2.St} {H : Hp} {ρ : Ev} (E : EnvR K Γ F GO σ H ρ) {so : SO} {f : Option Int → R β} {P : β → Prop} {R' : Option Int → Hp → Prop} (h : FinG mg W σ H ((so ρ).bind f) P)
    (hk : ∀ d H1, Same H H1 → EnvR K Γ F GO σ H1 ρ → FinG mg W σ H1 (f d) P → R' d H1) : tDO K mg W Γ so σ H R' :=
  ⟨ρ, F, GO, E, h.bind.imp fun d _ q H1 s => hk d H1 s (E.mono s) (q.mono s fun _ _ z => z)⟩
theorem de_slice {lo hi : Option Expr} {sl sh : SO} {p2 : Pos} (ha : DE X W Γ a fa sa) (hl : DO X W Γ lo sl) (hh : DO X W Γ hi sh) : DE X W Γ (.Subscript a (.Slice lo hi none p2) pos) .fr (eSl sa sl sh) :=
  pe_imp (pe_slice (sl_list.or sl_tupA) ha hl hh) fun σ H Q h => by
    obtain ⟨ρ, F, GO, E, h⟩ := h
    refine at_e E h fun d v H1 s1 r1 E1 h1 => at_o E1 h1 fun l H2 s2 E2 h2 => at_o E2 h2 fun u H3 s3 E3 h3 => ?_
    have s13 := (s1.trans s2).trans s3
    have r3 := r1.mono (s2.trans s3)
    unfold dSl at h3
    split at h3
    · obtain ⟨p, vs, rfl, q1, r1, n1⟩ := r3.list
      refine .inl ⟨p, vs, rfl, q1, fun t ht => PE_.newL (PE_.mono s13 h3) (r1.cut l u) (Nat.le_trans (cutD_len _ _ _) n1) ht (E3.newp ht)⟩
    · rename_i ds
      obtain ⟨p, vs, rfl, q1, r1, n1⟩ := r3.tuple
      refine .inr ⟨p, vs, rfl, q1, fun ⟨w1, w2⟩ => ?_, fun _ t ht => PE_.newT (PE_.mono s13 h3) (r1.cut l u) (Nat.le_trans (cutD_len _ _ _) n1) ht⟩
      have e : cutD ds l u = ds := by
        unfold cutD
        rw [sixD, sixD, ← r1.length, w1, w2]
        simp [r1.length]
      rw [e] at h3
      exact PE_.now (PE_.mono s13 h3) (.nolist (.tup q1 n1 r1) fun _ e => nomatch e)
    · exact h3.elim
end
end DL
set_option Elab.async false
set_option linter.all false
set_option maxRecDepth 100000
namespace DL
open PySem PySem.Spec PyProof.Rows L2

/-! ### built-ins by name -/
section
variable {X : Cx} {W : WX} {Γ : List Nat} {e : Expr} {es : List Expr} {fls : List Fl} {fl : Fl} {sa : SA} {pos p : Pos} {x : Str}
theorem call_s {r : List V → Hp → VK → Prop} {f : List Da → R Da} (hs : CallS X r fl f) {σ : L2.St} {H : Hp} {Q : VK} (h : tDE X.K X.mg W Γ fl (eA f sa) σ H Q) : tCB r (tDA X.K X.mg W Γ fls sa) σ H Q := by
  obtain ⟨ρ, F, GO, E, h⟩ := h
  exact at_a E h fun ds vs H1 s1 r1 E1 h1 => hs X.mg W σ _ H H1 fls vs ds Q E1.fresh r1 (h1.imp fun _ _ z => PE_.mono s1 z)
theorem de_callB {id : String} {r : List V → Hp → VK → Prop} {f : List Da → R Da} (hc : CallR X (.builtin id) r) (hs : CallS X r fl f) (hg : Gl X x) (hm : X.mg x = none) (hv : bootBuiltins x = some (.builtin id)) (ha : DA X W Γ (e :: es) fls sa) (hn : x ≠ "__name__" := by decide) (hdb : (x == ("__debug__" : Str)) = false := by decide)
    (he : starEach (e :: es) X.env = (false, eval e X.env) :: starEach es X.env := by kernel_rfl) (hpl : (backTo pos (starEach es X.env)).any (·.1) = false := by kernel_rfl) : DE X W Γ (.Call (.Name x p) (e :: es) [] pos) fl (eA f sa) :=
  pe_imp (pe_callB hc hg hm hv ha hn hdb he hpl) fun σ H Q h => call_s hs h
theorem de_callTy {T : String} {r : List V → Hp → VK → Prop} {f : List Da → R Da} (hc : CallR X (.type T) r) (hs : CallS X r fl f) (hg : Gl X x) (hm : X.mg x = none) (hv : bootBuiltins x = some (.type T)) (ha : DA X W Γ (e :: es) fls sa) (hn : x ≠ "__name__" := by decide) (hdb : (x == ("__debug__" : Str)) = false := by decide)
    (he : starEach (e :: es) X.env = (false, eval e X.env) :: starEach es X.env := by kernel_rfl) (hpl : (backTo pos (starEach es X.env)).any (·.1) = false := by kernel_rfl) : DE X W Γ (.Call (.Name x p) (e :: es) [] pos) fl (eA f sa) :=
  pe_imp (pe_callTy hc hg hm hv ha hn hdb he hpl) fun σ H Q h => call_s hs h
theorem de_callG {id : String} {r : List V → Hp → VK → Prop} {f : List Da → R Da} (hc : CallR X (.builtin id) r) (hs : CallS X r fl f) (hg : Gl X x) (hm : X.mg x = some (.builtin id)) (ha : DA X W Γ (e :: es) fls sa) (hdb : (x == ("__debug__" : Str)) = false := by decide)
    (he : starEach (e :: es) X.env = (false, eval e X.env) :: starEach es X.env := by kernel_rfl) (hpl : (backTo pos (starEach es X.env)).any (·.1) = false := by kernel_rfl) : DE X W Γ (.Call (.Name x p) (e :: es) [] pos) fl (eA f sa) :=
  pe_imp (pe_callBfun hc hg hm ha hdb he hpl) fun σ H Q h => call_s hs h

theorem cs_len : CallS X (fun xs H Q => ∃ p ys, xs = [.ref p] ∧ (SqL X.K H p ys ∨ SqT X.K H p ys) ∧ Q (.int ys.length) H) .fr dLen := by
  intro mg W σ O H0 H fls xs as Q nw hx h
  unfold dLen at h
  split at h
  · cases hx with
    | cons h1 t =>
      cases t
      obtain ⟨p, vs, rfl, s1, r1, n1⟩ := h1.list
      exact ⟨p, vs, rfl, .inl s1, by rw [r1.length]; exact PE_.flat h (.int _) rfl⟩
  · cases hx with
    | cons h1 t =>
      cases t
      obtain ⟨p, vs, rfl, s1, r1, n1⟩ := h1.tuple
      exact ⟨p, vs, rfl, .inr s1, by rw [r1.length]; exact PE_.flat h (.int _) rfl⟩
  · exact h.elim
theorem cs_abs : CallS X (fun xs H Q => ∃ i, xs = [.int i] ∧ Q (.int (if i < 0 then -i else i)) H) .fr dAbs := by
  intro mg W σ O H0 H fls xs as Q nw hx h
  unfold dAbs at h
  split at h
  · cases hx with
    | cons h1 t =>
      cases t
      cases h1.int
      exact ⟨_, rfl, PE_.flat h (.int _) rfl⟩
  · exact h.elim
theorem cs_max2 : CallS X (fun xs H Q => ∃ i j, xs = [.int i, .int j] ∧ Q (.int (if j > i then j else i)) H) .fr dMax2 := by
  intro mg W σ O H0 H fls xs as Q nw hx h
  unfold dMax2 at h
  split at h
  · cases hx with
    | cons h1 t =>
      cases t with
      | cons h2 t =>
        cases t
        cases h1.int
        cases h2.int
        exact ⟨_, _, rfl, PE_.flat h (.int _) rfl⟩
  · exact h.elim
theorem cs_min2 : CallS X (fun xs H Q => ∃ i j, xs = [.int i, .int j] ∧ Q (.int (if j < i then j else i)) H) .fr dMin2 := by
  intro mg W σ O H0 H fls xs as Q nw hx h
  unfold dMin2 at h
  split at h
  · cases hx with
    | cons h1 t =>
      cases t with
      | cons h2 t =>
        cases t
        cases h1.int
        cases h2.int
        exact ⟨_, _, rfl, PE_.flat h (.int _) rfl⟩
  · exact h.elim
theorem cs_int : CallS X (fun xs H Q => (∃ i, xs = [.int i] ∧ Q (.int i) H) ∨ ∃ k, xs = [.bl k] ∧ Q (.int (if k then 1 else 0)) H) .fr dInt := by
  intro mg W σ O H0 H fls xs as Q nw hx h
  unfold dInt at h
  split at h
  · cases hx with
    | cons h1 t =>
      cases t
      cases h1.int
      exact .inl ⟨_, rfl, PE_.flat h (.int _) rfl⟩
  · cases hx with
    | cons h1 t =>
      cases t
      cases h1.bool
      exact .inr ⟨_, rfl, PE_.flat h (.int _) rfl⟩
  · exact h.elim
theorem cs_gcd : CallS X rGcd .fr dGcd := by
  intro mg W σ O H0 H fls xs as Q nw hx h
  unfold dGcd at h
  split at h
  · cases hx with
    | cons h1 t =>
      cases t with
      | cons h2 t =>
        cases t
        cases h1.int
        cases h2.int
        exact ⟨_, _, rfl, PE_.flat h (.int _) rfl⟩
  · exact h.elim
theorem foldl_min_mem : ∀ (xs : List Int) (x : Int), xs.foldl min x ∈ x :: xs ∧ ∀ y, y ∈ x :: xs → xs.foldl min x ≤ y
  | [], x => ⟨List.mem_cons_self, fun y hy => by rw [List.mem_singleton] at hy; subst hy; exact Int.le_refl _⟩
  | a :: xs, x => by
    obtain ⟨h1, h2⟩ := foldl_min_mem xs (min x a)
    rw [List.foldl_cons]
    refine ⟨?_, fun y hy => ?_⟩
    · rcases List.mem_cons.mp h1 with e | e
      · rw [e]
        rcases Int.le_total x a with q | q
        · rw [Int.min_eq_left q]; exact List.mem_cons_self
        · rw [Int.min_eq_right q]; exact List.mem_cons_of_mem _ List.mem_cons_self
      · exact List.mem_cons_of_mem _ (List.mem_cons_of_mem _ e)
    · have h3 := h2 (min x a) List.mem_cons_self
      rcases List.mem_cons.mp hy with e | hy
      · subst e; omega
      · rcases List.mem_cons.mp hy with e | hy
        · subst e; omega
        · exact h2 y (List.mem_cons_of_mem _ hy)
theorem foldl_max_mem : ∀ (xs : List Int) (x : Int), xs.foldl max x ∈ x :: xs ∧ ∀ y, y ∈ x :: xs → y ≤ xs.foldl max x
  | [], x => ⟨List.mem_cons_self, fun y hy => by rw [List.mem_singleton] at hy; subst hy; exact Int.le_refl _⟩
  | a :: xs, x => by
    obtain ⟨h1, h2⟩ := foldl_max_mem xs (max x a)
    rw [List.foldl_cons]
    refine ⟨?_, fun y hy => ?_⟩
    · rcases List.mem_cons.mp h1 with e | e
      · rw [e]
        rcases Int.le_total x a with q | q
        · rw [Int.max_eq_right q]; exact List.mem_cons_of_mem _ List.mem_cons_self
        · rw [Int.max_eq_left q]; exact List.mem_cons_self
      · exact List.mem_cons_of_mem _ (List.mem_cons_of_mem _ e)
    · have h3 := h2 (max x a) List.mem_cons_self
      rcases List.mem_cons.mp hy with e | hy
      · subst e; omega
      · rcases List.mem_cons.mp hy with e | hy
        · subst e; omega
        · exact h2 y (List.mem_cons_of_mem _ hy)
theorem FinG.bind_ok {α β : Type} {mg : MG} {W : WX} {σ : L2.St} {H : Hp} {r : R α} {f : α → R β} {P : β → Prop} (nx : ∀ c, r ≠ .exc c) (h : FinG mg W σ H (r.bind f) P) : ∃ a, r = .ok a ∧ FinG mg W σ H (f a) P := by
  cases r with
  | ok a => exact ⟨a, rfl, h⟩
  | exc c => exact absurd rfl (nx c)
  | bad => exact h.elim
theorem intsD_nx : ∀ (xs : List Da) (c : Str), intsD xs ≠ .exc c
  | [], c, e => nomatch e
  | x :: xs, c, e => by
    cases x with
    | int i =>
      unfold intsD at e
      cases q : intsD xs with
      | ok is => rw [q] at e; cases e
      | exc d => exact intsD_nx xs d q
      | bad => rw [q] at e; cases e
    | _ => unfold intsD at e; cases e
theorem blsD_nx : ∀ (xs : List Da) (c : Str), blsD xs ≠ .exc c
  | [], c, e => nomatch e
  | x :: xs, c, e => by
    cases x with
    | bool i =>
      unfold blsD at e
      cases q : blsD xs with
      | ok is => rw [q] at e; cases e
      | exc d => exact blsD_nx xs d q
      | bad => rw [q] at e; cases e
    | _ => unfold blsD at e; cases e
theorem cs_min : CallS X (rMin X.K) .fr dMinL := by
  intro mg W σ O H0 H fls xs as Q nw hx h
  unfold dMinL at h
  split at h
  · cases hx with
    | cons h1 t =>
      cases t
      obtain ⟨p, vs, rfl, s1, r1, n1⟩ := h1.list
      obtain ⟨is, e, h⟩ := FinG.bind_ok (intsD_nx _) h
      rw [r1.ints e] at s1
      cases is with
      | nil => exact h.elim
      | cons i is =>
        refine ⟨p, _, rfl, s1, by simp, fun m hm hle => ?_⟩
        obtain ⟨a1, a2⟩ := foldl_min_mem is i
        have : m = is.foldl min i := Int.le_antisymm (hle _ a1) (a2 _ hm)
        subst this
        exact PE_.flat h (.int _) rfl
  · exact h.elim
theorem cs_max : CallS X (rMax X.K) .fr dMaxL := by
  intro mg W σ O H0 H fls xs as Q nw hx h
  unfold dMaxL at h
  split at h
  · cases hx with
    | cons h1 t =>
      cases t
      obtain ⟨p, vs, rfl, s1, r1, n1⟩ := h1.list
      obtain ⟨is, e, h⟩ := FinG.bind_ok (intsD_nx _) h
      rw [r1.ints e] at s1
      cases is with
      | nil => exact h.elim
      | cons i is =>
        refine ⟨p, _, rfl, s1, by simp, fun m hm hle => ?_⟩
        obtain ⟨a1, a2⟩ := foldl_max_mem is i
        have : m = is.foldl max i := Int.le_antisymm (a2 _ hm) (hle _ a1)
        subst this
        exact PE_.flat h (.int _) rfl
  · exact h.elim
theorem cs_all : CallS X (rAll X.K) .fr dAll := by
  intro mg W σ O H0 H fls xs as Q nw hx h
  unfold dAll at h
  split at h
  · cases hx with
    | cons h1 t =>
      cases t
      obtain ⟨p, vs, rfl, s1, r1, n1⟩ := h1.list
      obtain ⟨is, e, h⟩ := FinG.bind_ok (blsD_nx _) h
      rw [r1.bls e] at s1
      exact ⟨p, is, rfl, s1, PE_.flat h (.bl _) rfl⟩
  · exact h.elim
theorem cs_any : CallS X (rAny X.K) .fr dAny := by
  intro mg W σ O H0 H fls xs as Q nw hx h
  unfold dAny at h
  split at h
  · cases hx with
    | cons h1 t =>
      cases t
      obtain ⟨p, vs, rfl, s1, r1, n1⟩ := h1.list
      obtain ⟨is, e, h⟩ := FinG.bind_ok (blsD_nx _) h
      rw [r1.bls e] at s1
      exact ⟨p, is, rfl, s1, PE_.flat h (.bl _) rfl⟩
  · exact h.elim
theorem cs_tuple : CallS X (fun xs H Q => ∃ p ys, xs = [.ref p] ∧ ((SqL X.K H p ys ∧ ∀ l, H l = none → Q (.ref l) (upd H l (.tup ys))) ∨ (SqT X.K H p ys ∧ Q (.ref p) H))) .fr dTuple := by
  intro mg W σ O H0 H fls xs as Q nw hx h
  unfold dTuple at h
  split at h
  · cases hx with
    | cons h1 t =>
      cases t
      obtain ⟨p, vs, rfl, s1, r1, n1⟩ := h1.list
      exact ⟨p, vs, rfl, .inl ⟨s1, fun l hl => PE_.newT h r1 n1 hl⟩⟩
  · cases hx with
    | cons h1 t =>
      cases t
      obtain ⟨p, vs, rfl, s1, r1, n1⟩ := h1.tuple
      exact ⟨p, vs, rfl, .inr ⟨s1, PE_.now h (.nolist (.tup s1 n1 r1) fun _ e => nomatch e)⟩⟩
  · exact h.elim
theorem cs_list : CallS X (fun xs H Q => ∃ p ys, xs = [.ref p] ∧ (SqL X.K H p ys ∨ SqT X.K H p ys) ∧ ∀ l, H l = none → Q (.ref l) (upd H l (.lst ys))) .fr dList := by
  intro mg W σ O H0 H fls xs as Q nw hx h
  unfold dList at h
  split at h
  · cases hx with
    | cons h1 t =>
      cases t
      obtain ⟨p, vs, rfl, s1, r1, n1⟩ := h1.list
      exact ⟨p, vs, rfl, .inl s1, fun l hl => PE_.newL h r1 n1 hl (nw l hl)⟩
  · cases hx with
    | cons h1 t =>
      cases t
      obtain ⟨p, vs, rfl, s1, r1, n1⟩ := h1.tuple
      exact ⟨p, vs, rfl, .inr s1, fun l hl => PE_.newL h r1 n1 hl (nw l hl)⟩
  · exact h.elim
/-! isinstance(e, T) -/
def Ty.nm : Ty → String
  | .int => "int" | .bool => "bool" | .str => "str" | .tuple => "tuple" | .list => "list" | .dict => "dict"
def tyNm : Da → String
  | .none => "NoneType" | .bool _ => "bool" | .int _ => "int" | .str _ => "str" | .list _ => "list" | .tuple _ => "tuple" | .dict _ => "dict"
theorem kit_all : ∀ (d : Da) (t : Ty), kitB (tyNm d) t.nm = some (isTy t d) := by
  have q : ∀ (a b : Ty), kitB a.nm b.nm = some (match a, b with | .int, .int => true | .bool, .int => true | .bool, .bool => true | .str, .str => true | .tuple, .tuple => true | .list, .list => true | .dict, .dict => true | _, _ => false) := by
    intro a b; cases a <;> cases b <;> decide +kernel
  have q0 : ∀ (b : Ty), kitB "NoneType" b.nm = some false := by intro b; cases b <;> decide +kernel
  intro d t
  cases d with
  | none => exact (q0 t).trans (by cases t <;> rfl)
  | bool k => exact (q .bool t).trans (by cases t <;> rfl)
  | int k => exact (q .int t).trans (by cases t <;> rfl)
  | str k => exact (q .str t).trans (by cases t <;> rfl)
  | list k => exact (q .list t).trans (by cases t <;> rfl)
  | tuple k => exact (q .tuple t).trans (by cases t <;> rfl)
  | dict k => exact (q .dict t).trans (by cases t <;> rfl)
end
end DL
set_option Elab.async false
set_option linter.all false
set_option maxRecDepth 100000
namespace DL
open PySem PySem.Spec PyProof.Rows L2

section
variable {X : Cx} {W : WX} {Γ : List Nat} {e : Expr} {es : List Expr} {fls : List Fl} {fl : Fl} {se : SE} {sa : SA} {pos p p2 : Pos} {x : Str}
theorem Res.ty {K : PySem.W.Frag} {H0 H : Hp} {O : List Addr} {v : V} {d : Da} (h : Res K H0 H O fl v d) : TyX K H v (.type (tyNm d)) := by
  cases d with
  | none => cases h.none_; exact .base .non
  | bool k => cases h.bool; exact .base (.bl k)
  | int i => cases h.int; exact .base (.int i)
  | str s => obtain ⟨rfl, n⟩ := h.str; exact .base (.str s)
  | list ds =>
    obtain ⟨p, vs, rfl, s1, r1, n1⟩ := h.list
    rcases s1 with (s1 | ⟨o, s1⟩) | ⟨o, its, n, hk, hc, _⟩
    · exact .base (.lst s1)
    · exact .base (.frz s1)
    · exact .kList hk hc
  | tuple ds =>
    obtain ⟨p, vs, rfl, s1, r1, n1⟩ := h.tuple
    rcases s1 with (s1 | ⟨o, s1⟩) | ⟨o, its, n, hk, hc, _⟩
    · exact .base (.tup s1)
    · exact .fTuple s1
    · exact .kTuple hk hc
  | dict _ =>
    rcases h.bo (H1 := H0) with h' | ⟨p, e, hp, ho⟩
    · cases h'
    · exact ho.elim
theorem ResAll.one {K : PySem.W.Frag} {H0 H : Hp} {O : List Addr} {f1 : Fl} {vs : List V} {ds : List Da} (h : ResAll K H0 H O [f1] vs ds) : ∃ v d, vs = [v] ∧ ds = [d] ∧ Res K H0 H O f1 v d := by
  cases h with
  | cons h t => cases t; exact ⟨_, _, rfl, rfl, h⟩
theorem ResAll.two {K : PySem.W.Frag} {H0 H : Hp} {O : List Addr} {f1 f2 : Fl} {vs : List V} {ds : List Da} (h : ResAll K H0 H O [f1, f2] vs ds) : ∃ v d v2 d2, vs = [v, v2] ∧ ds = [d, d2] ∧ Res K H0 H O f1 v d ∧ Res K H0 H O f2 v2 d2 := by
  cases h with
  | cons h t =>
    obtain ⟨v2, d2, rfl, rfl, h2⟩ := t.one
    exact ⟨_, _, _, _, rfl, rfl, h, h2⟩
theorem de_isi (T : Ty) (he : DE X W Γ e fl se) (hg : Gl X "isinstance") (hm : X.mg "isinstance" = none) (hg2 : Gl X T.nm) (hm2 : X.mg T.nm = none) (hv2 : bootBuiltins T.nm = some (.type T.nm)) (hn2 : (T.nm : Str) ≠ "__name__") (hd2 : ((T.nm : Str) == ("__debug__" : Str)) = false)
    (hs1 : starEach [e, .Name T.nm p2] X.env = (false, eval e X.env) :: starEach [.Name T.nm p2] X.env := by kernel_rfl) (hs2 : starEach [.Name (T.nm : Str) p2] X.env = (false, eval (.Name (T.nm : Str) p2) X.env) :: starEach [] X.env := by kernel_rfl) (hpl : (backTo pos (starEach [.Name (T.nm : Str) p2] X.env)).any (·.1) = false := by kernel_rfl) :
    DE X W Γ (.Call (.Name "isinstance" p) [e, .Name T.nm p2] [] pos) .fr (e1 (dIsi T) se) :=
  pe_imp (pe_callB call_isi hg hm boot_isinstance (pa_cons he (pa_cons (pe_bltn (v := .ty T.nm) hg2 hm2 hv2 rfl hn2 hd2) pa_nil hs2) hs1) (by decide) (by decide) hs1 hpl) fun σ H Q h => by
    obtain ⟨ρ, F, GO, E, h⟩ := h
    refine at_e E h fun d v H1 s1 r1 E1 h1 => ?_
    refine ⟨v, .ty T.nm, .type (tyNm d), .type T.nm, isTy T d, rfl, .ty _, r1.ty, kit_ty (kit_all d T), ?_⟩
    exact PE_.flat (PE_.mono s1 h1) (.bl _) rfl

/-! ### a def's promise -/
def spD (K : PySem.W.Frag) (mg : MG) (n : Nat) (g : List Da → R Da) : Sp := fun vs H Q E => vs.length = n ∧ ∃ ds O, (∀ b, b ∈ O → H b ≠ none) ∧ RpAll K H O vs ds ∧ match g ds with
  | .ok d => ∀ v H', Same H H' → Rp K H' O v d → Q v H'
  | .exc c => ∀ C H', mg c = some (.ref C) → Same H H' → E (.ref C) none H'
  | .bad => False
structure FnD (P : Program) (w : World) (K : PySem.W.Frag) (mg : MG) (base : Heap) (x : Str) (k n : Nat) (g : List Da → R Da) : Prop where
  ex : ∃ f fd ps, FnOk P w K mg base (L2.CX P w) k f fd ps (spD K mg n g) ∧ mg x = some (.ref f) ∧ PySem.W.keepIn K (.ref f) = true ∧ Binds K fd ps []
mutual
theorem Rp.anyO {K : PySem.W.Frag} {H : Hp} {O O' : List Addr} : ∀ {d : Da} {v : V}, noL d = true → Rp K H O v d → Rp K H O' v d
  | .none, _, _, h => by cases h; exact .non
  | .bool _, _, _, h => by cases h; exact .bl _
  | .int _, _, _, h => by cases h; exact .int _
  | .str _, _, _, h => by cases h with | str x n => exact .str _ n
  | .tuple ds, _, f, h => by
    cases h with
    | tup h n r => exact .tup h n (RpAll.anyO (by unfold noL at f; exact f) r)
  | .list _, _, f, _ => by unfold noL at f; cases f
  | .dict _, _, f, _ => by unfold noL at f; cases f
theorem RpAll.anyO {K : PySem.W.Frag} {H : Hp} {O O' : List Addr} : ∀ {ds : List Da} {vs : List V}, noLs ds = true → RpAll K H O vs ds → RpAll K H O' vs ds
  | [], _, _, h => by cases h; exact .nil
  | d :: ds, _, f, h => by
    unfold noLs at f
    obtain ⟨f1, f2⟩ := Bool.and_eq_true_iff.mp f
    cases h with
    | cons h t => exact .cons (Rp.anyO f1 h) (RpAll.anyO f2 t)
end
theorem Res.rp0 {K : PySem.W.Frag} {H0 H : Hp} {O : List Addr} {v : V} {d : Da} (h : Res K H0 H O fl v d) : Rp K H [] v d := by
  have g : Grow [] O [] H H := .sub_ (.refl H) fun _ z => (List.not_mem_nil z).elim
  rcases h.bo (H1 := H0) with h' | ⟨p, e, hp, ho⟩
  · exact h'.mono g
  · subst e
    exact (ho.mono g List.not_mem_nil).rp List.not_mem_nil
theorem ResAll.rp0 {K : PySem.W.Frag} {H0 H : Hp} {O : List Addr} : ∀ {fls : List Fl} {vs : List V} {ds : List Da}, ResAll K H0 H O fls vs ds → RpAll K H [] vs ds
  | _, _, _, .nil => .nil
  | _, _, _, .cons h t => .cons h.rp0 t.rp0
theorem ResAll.lenV {K : PySem.W.Frag} {H0 H : Hp} {O : List Addr} : ∀ {fls : List Fl} {vs : List V} {ds : List Da}, ResAll K H0 H O fls vs ds → vs.length = fls.length
  | _, _, _, .nil => rfl
  | _, _, _, .cons _ t => congrArg (· + 1) t.lenV
/-- f(..) of a def of the module -/
theorem de_call {k n : Nat} {g : List Da → R Da} (F : FnD X.prog X.w X.K X.mg X.base x k n g) (hr : Room k X.A) (hg : Gl X x) (tk : Takes X W) (ha : DA X W Γ (e :: es) fls sa) (hn : fls.length = n := by kernel_rfl) (hf : storable fls = true := by kernel_rfl)
    (hdb : (x == ("__debug__" : Str)) = false := by decide) (he : starEach (e :: es) X.env = (false, eval e X.env) :: starEach es X.env := by kernel_rfl) (hpl : (backTo pos (starEach es X.env)).any (·.1) = false := by kernel_rfl) :
    DE X W Γ (.Call (.Name x p) (e :: es) [] pos) .sh (eA g sa) := by
  obtain ⟨f, fd, ps, G, hm, hk, hb⟩ := F.ex
  refine pe_imp (pe_callS G hr hg hm hk hb (fun σ => passAt tk σ) ha hdb he hpl) fun σ H Q h => ?_
  obtain ⟨ρ, F, GO, E, h⟩ := h
  refine at_a E h fun ds vs H1 s1 r1 E1 h1 => ⟨r1.lenV.trans hn, ds, Ads GO ++ F, E1.alive, r1.rp hf, ?_⟩
  cases q : g ds with
  | ok d => rw [q] at h1; exact fun v H' s' r' => h1 v H' (s1.trans s') r'
  | exc c => rw [q] at h1; exact fun C H' hc s' => h1 C H' hc s'
  | bad => rw [q] at h1; exact h1.elim
/-- .. some of the arguments are the def's own lists: the answer has no list in it -/
theorem de_callO {k n : Nat} {g : List Da → R Da} (F : FnD X.prog X.w X.K X.mg X.base x k n g) (hr : Room k X.A) (hg : Gl X x) (tk : Takes X W) (ha : DA X W Γ (e :: es) fls sa) (hn : fls.length = n := by kernel_rfl)
    (hdb : (x == ("__debug__" : Str)) = false := by decide) (he : starEach (e :: es) X.env = (false, eval e X.env) :: starEach es X.env := by kernel_rfl) (hpl : (backTo pos (starEach es X.env)).any (·.1) = false := by kernel_rfl) :
    DE X W Γ (.Call (.Name x p) (e :: es) [] pos) .sh (e1 noR (eA g sa)) := by
  obtain ⟨f, fd, ps, G, hm, hk, hb⟩ := F.ex
  refine pe_imp (pe_callS G hr hg hm hk hb (fun σ => passAt tk σ) ha hdb he hpl) fun σ H Q h => ?_
  obtain ⟨ρ, F, GO, E, h⟩ := h
  have h : FinG X.mg W σ H ((sa ρ).bind fun ds => (g ds).bind noR) (PE_ X.K H (Ads GO ++ F) .sh Q) := by
    have h0 : FinG X.mg W σ H (((sa ρ).bind g).bind noR) (PE_ X.K H (Ads GO ++ F) .sh Q) := h
    cases q : sa ρ with
    | ok ds => rw [q] at h0; exact h0
    | exc c => rw [q] at h0; exact h0
    | bad => rw [q] at h0; exact h0
  refine at_a E h fun ds vs H1 s1 r1 E1 h1 => ⟨r1.lenV.trans hn, ds, [], fun _ z => (List.not_mem_nil z).elim, r1.rp0, ?_⟩
  cases q : g ds with
  | ok d =>
    rw [q] at h1
    have h2 : FinG X.mg W σ H1 (noR d) (PE_ X.K H (Ads GO ++ F) .sh Q) := h1
    unfold noR at h2
    split at h2
    · rename_i c
      exact fun v H' s' r' => h2 v H' (s1.trans s') (r'.anyO c)
    · exact h2.elim
  | exc c => rw [q] at h1; exact fun C H' hc s' => h1 C H' hc s'
  | bad => rw [q] at h1; exact h1.elim
end

/-! ### targets -/
section
variable {X : Cx} {Γ : List Nat} {pos : Pos}
/-- a target stores the value d of the slots is, all of them free of Γ -/
def tDG (K : PySem.W.Frag) (Γ : List Nat) (is : List Nat) (g : STg) : TG := fun v σ H Q => ∃ ρ F GO d, EnvR K Γ F GO σ H ρ ∧ Rp K H (Ads GO ++ F) v d ∧ match g d ρ with
  | .ok ρ' => ∀ σ', EnvR K Γ F GO σ' H ρ' → (∀ js, (∀ i, i ∈ is → i ∈ js) → wipe σ' js = wipe σ js) → Q σ' H
  | _ => False
def DG (X : Cx) (Γ : List Nat) (tg : Expr) (is : List Nat) (g : STg) : Prop := PG X tg (tDG X.K Γ is g) ∧ ∀ d ρ c, g d ρ ≠ .exc c
theorem wipe_get (σ : L2.St) : ∀ (js : List Nat) (i : Nat), i < σ.length → (wipe σ js)[i]? = if i ∈ js then some none else σ[i]?
  | [], i, _ => by simp [wipe]
  | j :: js, i, hi => by
    unfold wipe
    by_cases e : j = i
    · subst e
      rw [List.getElem?_set_self (by rw [wipe_length]; exact hi)]
      simp
    · rw [List.getElem?_set_ne e, wipe_get σ js i hi]
      simp [show ¬ i = j from fun z => e z.symm]
theorem wipe_ext {σ τ : L2.St} {js : List Nat} (hl : σ.length = τ.length) (h : ∀ i, i ∉ js → σ[i]? = τ[i]?) : wipe σ js = wipe τ js := by
  apply List.ext_getElem?
  intro i
  by_cases hi : i < σ.length
  · rw [wipe_get σ js i hi, wipe_get τ js i (by rw [← hl]; exact hi)]
    by_cases hj : i ∈ js
    · rw [if_pos hj, if_pos hj]
    · rw [if_neg hj, if_neg hj]; exact h i hj
  · rw [List.getElem?_eq_none (by rw [wipe_length]; omega), List.getElem?_eq_none (by rw [wipe_length]; omega)]
theorem wipe_set (σ : L2.St) {i : Nat} (o : Option V) {js : List Nat} (h : i ∈ js) : wipe (σ.set i o) js = wipe σ js :=
  wipe_ext (List.length_set ..) fun j hj => List.getElem?_set_ne fun e => hj (by rw [← e]; exact h)
theorem pg_imp {tg : Expr} {t t' : TG} (h : PG X tg t) (w : ∀ v σ H Q, t' v σ H Q → t v σ H Q) : PG X tg t' := ⟨fun pins s σ H v u Q I r q => h.run pins s σ H v u Q I r (w _ _ _ _ q)⟩
theorem dg_var {i : Nat} {x : Str} (hN : X.N.Nodup) (hi : X.N[i]? = some x) (hx : Loc X.env.scope x) (hΓ : Γ.contains i = false) (hf : X.fn x = true ∨ X.env.scope.names.lookup x = some .local := by first | exact .inl rfl | exact .inr rfl | assumption) : DG X Γ (.Name x pos) [i] (gVar i) :=
  ⟨pg_imp (pg_name hN hi hx hf) fun v σ H Q ⟨ρ, F, GO, d, E, r, h⟩ => by
    have hi' : i ∉ Γ := fun z => by rw [List.contains_iff_mem.mpr z] at hΓ; cases hΓ
    exact h _ (E.setS hi' r) fun js hj => wipe_set σ _ (hj i List.mem_cons_self), fun _ _ _ h => nomatch h⟩
/-- several targets -/
def tDGs (K : PySem.W.Frag) (Γ : List Nat) (is : List Nat) (gs : List STg) : TGs := fun vs σ H Q => ∃ ρ F GO ds, EnvR K Γ F GO σ H ρ ∧ RpAll K H (Ads GO ++ F) vs ds ∧ match gEach gs ds ρ with
  | .ok ρ' => ∀ σ', EnvR K Γ F GO σ' H ρ' → (∀ js, (∀ i, i ∈ is → i ∈ js) → wipe σ' js = wipe σ js) → Q σ' H
  | _ => False
def DGs (X : Cx) (Γ : List Nat) (ts : List Expr) (is : List Nat) (gs : List STg) : Prop := PGs X ts (tDGs X.K Γ is gs) ∧ ∀ g, g ∈ gs → ∀ d ρ c, g d ρ ≠ .exc c
theorem pgs_imp {ts : List Expr} {t t' : TGs} (h : PGs X ts t) (w : ∀ vs σ H Q, t' vs σ H Q → t vs σ H Q) : PGs X ts t' := ⟨fun pins s σ H vs us Q I r q => h.run pins s σ H vs us Q I r (w _ _ _ _ q)⟩
theorem dgs_nil : DGs X Γ [] [] [] := ⟨pgs_imp pgs_nil fun vs σ H Q ⟨ρ, F, GO, ds, E, r, h⟩ => by
  cases r with
  | nil => exact ⟨rfl, h σ E fun _ _ => rfl⟩
  | cons a b => exact h.elim, fun g hg => (List.not_mem_nil hg).elim⟩
theorem dgs_cons {t : Expr} {ts : List Expr} {is js : List Nat} {g : STg} {gs : List STg} (h1 : DG X Γ t is g) (h2 : DGs X Γ ts js gs) (hs : (assignEach (t :: ts) X.env).map (·.2) = assign t X.env :: (assignEach ts X.env).map (·.2) := by kernel_rfl) : DGs X Γ (t :: ts) (is ++ js) (g :: gs) :=
  ⟨pgs_imp (pgs_cons h1.1 h2.1 hs) fun vs σ H Q ⟨ρ, F, GO, ds, E, r, h⟩ => by
    cases r with
    | nil => exact h.elim
    | @cons v vs d ds r1 rr =>
      refine ⟨v, vs, rfl, ρ, F, GO, d, E, r1, ?_⟩
      rw [gEach_cons] at h
      cases q : g d ρ with
      | ok ρ1 =>
        rw [q] at h
        show ∀ σ', EnvR X.K Γ F GO σ' H ρ1 → _ → _
        intro σ1 E1 w1
        refine ⟨ρ1, F, GO, ds, E1, rr, ?_⟩
        have h' : match gEach gs ds ρ1 with
          | .ok ρ' => ∀ σ', EnvR X.K Γ F GO σ' H ρ' → (∀ js_1, (∀ i, i ∈ is ++ js → i ∈ js_1) → wipe σ' js_1 = wipe σ js_1) → Q σ' H
          | _ => False := h
        cases q2 : gEach gs ds ρ1 with
        | ok ρ2 =>
          rw [q2] at h'
          exact fun σ2 E2 w2 => h' σ2 E2 fun ks hk => (w2 ks fun i hi => hk i (List.mem_append_right _ hi)).trans (w1 ks fun i hi => hk i (List.mem_append_left _ hi))
        | exc _ => rw [q2] at h'; exact h'.elim
        | bad => rw [q2] at h'; exact h'.elim
      | exc _ => rw [q] at h; exact h.elim
      | bad => rw [q] at h; exact h.elim, fun g' hg' => by
    rcases List.mem_cons.mp hg' with e | hg'
    · subst e; exact h1.2
    · exact h2.2 g' hg'⟩
theorem gEach_nx : ∀ {gs : List STg}, (∀ g, g ∈ gs → ∀ d ρ c, g d ρ ≠ .exc c) → ∀ ds ρ c, gEach gs ds ρ ≠ .exc c
  | [], _, [], _, _, h => nomatch h
  | [], _, _ :: _, _, _, h => nomatch h
  | _ :: _, _, [], _, _, h => nomatch h
  | g :: gs, n, d :: ds, ρ, c, h => by
    rw [gEach_cons] at h
    cases q : g d ρ with
    | ok ρ1 => rw [q] at h; exact gEach_nx (fun g' hg' => n g' (List.mem_cons_of_mem _ hg')) ds ρ1 c h
    | exc _ => exact n g List.mem_cons_self _ _ _ q
    | bad => rw [q] at h; cases h
theorem gEach_len : ∀ {gs : List STg} {ds : List Da} {ρ ρ' : Ev}, gEach gs ds ρ = .ok ρ' → ds.length = gs.length
  | [], [], _, _, _ => rfl
  | [], _ :: _, _, _, h => by cases h
  | _ :: _, [], _, _, h => by cases h
  | g :: gs, d :: ds, ρ, ρ', h => by
    rw [gEach_cons] at h
    cases q : g d ρ with
    | ok ρ1 => rw [q] at h; exact congrArg (· + 1) (gEach_len (ρ := ρ1) (ρ' := ρ') h)
    | exc _ => rw [q] at h; cases h
    | bad => rw [q] at h; cases h
theorem dg_tup {es : List Expr} {k : Nat} {is : List Nat} {gs : List STg} (hc : X.calm = true) (h : DGs X Γ es is gs) (hn : (assignEach es X.env).length = gs.length := by kernel_rfl) (hst : (assignEach es X.env).findIdx? (·.1) = none := by kernel_rfl) : DG X Γ (.Tuple es k pos) is (gTupD gs) :=
  ⟨pg_imp (pg_tup hc h.1 hn hst) fun v σ H Q ⟨ρ, F, GO, d, E, r, h⟩ => by
    cases d with
    | tuple ds =>
      cases r with
      | tup hq n rr =>
        rw [gTupD_tuple] at h
        refine ⟨_, _, rfl, hq, ?_, ρ, F, GO, ds, E, rr, h⟩
        rw [rr.length]
        cases q : gEach gs ds ρ with
        | ok ρ' => exact gEach_len q
        | exc _ => rw [q] at h; exact h.elim
        | bad => rw [q] at h; exact h.elim
    | _ => exact h.elim, fun d ρ c q => by
    cases d with
    | tuple ds => exact gEach_nx h.2 ds ρ c q
    | _ => cases q⟩
end

/-! ### what is walked -/
section
variable {X : Cx} {W : WX} {Γ : List Nat} {e a b : Expr} {fl fa fb : Fl} {se sa sb : SE} {pos p p2 : Pos} {x : Str} {tg : Expr}
/-- the turns give the items xs, from H1 on, while all but G is kept -/
def ItD (K : PySem.W.Frag) (G O : List Addr) (H1 : Hp) (J : It) (xs : List Da) : Prop := ∀ i H O', Grow G O O' H1 H → (∀ x, xs[i]? = some x → J.go i H ∧ ∀ v H', J.yld i H v H' → Same H H' ∧ Rp K H' O' v x) ∧ (i = xs.length → J.stop i H)
def sto (s : Bool) (O : List Addr) : List Addr := if s then O else []
def tDI (K : PySem.W.Frag) (mg : MG) (W : WX) (Γ : List Nat) (s : Bool) (si : SI) : TI := fun σ H R' => At K Γ σ H fun ρ F GO => FinG mg W σ H (si ρ) fun xs => ∀ J H1, Same H H1 → ItD K (sto s (Ads GO ++ F)) (Ads GO ++ F) H1 J xs → xs.length ≤ big → R' J H1
def DI (X : Cx) (W : WX) (Γ : List Nat) (tg iter : Expr) (s : Bool) (si : SI) : Prop := PI X tg iter (tDI X.K X.mg W Γ s si)
theorem pi_imp {t t' : TI} (h : PI X tg e t) (w : ∀ σ H Q, t' σ H Q → t σ H Q) : PI X tg e t' := ⟨fun pins s σ H Q I q => h.run pins s σ H Q I (w _ _ _ q)⟩
/-- a list or a tuple, by its value -/
def iLT (K : PySem.W.Frag) (tl : TE) : TI := fun σ H R' => tl σ H fun x H1 => ∃ a, x = .ref a ∧ (((∃ xs, SqL K H1 a xs) ∧ R' (Itl K a) H1) ∨ ((∃ xs, SqT K H1 a xs) ∧ R' (Itt K a) H1))
theorem pi_lt {l : Expr} {tl : TE} (hl : PE X l tl) : PI X tg l (iLT X.K tl) := by
  refine ⟨fun pins s σ H R I h => ?_⟩
  refine thn (hl.run pins s σ H _ I h) fun v s1 ⟨x, H1, I1, r1, q1⟩ => ?_
  obtain ⟨a, e, q⟩ := q1
  subst e
  cases r1
  rcases q with ⟨⟨xs, hq⟩, q⟩ | ⟨⟨xs, hq⟩, q⟩
  · obtain ⟨its, rv, p, hz⟩ := I1.list hq
    refine wpAny_pyIter_list p.isList ?_
    refine ⟨s1.heap.objs.size, [s1.heap.objs.size], _, _, H1, rfl, I1.kept (t' := s1.toks) fun b o e => Heap.get?_push_of_some _ e, turn_list a _, ⟨_, Heap.get?_push_size _ rfl, rfl, rfl⟩, fun b hb => ?_, q⟩
    have e : b = s1.heap.objs.size := by simpa using hb
    subst e
    exact I1.fpOk (Nat.le_refl _) (I1.hok.fresh (Nat.le_refl _))
  · obtain ⟨its, rv, p, hz⟩ := I1.tuple hq
    refine wpAny_pyIter_tuple (show s1.heap.IsTuple a its.toArray from p) ?_
    refine ⟨s1.heap.objs.size, [s1.heap.objs.size], _, _, H1, rfl, I1.kept (t' := s1.toks) fun b o e => Heap.get?_push_of_some _ e, turn_tuple a _, ⟨_, Heap.get?_push_size _ rfl, rfl, rfl⟩, fun b hb => ?_, q⟩
    have e : b = s1.heap.objs.size := by simpa using hb
    subst e
    exact I1.fpOk (Nat.le_refl _) (I1.hok.fresh (Nat.le_refl _))
/-- the list stays as it is -/
theorem Res.stays {K : PySem.W.Frag} {H0 H1 : Hp} {GO : List (Nat × Addr)} {F : List Addr} {v : V} {ds : List Da} (h : Res K H0 H1 (Ads GO ++ F) fl v (.list ds)) (s : Bool) (hs : s = true → storable [fl] = true) :
    ∃ p vs, v = .ref p ∧ RpAll K H1 (Ads GO ++ F) vs ds ∧ ds.length ≤ big ∧ ∀ H O', Grow (sto s (Ads GO ++ F)) (Ads GO ++ F) O' H1 H → SqL K H p vs := by
  cases s with
  | true =>
    have h' := h.stored (hs rfl)
    cases h' with
    | lst hh n r =>
      refine ⟨_, _, rfl, r, n, fun H O' g => (LsR.mono (O' := O') g hh).sq⟩
  | false =>
    obtain ⟨p, vs, rfl, s1, r1, n1⟩ := h.list
    refine ⟨p, vs, rfl, r1, n1, fun H O' g => ?_⟩
    have k : Same H1 H := fun b o e => g.keep b o e fun z => (List.not_mem_nil z).elim
    exact k.seq s1
theorem di_l (s : Bool) (he : DE X W Γ e fl se) (hs : s = true → storable [fl] = true) : DI X W Γ tg e s (iL se) :=
  pi_imp (pi_lt he) fun σ H Q h => by
    obtain ⟨ρ, F, GO, E, h⟩ := h
    refine at_e E h fun d v H1 s1 r1 E1 h1 => ?_
    cases d with
    | list ds =>
      obtain ⟨p, vs, rfl, r2, n2, st⟩ := r1.stays s hs
      have h2 := h1 (Itl X.K p) H1 s1 ?_ n2
      · refine ⟨p, rfl, .inl ⟨⟨vs, st H1 (Ads GO ++ F) ⟨.refl H1, fun b hb => ?_, fun b hb => .inl hb⟩⟩, h2⟩⟩
        cases s with
        | true => exact hb
        | false => exact (List.not_mem_nil hb).elim
      · intro i H' O' g
        have q := st H' O' g
        refine ⟨fun x hx => ?_, fun hl => ⟨vs, q, by rw [r2.length]; omega⟩⟩
        obtain ⟨v, hv, rv⟩ := (r2.mono g).get hx
        refine ⟨⟨vs, v, q, hv⟩, fun v' H'' ⟨e1, e2⟩ => ?_⟩
        subst e1
        have := e2 vs q
        rw [hv] at this
        cases this
        exact ⟨.refl _, rv⟩
    | tuple ds =>
      obtain ⟨p, vs, rfl, q1, r2, n2⟩ := r1.tuple
      have h2 := h1 (Itt X.K p) H1 s1 ?_ n2
      · exact ⟨p, rfl, .inr ⟨⟨vs, q1⟩, h2⟩⟩
      · intro i H' O' g
        have q := sqt_keep g.keep q1
        refine ⟨fun x hx => ?_, fun hl => ⟨vs, q, by rw [r2.length]; omega⟩⟩
        obtain ⟨v, hv, rv⟩ := (r2.mono g).get hx
        refine ⟨⟨vs, v, q, hv⟩, fun v' H'' ⟨e1, e2⟩ => ?_⟩
        subst e1
        have := e2 vs q
        rw [hv] at this
        cases this
        exact ⟨.refl _, rv⟩
    | _ => exact h1.elim
theorem rngD_get {lo : Int} {n i : Nat} {x : Da} (h : (rngD lo n)[i]? = some x) : i < n ∧ x = .int (lo + (i : Nat)) := by
  unfold rngD at h
  rw [List.getElem?_map] at h
  by_cases hi : i < n
  · rw [List.getElem?_range hi] at h
    exact ⟨hi, (Option.some.inj h).symm⟩
  · rw [List.getElem?_eq_none (by rw [List.length_range]; omega)] at h
    cases h
theorem rngD_len (lo : Int) (n : Nat) : (rngD lo n).length = n := by unfold rngD; rw [List.length_map, List.length_range]
theorem itD_rng {K : PySem.W.Frag} {G O : List Addr} {H1 : Hp} {lo : Int} {n : Nat} : ItD K G O H1 (Itr lo n) (rngD lo n) := fun i H O' g =>
  ⟨fun x hx => by
    obtain ⟨hi, rfl⟩ := rngD_get hx
    exact ⟨hi, fun v H' ⟨e1, e2⟩ => by subst e1 e2; exact ⟨.refl _, .int _⟩⟩, fun hl => by rw [rngD_len] at hl; exact Nat.le_of_eq hl.symm⟩
theorem di_rng1 (s : Bool) (hg : Gl X "range") (hm : X.mg "range" = none) (ha : DA X W Γ [a] [fa] (aCons sa aNil)) (hs : starEach [a] X.env = [(false, eval a X.env)] := by kernel_rfl) : DI X W Γ tg (.Call (.Name "range" p) [a] [] pos) s (iRng1 sa) :=
  pi_imp (pi_range1 hg hm ha hs) fun σ H Q h => by
    obtain ⟨ρ, F, GO, E, h⟩ := h
    have h : FinG X.mg W σ H ((aCons sa aNil ρ).bind fun xs => match xs with | [x] => (toI x).bind fun n => dRng 0 n | _ => .bad) fun xs => ∀ J H1, Same H H1 → ItD X.K (sto s (Ads GO ++ F)) (Ads GO ++ F) H1 J xs → xs.length ≤ big → Q J H1 := by
      have h0 : FinG X.mg W σ H ((sa ρ).bind fun x => (toI x).bind fun n => dRng 0 n) fun xs => ∀ J H1, Same H H1 → ItD X.K (sto s (Ads GO ++ F)) (Ads GO ++ F) H1 J xs → xs.length ≤ big → Q J H1 := h
      unfold aCons
      cases q : sa ρ with
      | ok x => rw [q] at h0; exact h0
      | exc c => rw [q] at h0; exact h0
      | bad => rw [q] at h0; exact h0
    refine at_a E h fun ds vs H1 s1 r1 E1 h1 => ?_
    obtain ⟨v, d, rfl, rfl, q1⟩ := r1.one
    have h1 : FinG X.mg W σ H1 ((toI d).bind fun n => dRng 0 n) fun xs => ∀ J H1, Same H H1 → ItD X.K (sto s (Ads GO ++ F)) (Ads GO ++ F) H1 J xs → xs.length ≤ big → Q J H1 := h1
    cases d with
    | int j =>
      cases q1.int
      have h2 : FinG X.mg W σ H1 (dRng 0 j) fun xs => ∀ J H1, Same H H1 → ItD X.K (sto s (Ads GO ++ F)) (Ads GO ++ F) H1 J xs → xs.length ≤ big → Q J H1 := h1
      unfold dRng at h2
      split at h2
      · rename_i c
        obtain ⟨c1, c2, c3, c4, c5⟩ := rngC c
        refine ⟨j, rfl, c3, c4, ?_⟩
        have := h2 (Itr 0 (j - 0).toNat) H1 s1 itD_rng (by rw [rngD_len]; exact c5)
        rw [Int.sub_zero] at this
        exact this
      · exact h2.elim
    | _ => exact h1.elim
theorem di_rng2 (s : Bool) (hg : Gl X "range") (hm : X.mg "range" = none) (ha : DA X W Γ [a, b] [fa, fb] (aCons sa (aCons sb aNil))) (hs : starEach [a, b] X.env = [(false, eval a X.env), (false, eval b X.env)] := by kernel_rfl) (hs2 : starEach [b] X.env = [(false, eval b X.env)] := by kernel_rfl) : DI X W Γ tg (.Call (.Name "range" p) [a, b] [] pos) s (iRng2 sa sb) :=
  pi_imp (pi_range2 hg hm ha hs hs2) fun σ H Q h => by
    obtain ⟨ρ, F, GO, E, h⟩ := h
    have h : FinG X.mg W σ H ((aCons sa (aCons sb aNil) ρ).bind fun xs => match xs with | [x, y] => (toI x).bind fun i => (toI y).bind fun j => dRng i j | _ => .bad) fun xs => ∀ J H1, Same H H1 → ItD X.K (sto s (Ads GO ++ F)) (Ads GO ++ F) H1 J xs → xs.length ≤ big → Q J H1 := by
      have h0 : FinG X.mg W σ H ((sa ρ).bind fun x => (sb ρ).bind fun y => (toI x).bind fun i => (toI y).bind fun j => dRng i j) fun xs => ∀ J H1, Same H H1 → ItD X.K (sto s (Ads GO ++ F)) (Ads GO ++ F) H1 J xs → xs.length ≤ big → Q J H1 := h
      unfold aCons
      cases q : sa ρ with
      | ok x =>
        rw [q] at h0
        have h0 : FinG X.mg W σ H ((sb ρ).bind fun y => (toI x).bind fun i => (toI y).bind fun j => dRng i j) _ := h0
        cases q2 : sb ρ with
        | ok y => rw [q2] at h0; simpa [q2] using h0
        | exc c => rw [q2] at h0; simpa [q2] using h0
        | bad => rw [q2] at h0; simpa [q2] using h0
      | exc c => rw [q] at h0; exact h0
      | bad => rw [q] at h0; exact h0
    refine at_a E h fun ds vs H1 s1 r1 E1 h1 => ?_
    obtain ⟨v, d, v2, d2, rfl, rfl, q1, q2⟩ := r1.two
    have h1 : FinG X.mg W σ H1 ((toI d).bind fun i => (toI d2).bind fun j => dRng i j) fun xs => ∀ J H1, Same H H1 → ItD X.K (sto s (Ads GO ++ F)) (Ads GO ++ F) H1 J xs → xs.length ≤ big → Q J H1 := h1
    cases d with
    | int i =>
      cases d2 with
      | int j =>
        cases q1.int
        cases q2.int
        have h2 : FinG X.mg W σ H1 (dRng i j) fun xs => ∀ J H1, Same H H1 → ItD X.K (sto s (Ads GO ++ F)) (Ads GO ++ F) H1 J xs → xs.length ≤ big → Q J H1 := h1
        unfold dRng at h2
        split at h2
        · rename_i c
          obtain ⟨c1, c2, c3, c4, c5⟩ := rngC c
          exact ⟨i, j, rfl, ⟨c1, c2, c3, c4⟩, h2 (Itr i (j - i).toNat) H1 s1 itD_rng (by rw [rngD_len]; exact c5)⟩
        · exact h2.elim
      | _ => exact h1.elim
    | _ => exact h1.elim
end
end DL
set_option Elab.async false
set_option linter.all false
set_option maxRecDepth 100000
namespace DL
open PySem PySem.Spec PyProof.Rows L2

/-! ### comprehensions -/
section
variable {X : Cx} {W : WX} {Γ : List Nat} {pos : Pos}
theorem lcL_cons {f : Da → R (Option Da)} {x : Da} {xs ys : List Da} (h : lcL f (x :: xs) = .ok ys) : ∃ y zs, f x = .ok y ∧ lcL f xs = .ok zs ∧ ys = (match y with
    | none => zs
    | some v => v :: zs) := by
  unfold lcL at h
  cases e : f x with
  | ok y =>
    rw [e] at h
    cases q : lcL f xs with
    | ok zs =>
      rw [q] at h
      exact ⟨y, zs, rfl, rfl, (R.ok.inj h).symm⟩
    | exc _ => rw [q] at h; cases h
    | bad => rw [q] at h; cases h
  | exc _ => rw [e] at h; cases h
  | bad => rw [e] at h; cases h
theorem lcL_nx {f : Da → R (Option Da)} : ∀ (xs : List Da) (c : Str), lcL f xs ≠ .exc c
  | [], c, h => nomatch h
  | x :: xs, c, h => by
    unfold lcL at h
    cases e : f x with
    | ok y =>
      rw [e] at h
      cases q : lcL f xs with
      | ok zs => rw [q] at h; cases h
      | exc _ => rw [q] at h; cases h
      | bad => rw [q] at h; cases h
    | exc _ => rw [e] at h; cases h
    | bad => rw [e] at h; cases h
theorem lcL_len {f : Da → R (Option Da)} : ∀ {xs ys : List Da}, lcL f xs = .ok ys → ys.length ≤ xs.length
  | [], ys, h => by cases h; exact Nat.le_refl _
  | x :: xs, ys, h => by
    obtain ⟨y, zs, _, e2, rfl⟩ := lcL_cons h
    have := lcL_len e2
    cases y with
    | none => exact Nat.le_succ_of_le this
    | some v => exact Nat.succ_le_succ this
theorem ok_of_fin {α : Type} {mg : MG} {σ : L2.St} {H : Hp} {r : R α} {P : α → Prop} (h : ∃ a, r = .ok a ∧ P a) : FinG mg W σ H r P := by
  obtain ⟨a, rfl, h⟩ := h
  exact h
/-- the list that a comprehension makes is foreign to what it reckons -/
theorem EnvR.under {K : PySem.W.Frag} {F : List Addr} {GO : List (Nat × Addr)} {σ : L2.St} {H1 H : Hp} {ρ : Ev} {D : Addr} (E : EnvR K Γ F GO σ H1 ρ) (hD : H1 D = none) (s : Same H1 H) (hH : H D ≠ none) : EnvR K Γ (D :: F) GO σ H ρ := by
  have hn : D ∉ Ads GO ++ F := E.newp hD
  have g : Grow [] (Ads GO ++ F) (Ads GO ++ (D :: F)) H1 H := ⟨.of_same s, fun _ z => (List.not_mem_nil z).elim, fun b hb => by
    rcases List.mem_append.mp hb with hb | hb
    · exact .inl (List.mem_append_left _ hb)
    · rcases List.mem_cons.mp hb with e | hb
      · subst e; exact .inr hD
      · exact .inl (List.mem_append_right _ hb)⟩
  have E1 := E.mono s
  refine ⟨E.len, E.dom, E.inj, fun p hp hz => ?_, fun b hb => ?_, fun i p hp => ?_, fun i d hi hd => ?_⟩
  · rcases List.mem_cons.mp hz with e | hz
    · subst e; exact hn (List.mem_append_left _ hp)
    · exact E.dis p hp hz
  · rcases List.mem_cons.mp hb with e | hb
    · subst e; exact hH
    · exact E1.frn b hb
  · obtain ⟨h1, d, h2, h3⟩ := E.own i p hp
    exact ⟨h1, d, h2, h3.mono g List.not_mem_nil⟩
  · obtain ⟨v, h1, h2⟩ := E.sh i d hi hd
    exact ⟨v, h1, h2.mono g⟩
theorem Same.upd_new {H1 H : Hp} {D : Addr} {o : HO} (hD : H1 D = none) (s : Same H1 H) : Same H1 (upd H D o) := fun b x e => by
  rw [upd_ne (ne_of_none e hD)]
  exact s b x e
theorem lc_s {own : List Nat} {si : SI} {is : List Nat} {g : STg} {st se : SE} {fl : Fl} (hown : own.all (fun i => !Γ.contains i) = true) (his : is.all (fun i => own.contains i) = true) (hf : storable [fl] = true)
    {σ : L2.St} {H0 : Hp} {Q : VK} (h : tDE X.K X.mg W Γ .fr (eLc si g own st se) σ H0 Q) :
    tLc (tDI X.K X.mg W Γ false si) (tDG X.K Γ is g) (tDT X.K X.mg W0 Γ st) (tDE X.K X.mg W0 Γ fl se) own σ H0 Q := by
  obtain ⟨ρ, F, GO, E, h⟩ := h
  have hown' : ∀ i, i ∈ own → i ∉ Γ := fun i hi hz => by
    have := List.all_eq_true.mp hown i hi
    rw [List.contains_iff_mem.mpr hz] at this
    cases this
  have his' : ∀ i, i ∈ is → i ∈ own := fun i hi => List.contains_iff_mem.mp (List.all_eq_true.mp his i hi)
  unfold eLc at h
  refine ⟨ρ, F, GO, E, h.bind.imp fun xs _ h J H1 s1 itd hlen D hD => ?_⟩
  obtain ⟨ys, hys, h⟩ := FinG.bind_ok (lcL_nx xs) h
  have hq : PE_ X.K H0 (Ads GO ++ F) .fr Q (.list ys) := h
  have E1 := E.mono s1
  have hnD : D ∉ Ads GO ++ F := E1.newp hD
  have sub : ∀ b, b ∈ Ads GO ++ F → b ∈ Ads GO ++ (D :: F) := fun b hb => by
    rcases List.mem_append.mp hb with hb | hb
    · exact List.mem_append_left _ hb
    · exact List.mem_append_right _ (List.mem_cons_of_mem _ hb)
  refine ⟨fun i m H => i ≤ xs.length ∧ m = xs.length - i ∧ Same H1 H ∧ ∃ acc ds zs, H D = some (.lst acc) ∧ RpAll X.K H (Ads GO ++ (D :: F)) acc ds ∧ ds.length ≤ i ∧ lcL (lcF g own st se ρ) (xs.drop i) = .ok zs ∧ ds ++ zs = ys,
    ⟨xs.length, Nat.zero_le _, rfl, Same.upd_new hD (.refl H1), [], [], ys, upd_same, .nil, Nat.le_refl _, hys, rfl⟩, ?_⟩
  rintro i m H ⟨hi, rfl, sH, acc, ds, zs, hacc, racc, hdl, hzs, hcat⟩
  have gr : Grow [] (Ads GO ++ F) (Ads GO ++ (D :: F)) H1 H := ⟨.of_same sH, fun _ z => (List.not_mem_nil z).elim, fun b hb => by
    rcases List.mem_append.mp hb with hb | hb
    · exact .inl (List.mem_append_left _ hb)
    · rcases List.mem_cons.mp hb with e | hb
      · subst e; exact .inr hD
      · exact .inl (List.mem_append_right _ hb)⟩
  obtain ⟨it1, it2⟩ := itd i H _ gr
  by_cases hlt : i < xs.length
  · refine .inr ?_
    have hx : xs[i]? = some xs[i] := List.getElem?_eq_getElem hlt
    obtain ⟨go, yld⟩ := it1 _ hx
    have hdrop : xs.drop i = xs[i] :: xs.drop (i + 1) := List.drop_eq_getElem_cons hlt
    rw [hdrop] at hzs
    obtain ⟨y, ws, e1, e2, e3⟩ := lcL_cons hzs
    refine ⟨go, fun H' => Same H1 H' ∧ ∃ acc ds zs, H' D = some (.lst acc) ∧ RpAll X.K H' (Ads GO ++ (D :: F)) acc ds ∧ ds.length ≤ i + 1 ∧ lcL (lcF g own st se ρ) (xs.drop (i + 1)) = .ok zs ∧ ds ++ zs = ys, fun H' hw => ⟨xs.length - (i + 1), by omega, hlt, rfl, hw⟩, fun v H' hv => ?_⟩
    obtain ⟨s2, rv⟩ := yld v H' hv
    have sH' : Same H1 H' := sH.trans s2
    have hD' : H' D = some (.lst acc) := s2 _ _ hacc
    have EB : EnvR X.K Γ (D :: F) GO (wipe σ own) H' (kill ρ own) := (E1.under hD sH' (by rw [hD']; exact fun z => nomatch z)).wipeAll hown'
    unfold lcF at e1
    cases q1 : g xs[i] (kill ρ own) with
    | ok ρ1 =>
      rw [q1] at e1
      refine ⟨kill ρ own, D :: F, GO, xs[i], EB, rv, ?_⟩
      rw [q1]
      intro σ2 E2 w2
      refine ⟨(w2 own his').trans (wipe_ext (wipe_length _ _) fun j hj => ?_), ?_⟩
      · by_cases hl : j < σ.length
        · rw [wipe_get σ own j hl, if_neg hj]
        · rw [List.getElem?_eq_none (by rw [wipe_length]; omega), List.getElem?_eq_none (by omega)]
      have e1 : ((st ρ1).bind fun b => if tru b then (se ρ1).bind fun v => .ok (some v) else .ok none) = .ok y := e1
      cases q2 : st ρ1 with
      | ok b =>
        rw [q2] at e1
        have e1 : (if tru b then (se ρ1).bind fun v => .ok (some v) else .ok none) = .ok y := e1
        refine ⟨ρ1, D :: F, GO, E2, ok_of_fin ⟨b, q2, fun H3 s3 => ?_⟩⟩
        cases q3 : tru b with
        | true =>
          rw [if_pos rfl]
          rw [q3, if_pos rfl] at e1
          cases q4 : se ρ1 with
          | ok d =>
            rw [q4] at e1
            have ey : y = some d := (R.ok.inj e1).symm
            subst ey
            refine ⟨ρ1, D :: F, GO, E2.mono s3, ok_of_fin ⟨d, q4, fun v4 H4 s4 r4 => ?_⟩⟩
            have hD4 : H4 D = some (.lst acc) := s4 _ _ (s3 _ _ hD')
            have sH4 : Same H1 H4 := (sH'.trans s3).trans s4
            have r4' := r4.stored hf
            have g4 : Grow [D] (Ads GO ++ (D :: F)) (Ads GO ++ (D :: F)) H4 (upd H4 D (.lst (acc ++ [v4]))) := ⟨fun b o e hb => by
              by_cases q : b = D
              · subst q
                rw [hD4] at e
                cases e
                cases hb List.mem_cons_self
              · rw [upd_ne q]; exact e, fun b hb => by
              rw [List.mem_singleton] at hb
              subst hb
              exact List.mem_append_right _ List.mem_cons_self, fun b hb => .inl hb⟩
            have racc4 : RpAll X.K H4 (Ads GO ++ (D :: F)) acc ds := racc.mono (.same ((s2.trans s3).trans s4))
            refine ⟨acc, hD4, ?_, Same.upd_new hD sH4, acc ++ [v4], ds ++ [d], ws, upd_same, (racc4.append (.cons r4' .nil)).mono g4, ?_, e2, ?_⟩
            · rw [racc.length]
              exact Nat.lt_of_le_of_lt hdl (Nat.lt_of_lt_of_le hlt (big_le hlen))
            · rw [List.length_append, List.length_singleton]; omega
            · rw [← hcat, e3, List.append_assoc]; rfl
          | exc _ => rw [q4] at e1; cases e1
          | bad => rw [q4] at e1; cases e1
        | false =>
          rw [if_neg Bool.false_ne_true]
          rw [q3, if_neg Bool.false_ne_true] at e1
          have ey : y = none := (R.ok.inj e1).symm
          subst ey
          subst e3
          exact ⟨sH'.trans s3, acc, ds, zs, s3 _ _ hD', racc.mono (.same (s2.trans s3)), Nat.le_succ_of_le hdl, e2, hcat⟩
      | exc _ => rw [q2] at e1; cases e1
      | bad => rw [q2] at e1; cases e1
    | exc _ => rw [q1] at e1; cases e1
    | bad => rw [q1] at e1; cases e1
  · have hi' : i = xs.length := by omega
    refine .inl ⟨it2 (by omega), ?_⟩
    have ez : zs = [] := by
      rw [List.drop_of_length_le (by omega)] at hzs
      cases hzs; rfl
    subst ez
    rw [List.append_nil] at hcat
    subst hcat
    have g5 : Grow [] (Ads GO ++ (D :: F)) (Ads GO ++ F) H H := .sub_ (.refl H) sub
    have g6 : Grow [] (Ads GO ++ (D :: F)) (D :: (Ads GO ++ F)) H H := .sub_ (.refl H) fun b hb => by
      rcases List.mem_cons.mp hb with e | hb
      · subst e; exact List.mem_append_right _ List.mem_cons_self
      · exact sub b hb
    have nl : ds.length ≤ big := Nat.le_trans hdl (by omega)
    refine hq _ _ (s1.trans sH) ⟨.lst (.inl ⟨.inl hacc, hnD⟩) nl (racc.mono g5), fun ds' e => ?_⟩
    cases e
    exact ⟨D, rfl, s1.free hD, acc, hacc, racc.mono g6, nl⟩
section
variable {elt tg iter : Expr} {ifs : List Expr} {scope : Scope} {own : List (Str × Nat)} {si : SI} {is : List Nat} {g : STg} {st se : SE} {fl : Fl}
def DTs (X : Cx) (W : WX) (Γ : List Nat) (ifs : List Expr) (st : SE) : Prop := PTs X ifs (tDT X.K X.mg W Γ st)
theorem dts_nil : DTs X W Γ [] eYes := ⟨fun pins s σ H Q I h => pts_nil.run pins s σ H Q I (by
  obtain ⟨ρ, F, GO, E, h⟩ := h
  exact h H (.refl H))⟩
theorem dts_one {c : Expr} {sc : SE} (h : DT X W Γ c sc) : DTs X W Γ [c] sc := pts_one h
theorem de_lc (hc : X.calm = true) (hN : X.N.Nodup) (hi : DI X W Γ tg iter false si) (ok : BlkOk X.N X.env.scope scope own)
    (hown : (own.map (·.2)).all (fun i => !Γ.contains i) = true) (his : is.all (fun i => (own.map (·.2)).contains i) = true)
    (hg : ∀ (s : Shared) (H : Hp) (C : Addr) (cl : List (Str × Addr)) (fp : List Addr), DG (X.blk s H scope (compEnvC scope cl C X.env) fp) Γ tg is g)
    (ht : ∀ (s : Shared) (H : Hp) (C : Addr) (cl : List (Str × Addr)) (fp : List Addr), DTs (X.blk s H scope (compEnvC scope cl C X.env) fp) W0 Γ ifs st)
    (he : ∀ (s : Shared) (H : Hp) (C : Addr) (cl : List (Str × Addr)) (fp : List Addr), DE (X.blk s H scope (compEnvC scope cl C X.env) fp) W0 Γ elt fl se) (hf : storable [fl] = true := by kernel_rfl)
    (hs : ∀ x, foldedSetIterable iter X.env x = pure x := by intro _; rfl) :
    DE X W Γ (.ListComp elt [⟨tg, iter, ifs, 0⟩] scope pos) .fr (eLc si g (own.map (·.2)) st se) :=
  pe_imp (pe_lc (wi := tDI X.K X.mg W Γ false si) (g := tDG X.K Γ is g) (tt := tDT X.K X.mg W0 Γ st) (te := tDE X.K X.mg W0 Γ fl se) hc hN hi ok (fun s H C cl fp => (hg s H C cl fp).1) ht he hs) fun σ H0 Q h => lc_s hown his hf h
end
end
end DL
set_option Elab.async false
set_option linter.all false
set_option maxRecDepth 100000
namespace DL
open PySem PySem.Spec PyProof.Rows L2

/-! ### statements -/
def FinS (K : PySem.W.Frag) (mg : MG) (W : WX) (Γ' : List Nat) (F : List Addr) (GO : List (Nat × Addr)) (H : Hp) (r : R Out) (D : Ends) : Prop := match r with
  | .ok (.nx ρ') => ∀ σ' H' GO', EnvR K Γ' F GO' σ' H' ρ' → Keep (Ads GO) H H' → (∀ b, b ∈ Ads GO' → b ∈ Ads GO ∨ H b = none) → D.nx σ' H'
  | .ok (.rt d) => ∀ v H', Keep (Ads GO) H H' → Rp K H' F v d → D.rt v H'
  | .exc c => ∀ C σ' H', mg c = some (.ref C) → Keep (Ads GO) H H' → W (.ref C) none σ' H'
  | .bad => False
def tDS (K : PySem.W.Frag) (mg : MG) (W : WX) (Γ Γ' : List Nat) (ss : SS) : TS := fun D σ H => At K Γ σ H fun ρ F GO => FinS K mg W Γ' F GO H (ss ρ) D
def DS (X : Cx) (W : WX) (Γ : List Nat) (st : Stmt) (Γ' : List Nat) (ss : SS) : Prop := PS X st (tDS X.K X.mg W Γ Γ' ss)
def DSs (X : Cx) (W : WX) (Γ : List Nat) (st : List Stmt) (Γ' : List Nat) (ss : SS) : Prop := PSs X st (tDS X.K X.mg W Γ Γ' ss)
section
variable {K : PySem.W.Frag} {mg : MG} {W : WX} {Γ Γ' : List Nat} {F : List Addr} {GO GO1 : List (Nat × Addr)} {σ : L2.St} {H H1 H' : Hp} {ρ : Ev} {D : Ends} {G G' : List Addr}
theorem Keep.trans (h1 : Keep G H H1) (h2 : Keep G' H1 H') (n : ∀ b, b ∈ G' → b ∈ G ∨ H b = none) : Keep G H H' := fun b o e hb =>
  h2 b o (h1 b o e hb) fun z => (n b z).elim hb fun q => by rw [q] at e; cases e
theorem FinS.later {r : R Out} (k : Keep (Ads GO) H H1) (n : ∀ b, b ∈ Ads GO1 → b ∈ Ads GO ∨ H b = none) (h : FinS K mg W Γ' F GO H r D) : FinS K mg W Γ' F GO1 H1 r D := by
  have back : ∀ b, H1 b = none → H b = none ∨ b ∈ Ads GO := fun b e => by
    cases q : H b with
    | none => exact .inl rfl
    | some o =>
      by_cases hb : b ∈ Ads GO
      · exact .inr hb
      · rw [k b o q fun z => absurd z hb] at e; cases e
  cases r with
  | ok o =>
    cases o with
    | nx ρ' => exact fun σ' H' GO' E k' n' => h σ' H' GO' E (k.trans k' n) fun b hb => (n' b hb).elim (n b) fun e => (back b e).symm
    | rt d => exact fun v H' k' r' => h v H' (k.trans k' n) r'
  | exc c => exact fun C σ' H' hc k' => h C σ' H' hc (k.trans k' n)
  | bad => exact h
theorem FinS.ofG {α : Type} {r : R α} {f : α → R Out} (h : FinS K mg W Γ' F GO H (r.bind f) D) : FinG mg W σ H r fun a => FinS K mg W Γ' F GO H (f a) D := by
  cases r with
  | ok a => exact h
  | exc c => exact fun C H' hc s => h C σ H' hc (.of_same s)
  | bad => exact h
theorem FinS.imp {r : R Out} {D' : Ends} (h : FinS K mg W Γ' F GO H r D) (e : D.rt = D'.rt) (w : ∀ ρ' σ' H' GO', r = .ok (.nx ρ') → EnvR K Γ' F GO' σ' H' ρ' → Keep (Ads GO) H H' → (∀ b, b ∈ Ads GO' → b ∈ Ads GO ∨ H b = none) → D.nx σ' H' → D'.nx σ' H') : FinS K mg W Γ' F GO H r D' := by
  cases r with
  | ok o =>
    cases o with
    | nx ρ' => exact fun σ' H' GO' E k n => w ρ' σ' H' GO' rfl E k n (h σ' H' GO' E k n)
    | rt d => exact fun v H' k r => by rw [← e]; exact h v H' k r
  | exc c => exact h
  | bad => exact h
theorem keep_less (n : ∀ b, b ∈ G' → b ∈ G) (h : Keep G' H H') : Keep G H H' := fun b o e hb => h b o e fun z => hb (n b z)
theorem same_new : ∀ b, b ∈ Ads GO → b ∈ Ads GO ∨ H b = none := fun _ hb => .inl hb
end

section
variable {X : Cx} {W : WX} {Γ Γ' Γ1 Γ2 : List Nat} {st : Stmt} {rest sts : List Stmt} {a b : SS} {e c tg : Expr} {fl : Fl} {se sc : SE} {pos p : Pos}
theorem ps_imp {t t' : TS} (h : PS X st t) (w : ∀ D σ H, t' D σ H → t D σ H) : PS X st t' := ⟨fun pins s σ H D I q => h.run pins s σ H D I (w _ _ _ q)⟩
theorem pss_imp {t t' : TS} (h : PSs X sts t) (w : ∀ D σ H, t' D σ H → t D σ H) : PSs X sts t' := ⟨fun pins s σ H D I q => h.run pins s σ H D I (w _ _ _ q)⟩
theorem seq_s {D : Ends} {σ : L2.St} {H : Hp} (h : tDS X.K X.mg W Γ Γ2 (sSeq a b) D σ H) : tSeq (tDS X.K X.mg W Γ Γ1 a) (tDS X.K X.mg W Γ1 Γ2 b) D σ H := by
  obtain ⟨ρ, F, GO, E, h⟩ := h
  refine ⟨ρ, F, GO, E, ?_⟩
  unfold sSeq at h
  show FinS _ _ _ _ _ _ _ (a ρ) _
  cases q : a ρ with
  | ok o =>
    rw [q] at h
    cases o with
    | nx ρ' => exact fun σ' H' GO' E' k n => ⟨ρ', F, GO', E', FinS.later k n h⟩
    | rt d => exact h
  | exc c => rw [q] at h; exact h
  | bad => rw [q] at h; exact h
theorem dss_cons (h1 : DS X W Γ st Γ1 a) (h2 : DSs X W Γ1 rest Γ2 b) : DSs X W Γ (st :: rest) Γ2 (sSeq a b) := pss_imp (pss_cons h1 h2) fun D σ H h => seq_s h
theorem dss_one (h : DS X W Γ st Γ1 a) : DSs X W Γ [st] Γ1 a := pss_one h
theorem dss_nil : DSs X W Γ [] Γ sNx := pss_imp pss_nil fun D σ H ⟨ρ, F, GO, E, h⟩ => h σ H GO E (.refl H) same_new
/-! ahead of a statement: owned lists given up, slots forgotten -/
theorem pre_s {D : Ends} {σ : L2.St} {H : Hp} (hf : Γ.filter (fun i => Γ1.contains i) = Γ1) (h : tDS X.K X.mg W Γ Γ' a D σ H) : tDS X.K X.mg W Γ1 Γ' a D σ H := by
  obtain ⟨ρ, F, GO, E, h⟩ := h
  have E1 := E.freeze fun i => Γ1.contains i
  rw [hf] at E1
  have sub : ∀ b, b ∈ Ads (GO.filter fun z => Γ1.contains z.1) → b ∈ Ads GO := fun b hb => by
    obtain ⟨z, hz, rfl⟩ := List.mem_map.mp hb
    exact List.mem_map.mpr ⟨z, (List.mem_filter.mp hz).1, rfl⟩
  exact ⟨ρ, F, _, E1, FinS.later (.refl H) (fun b hb => .inl (sub b hb)) h⟩
theorem ds_pre (hf : Γ.filter (fun i => Γ1.contains i) = Γ1) (h : DS X W Γ1 st Γ' a) : DS X W Γ st Γ' a := ps_imp h fun D σ H h => pre_s hf h
theorem dss_pre (hf : Γ.filter (fun i => Γ1.contains i) = Γ1) (h : DSs X W Γ1 sts Γ' a) : DSs X W Γ sts Γ' a := pss_imp h fun D σ H h => pre_s hf h
theorem post_s {D : Ends} {σ : L2.St} {H : Hp} (hf : Γ'.filter (fun i => Γ1.contains i) = Γ1) (h : tDS X.K X.mg W Γ Γ1 a D σ H) : tDS X.K X.mg W Γ Γ' a D σ H := by
  obtain ⟨ρ, F, GO, E, h⟩ := h
  refine ⟨ρ, F, GO, E, ?_⟩
  show FinS _ _ _ _ _ _ _ (a ρ) _
  cases q : a ρ with
  | ok o =>
    rw [q] at h
    cases o with
    | nx ρ' =>
      intro σ' H' GO' E' k n
      have E1 := E'.freeze fun i => Γ1.contains i
      rw [hf] at E1
      exact h σ' H' _ E1 k fun b hb => by
        obtain ⟨z, hz, rfl⟩ := List.mem_map.mp hb
        exact n _ (List.mem_map.mpr ⟨z, (List.mem_filter.mp hz).1, rfl⟩)
    | rt d => exact h
  | exc c => rw [q] at h; exact h
  | bad => rw [q] at h; exact h
theorem dss_post (hf : Γ'.filter (fun i => Γ1.contains i) = Γ1) (h : DSs X W Γ sts Γ' a) : DSs X W Γ sts Γ1 a := pss_imp h fun D σ H h => post_s hf h
theorem wk_s {ks : List Nat} {D : Ends} {σ : L2.St} {H : Hp} (hk : ks.all (fun i => !Γ.contains i) = true) (h : tDS X.K X.mg W Γ Γ' (sWk ks a) D σ H) : tDS X.K X.mg W Γ Γ' a D σ H := by
  obtain ⟨ρ, F, GO, E, h⟩ := h
  refine ⟨kill ρ ks, F, GO, E.killAll fun i hi hz => ?_, h⟩
  have := List.all_eq_true.mp hk i hi
  rw [List.contains_iff_mem.mpr hz] at this
  cases this
theorem ds_wk {ks : List Nat} (hk : ks.all (fun i => !Γ.contains i) = true) (h : DS X W Γ st Γ' a) : DS X W Γ st Γ' (sWk ks a) := ps_imp h fun D σ H h => wk_s hk h
theorem dss_wk {ks : List Nat} (hk : ks.all (fun i => !Γ.contains i) = true) (h : DSs X W Γ sts Γ' a) : DSs X W Γ sts Γ' (sWk ks a) := pss_imp h fun D σ H h => wk_s hk h
/-! simple statements -/
theorem at_s (F : List Addr) (GO : List (Nat × Addr)) {σ : L2.St} {H : Hp} {ρ : Ev} {D : Ends} (E : EnvR X.K Γ F GO σ H ρ) {f : Da → R Out} {R' : V → Hp → Prop} (h : FinS X.K X.mg W Γ' F GO H ((se ρ).bind f) D)
    (hk : ∀ d v H1, Same H H1 → Res X.K H H1 (Ads GO ++ F) fl v d → EnvR X.K Γ F GO σ H1 ρ → FinS X.K X.mg W Γ' F GO H1 (f d) D → R' v H1) : tDE X.K X.mg W Γ fl se σ H R' :=
  ⟨ρ, F, GO, E, h.ofG.imp fun d _ q v H1 s r => hk d v H1 s r (E.mono s) (FinS.later (.of_same s) same_new q)⟩
theorem ds_asg {g : STg} {is : List Nat} (he : DE X W Γ e fl se) (hg : DG X Γ tg is g) (hf : storable [fl] = true := by kernel_rfl) (hs : swapsWithSole [tg] e pos.line X.env = pure false := by kernel_rfl) (hw : swappedStores [tg] e X.env = pure none := by kernel_rfl)
    (h1 : (assignEach [tg] X.env).map (·.2) = [assign tg X.env] := by kernel_rfl) : DS X W Γ (.Assign [tg] e pos) Γ (sAsg g se) :=
  ps_imp (ps_asg he hg.1 hs hw h1) fun D σ H h => by
    obtain ⟨ρ, F, GO, E, h⟩ := h
    refine at_s F GO E h fun d v H1 s1 r1 E1 h1 => ⟨ρ, F, GO, d, E1, r1.stored hf, ?_⟩
    cases q : g d ρ with
    | ok ρ' => rw [q] at h1; exact fun σ' E' _ => h1 σ' H1 GO E' (.refl H1) same_new
    | exc _ => exact absurd q (hg.2 _ _ _)
    | bad => rw [q] at h1; exact h1.elim
/-- x = e -/
theorem ds_set {i : Nat} {x : Str} (hN : X.N.Nodup) (hi : X.N[i]? = some x) (hx : Loc X.env.scope x) (hΓ : Γ.contains i = false) (he : DE X W Γ e fl se) (hf : storable [fl] = true := by kernel_rfl) (hs : swapsWith e (some (.Name x p)) pos.line X.env = pure false := by kernel_rfl) (hff : X.fn x = true ∨ X.env.scope.names.lookup x = some .local := by first | exact .inl rfl | exact .inr rfl | assumption) :
    DS X W Γ (.Assign [.Name x p] e pos) Γ (sAsg (gVar i) se) :=
  ps_imp (ps_set hN hi hx he hs hff) fun D σ H h => by
    obtain ⟨ρ, F, GO, E, h⟩ := h
    refine at_s F GO E h fun d v H1 s1 r1 E1 h1 => ?_
    have hi' : i ∉ Γ := fun z => by rw [List.contains_iff_mem.mpr z] at hΓ; cases hΓ
    exact h1 _ H1 GO (E1.setS hi' (r1.stored hf)) (.refl H1) same_new
theorem EnvR.setO {K : PySem.W.Frag} {F : List Addr} {GO : List (Nat × Addr)} {σ : L2.St} {H0 H : Hp} {ρ : Ev} (E0 : EnvR K Γ F GO σ H0 ρ) (s : Same H0 H) {i : Nat} {p : Addr} {d : Da} (hi : i ∉ Γ) (hl : i < ρ.length) (hp : H0 p = none) (h : Own K H (p :: (Ads GO ++ F)) p d) :
    EnvR K (i :: Γ) F ((i, p) :: GO) (σ.set i (some (.ref p))) H (ρ.set i (some d)) := by
  have hn : p ∉ Ads GO ++ F := E0.newp hp
  have g : Grow [] (Ads GO ++ F) (p :: (Ads GO ++ F)) H0 H := Grow.more s hp
  have E := E0.mono s
  refine ⟨by rw [List.length_set, List.length_set, E.len], by rw [List.map_cons, E.dom], ?_, fun q hq => ?_, E.frn, fun j q hj => ?_, fun j d' hj hd => ?_⟩
  · exact List.nodup_cons.mpr ⟨fun z => hn (List.mem_append_left _ z), E.inj⟩
  · rcases List.mem_cons.mp hq with e | hq
    · subst e; exact fun z => hn (List.mem_append_right _ z)
    · exact E.dis q hq
  · rcases List.mem_cons.mp hj with e | hj
    · cases e
      exact ⟨List.getElem?_set_self (by rw [← E.len]; exact hl), d, List.getElem?_set_self hl, h⟩
    · have hij : i ≠ j := fun z => hi (by rw [← E.dom, z]; exact List.mem_map.mpr ⟨_, hj, rfl⟩)
      obtain ⟨h1, d', h2, h3⟩ := E0.own j q hj
      exact ⟨by rw [List.getElem?_set_ne hij]; exact h1, d', by rw [List.getElem?_set_ne hij]; exact h2, h3.mono g List.not_mem_nil⟩
  · have hij : i ≠ j := fun z => hj (by rw [z]; exact List.mem_cons_self)
    rw [List.getElem?_set_ne hij] at hd ⊢
    obtain ⟨v, h1, h2⟩ := E0.sh j d' (fun z => hj (List.mem_cons_of_mem _ z)) hd
    exact ⟨v, h1, h2.mono g⟩
/-- x = e, e a new list: x owns it -/
theorem own_s {i : Nat} {D : Ends} {σ : L2.St} {H : Hp} (hΓ : Γ.contains i = false) (h : tDS X.K X.mg W Γ (i :: Γ) (sOwn i se) D σ H) : tDE X.K X.mg W Γ .fr se σ H fun x H1 => gName i x σ H1 D.nx := by
  obtain ⟨ρ, F, GO, E, h⟩ := h
  have hi' : i ∉ Γ := fun z => by rw [List.contains_iff_mem.mpr z] at hΓ; cases hΓ
  unfold sOwn at h
  refine ⟨ρ, F, GO, E, h.ofG.imp fun d _ h1 v H1 s1 r1 => ?_⟩
  cases d with
  | list ds =>
    obtain ⟨p, rfl, hp, ho⟩ := r1.2 ds rfl
    have h2 : FinS X.K X.mg W (i :: Γ) F GO H (if i < ρ.length then .ok (.nx (ρ.set i (some (.list ds)))) else .bad) D := h1
    split at h2
    · rename_i hl
      exact h2 _ H1 _ (E.setO s1 hi' hl hp ho) (.of_same s1) (fun b hb => by
        rcases List.mem_cons.mp hb with e | hb
        · subst e; exact .inr hp
        · exact .inl hb)
    · exact h2.elim
  | _ => exact h1.elim
theorem ds_own {i : Nat} {x : Str} (hN : X.N.Nodup) (hi : X.N[i]? = some x) (hx : Loc X.env.scope x) (hΓ : Γ.contains i = false) (he : DE X W Γ e .fr se) (hs : swapsWith e (some (.Name x p)) pos.line X.env = pure false := by kernel_rfl) (hff : X.fn x = true ∨ X.env.scope.names.lookup x = some .local := by first | exact .inl rfl | exact .inr rfl | assumption) :
    DS X W Γ (.Assign [.Name x p] e pos) (i :: Γ) (sOwn i se) :=
  ps_imp (ps_set hN hi hx he hs hff) fun D σ H h => own_s hΓ h
/-! x = [.. for ..] on one line -/
section
variable {elt iter : Expr} {ifs : List Expr} {scope : Scope} {own : List (Str × Nat)} {si : SI} {is : List Nat} {g : STg} {ct : SE}
theorem ds_setLc {i : Nat} {y : Str} {py : Pos} {spos : Pos} (hc : X.calm = true) (hN : X.N.Nodup) (hy : X.N[i]? = some y) (hyl : X.env.scope.names.lookup y = some .local) (hΓ : Γ.contains i = false)
    (hsw : swapsWith (.ListComp elt [⟨tg, iter, ifs, 0⟩] scope pos) (some (.Name y py)) spos.line X.env = pure true) (hi : DI X W Γ tg iter false si) (ok : BlkOk X.N X.env.scope scope own)
    (hown : (own.map (·.2)).all (fun i => !Γ.contains i) = true) (his : is.all (fun i => (own.map (·.2)).contains i) = true)
    (hg : ∀ (s : Shared) (H : Hp) (C : Addr) (cl : List (Str × Addr)) (fp : List Addr), DG (X.blk s H scope (compEnvC scope cl C X.env) fp) Γ tg is g)
    (ht : ∀ (s : Shared) (H : Hp) (C : Addr) (cl : List (Str × Addr)) (fp : List Addr), DTs (X.blk s H scope (compEnvC scope cl C X.env) fp) W0 Γ ifs ct)
    (he : ∀ (s : Shared) (H : Hp) (C : Addr) (cl : List (Str × Addr)) (fp : List Addr), DE (X.blk s H scope (compEnvC scope cl C X.env) fp) W0 Γ elt fl se) (hf : storable [fl] = true := by kernel_rfl)
    (hs : ∀ x, foldedSetIterable iter X.env x = pure x := by intro _; rfl) :
    DS X W Γ (.Assign [.Name y py] (.ListComp elt [⟨tg, iter, ifs, 0⟩] scope pos) spos) (i :: Γ) (sOwn i (eLc si g (own.map (·.2)) ct se)) :=
  ps_imp (ps_setLc (wi := tDI X.K X.mg W Γ false si) (g := tDG X.K Γ is g) (tt := tDT X.K X.mg W0 Γ ct) (te := tDE X.K X.mg W0 Γ fl se) hc hN hy hyl hsw hi ok (fun s H C cl fp => (hg s H C cl fp).1) ht he hs) fun D σ H h =>
    lc_s hown his hf (own_s hΓ h)
end
theorem ds_if {c : Expr} {A B : List Stmt} (hc : DT X W Γ c sc) (ha : DSs X W Γ A Γ1 a) (hb : DSs X W Γ B Γ1 b) : DS X W Γ (.If c A B pos) Γ1 (sIf sc a b) :=
  ps_imp (ps_if hc ha hb) fun D σ H h => by
    obtain ⟨ρ, F, GO, E, h⟩ := h
    unfold sIf at h
    refine ⟨ρ, F, GO, E, h.ofG.imp fun d _ h1 H1 s1 => ?_⟩
    cases q : tru d with
    | true =>
      rw [if_pos rfl]
      rw [q, if_pos rfl] at h1
      exact ⟨ρ, F, GO, E.mono s1, FinS.later (.of_same s1) same_new h1⟩
    | false =>
      rw [if_neg Bool.false_ne_true]
      rw [q, if_neg Bool.false_ne_true] at h1
      exact ⟨ρ, F, GO, E.mono s1, FinS.later (.of_same s1) same_new h1⟩
theorem ds_ret (he : DE X W Γ e fl se) (hf : storable [fl] = true := by kernel_rfl) : DS X W Γ (.Return (some e) pos) Γ' (sRet se) :=
  ps_imp (ps_ret he) fun D σ H h => by
    obtain ⟨ρ, F, GO, E, h⟩ := h
    unfold sRet at h
    refine ⟨ρ, F, GO, E, h.ofG.imp fun d _ h1 v H1 s1 r1 => ?_⟩
    exact h1 v H1 (.of_same s1) (Rp.mono (.sub_ (.refl H1) fun b hb => List.mem_append_right _ hb) (r1.stored hf))
theorem ds_expr (he : DE X W Γ e fl se) (hs : swapsWith e none pos.line X.env = pure false := by kernel_rfl) : DS X W Γ (.Expr e pos) Γ (sExpr se) :=
  ps_imp (ps_expr he hs) fun D σ H h => by
    obtain ⟨ρ, F, GO, E, h⟩ := h
    refine at_s F GO E h fun d v H1 s1 r1 E1 h1 => ?_
    exact h1 σ H1 GO E1 (.refl H1) same_new
theorem ds_raise {x : Str} {C : Addr} {e : Expr} {pos : Pos} (hc : X.calm = true) (tk : Takes X W) (hm : X.mg x = some (.ref C)) (he : PMk X e (fun _ H Q => Q (.ref C) none H)) : DS X W Γ (.Raise (some e) none pos) Γ' (sRaise x) :=
  ps_imp (ps_raise hc tk he) fun D σ H h => by
    obtain ⟨ρ, F, GO, E, h⟩ := h
    exact h C σ H hm (.refl H)
/-- nothing leaves a part of the body -/
theorem PS.nox {t : TS} (h : PS X.nox st t) : PS X st t := ⟨fun pins s σ H D I hw =>
  wpAny_mono (h.run pins s σ H D (I.wish _) hw) (fun _ _ q => q.unwish) fun _ _ z => False.elim z⟩
theorem ds_nox (h : DS X.nox W0 Γ st Γ' a) : DS X W Γ st Γ' (sNox a) := ps_imp (PS.nox h) fun D σ H h => by
  obtain ⟨ρ, F, GO, E, h⟩ := h
  refine ⟨ρ, F, GO, E, ?_⟩
  unfold sNox at h
  show FinS _ _ _ _ _ _ _ (a ρ) _
  cases q : a ρ with
  | ok o =>
    rw [q] at h
    cases o with
    | nx _ => exact h
    | rt _ => exact h
  | exc _ => rw [q] at h; exact h.elim
  | bad => rw [q] at h; exact h.elim
theorem news_trans {G G' G3 : List Addr} {H1 H H2 : Hp} (k : Keep G H1 H) (s2 : Same H H2) (n : ∀ b, b ∈ G' → b ∈ G ∨ H1 b = none) (n3 : ∀ b, b ∈ G3 → b ∈ G' ∨ H2 b = none) : ∀ b, b ∈ G3 → b ∈ G ∨ H1 b = none := fun b hb => by
  rcases n3 b hb with z | e
  · exact n b z
  · have e1 : H b = none := s2.free e
    cases q : H1 b with
    | none => exact .inr rfl
    | some o =>
      by_cases hb' : b ∈ G
      · exact .inl hb'
      · rw [k b o q fun z => absurd z hb'] at e1
        cases e1
theorem keep_trans3 {G G' : List Addr} {H1 H H2 H3 : Hp} (k : Keep G H1 H) (s2 : Same H H2) (n : ∀ b, b ∈ G' → b ∈ G ∨ H1 b = none) (k3 : Keep G' H2 H3) : Keep G H1 H3 :=
  (k.trans (.of_same s2) (G' := []) fun _ z => (List.not_mem_nil z).elim).trans k3 n
/-! loops -/
theorem ds_for {iter : Expr} {body : List Stmt} {si : SI} {g : STg} {is : List Nat} (hx : X.xe = fun _ _ => False) (hc : X.calm = true) (hi : DI X W0 Γ tg iter true si) (hg : DG X Γ tg is g) (hb : DSs X W0 Γ body Γ b)
    (hs : ∀ x, foldedSetIterable iter X.env x = pure x := by intro _; rfl) : DS X W0 Γ (.For tg iter body [] pos) Γ (sFor si g b) := by
  have hp : PassesOwn (model X.prog X.w) X.A X.env X.xe := by rw [hx]; exact PassesOwn.never
  refine ps_imp (ps_for hp hc hi hg.1 hb hs) fun D σ H0 h => ?_
  obtain ⟨ρ, F, GO, E, h⟩ := h
  unfold sFor at h
  refine ⟨ρ, F, GO, E, h.ofG.imp fun xs _ h J H1 s1 itd hlen => ?_⟩
  have h := FinS.later (GO1 := GO) (.of_same s1) same_new h
  refine ⟨fun i m σ H => i ≤ xs.length ∧ m = xs.length - i ∧ ∃ ρ' GO', EnvR X.K Γ F GO' σ H ρ' ∧ Keep (Ads GO) H1 H ∧ (∀ b, b ∈ Ads GO' → b ∈ Ads GO ∨ H1 b = none) ∧ FinS X.K X.mg W0 Γ F GO' H (forL g b (xs.drop i) ρ') D,
    ⟨xs.length, Nat.zero_le _, rfl, ρ, GO, E.mono s1, .refl H1, same_new, h⟩, ?_⟩
  rintro i m σ1 H ⟨hi, rfl, ρ', GO', E', k, n, h⟩
  have gr : Grow (Ads GO ++ F) (Ads GO ++ F) (Ads GO' ++ F) H1 H := ⟨keep_less (fun b hb => List.mem_append_left _ hb) k, fun b hb => hb, fun b hb => by
    rcases List.mem_append.mp hb with hb | hb
    · exact (n b hb).imp (fun z => List.mem_append_left _ z) id
    · exact .inl (List.mem_append_right _ hb)⟩
  obtain ⟨it1, it2⟩ := itd i H _ gr
  by_cases hlt : i < xs.length
  · refine .inr ?_
    obtain ⟨go, yld⟩ := it1 _ (List.getElem?_eq_getElem hlt)
    rw [List.drop_eq_getElem_cons hlt] at h
    refine ⟨go, fun σ' H' => ∃ ρ' GO', EnvR X.K Γ F GO' σ' H' ρ' ∧ Keep (Ads GO) H1 H' ∧ (∀ b, b ∈ Ads GO' → b ∈ Ads GO ∨ H1 b = none) ∧ FinS X.K X.mg W0 Γ F GO' H' (forL g b (xs.drop (i + 1)) ρ') D, fun σ' H' hw => ⟨xs.length - (i + 1), by omega, hlt, rfl, hw⟩, fun v H' hv => ?_⟩
    obtain ⟨s2, rv⟩ := yld v H' hv
    have h : FinS X.K X.mg W0 Γ F GO' H ((g xs[i] ρ').bind fun ρ1 => (b ρ1).bind fun o => andThen o (forL g b (xs.drop (i + 1)))) D := h
    refine ⟨ρ', F, GO', xs[i], E'.mono s2, rv, ?_⟩
    cases q1 : g xs[i] ρ' with
    | ok ρ1 =>
      rw [q1] at h
      have h : FinS X.K X.mg W0 Γ F GO' H ((b ρ1).bind fun o => andThen o (forL g b (xs.drop (i + 1)))) D := h
      have h := FinS.later (GO1 := GO') (.of_same s2) same_new h
      intro σ2 E2 _
      refine ⟨ρ1, F, GO', E2, ?_⟩
      show FinS _ _ _ _ _ _ _ (b ρ1) _
      cases q2 : b ρ1 with
      | ok o =>
        rw [q2] at h
        cases o with
        | nx ρ2 =>
          have h : FinS X.K X.mg W0 Γ F GO' H' (forL g b (xs.drop (i + 1)) ρ2) D := h
          exact fun σ3 H3 GO3 E3 k3 n3 => ⟨ρ2, GO3, E3, keep_trans3 k s2 n k3, news_trans k s2 n n3, FinS.later k3 n3 h⟩
        | rt d => exact h
      | exc c => rw [q2] at h; exact h
      | bad => rw [q2] at h; exact h
    | exc _ => exact absurd q1 (hg.2 _ _ _)
    | bad => rw [q1] at h; exact h.elim
  · refine .inl ⟨it2 (by omega), ?_⟩
    rw [List.drop_of_length_le (by omega)] at h
    exact h σ1 H GO' E' (.refl H) same_new
theorem ds_while {c : Expr} {body : List Stmt} (hx : X.xe = fun _ _ => False) (hc : DT X W0 Γ c sc) (hb : DSs X W0 Γ body Γ b) : DS X W0 Γ (.While c body [] pos) Γ (sWhile sc b) := by
  have hp : PassesOwn (model X.prog X.w) X.A X.env X.xe := by rw [hx]; exact PassesOwn.never
  refine ps_imp (ps_while hp hc hb) fun D σ H1 h => ?_
  obtain ⟨ρ, F, GO, E, h⟩ := h
  unfold sWhile at h
  refine ⟨fun m σ H => ∃ ρ' GO', EnvR X.K Γ F GO' σ H ρ' ∧ Keep (Ads GO) H1 H ∧ (∀ b, b ∈ Ads GO' → b ∈ Ads GO ∨ H1 b = none) ∧ FinS X.K X.mg W0 Γ F GO' H (whileF sc b m ρ') D,
    ⟨fuel, ρ, GO, E, .refl H1, same_new, h⟩, ?_⟩
  rintro m σ1 H ⟨ρ', GO', E', k, n, h⟩
  cases m with
  | zero => exact h.elim
  | succ m =>
    have h : FinS X.K X.mg W0 Γ F GO' H ((sc ρ').bind fun x => if tru x then (b ρ').bind fun o => andThen o (whileF sc b m) else .ok (.nx ρ')) D := h
    refine ⟨ρ', F, GO', E', h.ofG.imp fun d _ h H2 s2 => ?_⟩
    have h := FinS.later (GO1 := GO') (.of_same s2) same_new h
    cases q : tru d with
    | true =>
      refine iteT ?_
      rw [q, if_pos rfl] at h
      refine ⟨fun σ' H' => ∃ ρ' GO', EnvR X.K Γ F GO' σ' H' ρ' ∧ Keep (Ads GO) H1 H' ∧ (∀ b, b ∈ Ads GO' → b ∈ Ads GO ∨ H1 b = none) ∧ FinS X.K X.mg W0 Γ F GO' H' (whileF sc b m ρ') D, fun σ' H' hw => ⟨m, Nat.lt_succ_self m, hw⟩, ρ', F, GO', E'.mono s2, ?_⟩
      show FinS _ _ _ _ _ _ _ (b ρ') _
      cases q2 : b ρ' with
      | ok o =>
        rw [q2] at h
        cases o with
        | nx ρ2 =>
          have h : FinS X.K X.mg W0 Γ F GO' H2 (whileF sc b m ρ2) D := h
          exact fun σ3 H3 GO3 E3 k3 n3 => ⟨ρ2, GO3, E3, keep_trans3 k s2 n k3, news_trans k s2 n n3, FinS.later k3 n3 h⟩
        | rt d => exact h
      | exc c => rw [q2] at h; exact h
      | bad => rw [q2] at h; exact h
    | false =>
      refine iteF ?_
      rw [q, if_neg Bool.false_ne_true] at h
      exact h σ1 H2 GO' (E'.mono s2) (.refl H2) same_new
end
end DL
set_option Elab.async false
set_option linter.all false
set_option maxRecDepth 100000
namespace DL
open PySem PySem.Spec PyProof.Rows L2

/-! ### own lists changed -/
section
variable {X : Cx} {W : WX} {Γ Γ' : List Nat} {e k : Expr} {fl fk : Fl} {se sk : SE} {pos p p2 : Pos}
/-- the object of an own slot is written -/
theorem EnvR.write {K : PySem.W.Frag} {F : List Addr} {GO : List (Nat × Addr)} {σ : L2.St} {H : Hp} {ρ : Ev} (E : EnvR K Γ F GO σ H ρ) {i : Nat} {q : Addr} (hi : (i, q) ∈ GO) {o : HO} {d : Da} (h : Own K (upd H q o) (Ads GO ++ F) q d) : EnvR K Γ F GO σ (upd H q o) (ρ.set i (some d)) ∧ Keep (Ads GO) H (upd H q o) := by
  have hq : q ∈ Ads GO := List.mem_map.mpr ⟨_, hi, rfl⟩
  have kq : Keep [q] H (upd H q o) := fun b u e hb => by
    by_cases z : b = q
    · subst z
      obtain ⟨_, d', _, h3⟩ := E.own i b hi
      obtain ⟨u', e', m⟩ := h3.mut
      rw [e] at e'
      cases e'
      rw [hb List.mem_cons_self] at m
      cases m
    · rw [upd_ne z]; exact e
  have sub : ∀ b, b ∈ [q] → b ∈ Ads GO ++ F := fun b hb => by
    rw [List.mem_singleton] at hb
    subst hb
    exact List.mem_append_left _ hq
  have g : Grow [q] (Ads GO ++ F) (Ads GO ++ F) H (upd H q o) := ⟨kq, sub, fun b hb => .inl hb⟩
  have hl : i < ρ.length := by
    obtain ⟨_, d', h2, _⟩ := E.own i q hi
    exact (List.getElem?_eq_some_iff.mp h2).1
  have uniq : ∀ j r, (j, r) ∈ GO → r = q → j = i := fun j r hj e => by
    subst e
    obtain ⟨i1, hi1, e1⟩ := List.mem_iff_getElem.mp hi
    obtain ⟨i2, hi2, e2⟩ := List.mem_iff_getElem.mp hj
    have a1 : (Ads GO)[i1]? = some r := by rw [List.getElem?_map, List.getElem?_eq_getElem hi1, e1]; rfl
    have a2 : (Ads GO)[i2]? = some r := by rw [List.getElem?_map, List.getElem?_eq_getElem hi2, e2]; rfl
    have q12 : i1 = i2 := by
      obtain ⟨b1, c1⟩ := List.getElem?_eq_some_iff.mp a1
      obtain ⟨b2, c2⟩ := List.getElem?_eq_some_iff.mp a2
      exact (List.getElem_inj E.inj).mp (c1.trans c2.symm)
    subst q12
    rw [e1] at e2
    exact (congrArg Prod.fst e2).symm
  refine ⟨⟨by rw [List.length_set, E.len], E.dom, E.inj, E.dis, fun b hb z => ?_, fun j r hj => ?_, fun j d' hj hd => ?_⟩, fun b u e hb => kq b u e fun z => hb (by rw [List.mem_singleton] at z; subst z; exact hq)⟩
  · by_cases e : b = q
    · subst e; rw [upd_same] at z; cases z
    · rw [upd_ne e] at z; exact E.frn b hb z
  · obtain ⟨h1, d', h2, h3⟩ := E.own j r hj
    by_cases e : j = i
    · subst e
      have er : r = q := by
        obtain ⟨g1, _⟩ := E.own j q hi
        rw [h1] at g1
        cases g1
        rfl
      subst er
      exact ⟨h1, d, List.getElem?_set_self hl, h⟩
    · have er : r ≠ q := fun z => e (uniq j r hj z)
      exact ⟨h1, d', by rw [List.getElem?_set_ne fun z => e z.symm]; exact h2, h3.mono g fun z => er (by simpa using z)⟩
  · have hij : i ≠ j := fun z => hj (by rw [← E.dom, ← z]; exact List.mem_map.mpr ⟨_, hi, rfl⟩)
    rw [List.getElem?_set_ne hij] at hd
    obtain ⟨v, h1, h2⟩ := E.sh j d' hj hd
    exact ⟨v, h1, h2.mono g⟩
/-- the own list of a slot -/
theorem EnvR.ownL {K : PySem.W.Frag} {F : List Addr} {GO : List (Nat × Addr)} {σ : L2.St} {H : Hp} {ρ : Ev} (E : EnvR K Γ F GO σ H ρ) {i : Nat} (hi : Γ.contains i = true) : ∃ q d, (i, q) ∈ GO ∧ σ[i]? = some (some (.ref q)) ∧ ρ[i]? = some (some d) ∧ Own K H (Ads GO ++ F) q d := by
  have hi' := List.contains_iff_mem.mp hi
  rw [← E.dom] at hi'
  obtain ⟨⟨j, q⟩, hq, rfl⟩ := List.mem_map.mp hi'
  obtain ⟨h1, d, h2, h3⟩ := E.own j q hq
  exact ⟨q, d, hq, h1, h2, h3⟩
/-- x.append(e) -/
theorem ds_append {i : Nat} {x : Str} {apos cpos : Pos} (hN : X.N[i]? = some x) (hv : Vis X.env.scope x) (hΓ : Γ.contains i = true) (he : DE X W Γ e fl se) (hf : storable [fl] = true := by kernel_rfl)
    (hd : (x == ("__debug__" : Str)) = false := by decide) (hcd : (x == ("__classdict__" : Str)) = false := by decide)
    (hs : starEach [e] X.env = (false, eval e X.env) :: starEach [] X.env := by kernel_rfl) (hsw : swapsWith (.Call (.Attribute (.Name x p) "append" apos) [e] [] cpos) none pos.line X.env = pure false := by kernel_rfl)
    (hb : attributeBase (.Name x p) "append" X.env (eval (.Name x p) X.env) = eval (.Name x p) X.env := by kernel_rfl) (hl : (apos.endLine == cpos.line) = true := by kernel_rfl)
    (hfew : ((backTo cpos (starEach [e] X.env)).all (!·.1) && (backToKw cpos (keywordEach [] X.env)).all (·.1.isSome) && decide ([e].length + ([] : List Keyword).length + (if ([] : List Keyword).isEmpty then 0 else 1) < 30)) = true := by kernel_rfl) :
    DS X W Γ (.Expr (.Call (.Attribute (.Name x p) "append" apos) [e] [] cpos) pos) Γ (sAppend i se) :=
  ps_imp (ps_expr (pe_bm PySem.F.plainAttrs_list PySem.F.slot_list_append PySem.F.type_list_append mt_append (pe_var (i := i) hN hv hd hcd) (pa_cons he pa_nil hs) hb hfew hl hs) hsw) fun D σ H h => by
    obtain ⟨ρ, F, GO, E, h⟩ := h
    obtain ⟨q, d0, hq, h1, h2, h3⟩ := E.ownL hΓ
    cases d0 with
    | list ds =>
      obtain ⟨vs0, g1, _, _⟩ := id h3
      refine ⟨.ref q, h1, .inl ⟨rfl, _, .inl (.inl g1)⟩, ?_⟩
      unfold sAppend at h
      refine at_s F GO E h fun d v H1 s1 r1 E1 h4 => ?_
      obtain ⟨q', d1, hq', k1, k2, k3⟩ := E1.ownL hΓ
      have eq' : q' = q := by rw [h1] at k1; cases k1; rfl
      subst eq'
      unfold updE at h4
      rw [k2] at h4
      cases d1 with
      | list ds1 =>
        obtain ⟨vs, g1, g2, g3⟩ := k3
        have h5 : FinS X.K X.mg W Γ F GO H1 ((if ds1.length < big then R.ok (PyData.list (ds1 ++ [d])) else .bad).bind fun d' => .ok (.nx (ρ.set i (some d')))) D := h4
        split at h5
        · rename_i hlt
          refine ⟨q', vs, v, rfl, rfl, g1, by rw [g2.length]; exact Nat.lt_of_lt_of_le hlt (big_le (Nat.le_refl _)), ?_⟩
          have rv := r1.stored hf
          have kq : Keep [q'] H1 (upd H1 q' (.lst (vs ++ [v]))) := fun b u e hb => by
            by_cases z : b = q'
            · subst z
              rw [g1] at e
              cases e
              cases hb List.mem_cons_self
            · rw [upd_ne z]; exact e
          have g : Grow [q'] (Ads GO ++ F) (Ads GO ++ F) H1 (upd H1 q' (.lst (vs ++ [v]))) := ⟨kq, fun b hb => by
            rw [List.mem_singleton] at hb
            subst hb
            exact List.mem_append_left _ (List.mem_map.mpr ⟨_, hq', rfl⟩), fun b hb => .inl hb⟩
          obtain ⟨E2, K2⟩ := E1.write hq' (o := .lst (vs ++ [v])) (d := .list (ds1 ++ [d])) ⟨_, upd_same, (g2.append (.cons rv .nil)).mono g, by rw [List.length_append, List.length_singleton]; exact hlt⟩
          exact h5 σ _ GO E2 K2 same_new
        · exact h5.elim
      | _ => exact k3.elim
    | _ => exact h3.elim
theorem ixD_N (n : Nat) (i : Int) : ixD n i = ixN n i := rfl
/-- x[k] = e -/
theorem ds_setI {i : Nat} {x : Str} {tpos : Pos} (hN : X.N[i]? = some x) (hv : Vis X.env.scope x) (hΓ : Γ.contains i = true) (he : DE X W Γ e fl se) (hk : DE X W Γ k fk sk) (hf : storable [fl] = true := by kernel_rfl)
    (hd : (x == ("__debug__" : Str)) = false := by decide) (hcd : (x == ("__classdict__" : Str)) = false := by decide)
    (ha : ∀ v, assign (.Subscript (.Name x p) k tpos) X.env v = (do
      let ov ← holding [v] (eval (.Name x p) X.env)
      let iv ← holding [v, ov] (eval k X.env)
      standAt tpos
      holding [v, ov, iv] (setItem ov iv v)
      release [v, ov, iv] []) := by intro _; rfl)
    (hs : swapsWithSole [.Subscript (.Name x p) k tpos] e pos.line X.env = pure false := by kernel_rfl) (hw : swappedStores [.Subscript (.Name x p) k tpos] e X.env = pure none := by kernel_rfl)
    (h1 : (assignEach [.Subscript (.Name x p) k tpos] X.env).map (·.2) = [assign (.Subscript (.Name x p) k tpos) X.env] := by kernel_rfl) :
    DS X W Γ (.Assign [.Subscript (.Name x p) k tpos] e pos) Γ (sSet i sk se) :=
  ps_imp (ps_asg he (pg_sub (pe_var (i := i) hN hv hd hcd) hk set_list ha) hs hw h1) fun D σ H h => by
    obtain ⟨ρ, F, GO, E, h⟩ := h
    unfold sSet at h
    refine at_s F GO E h fun d v H1 s1 r1 E1 h4 => ?_
    obtain ⟨q, d0, hq, k1, k2, k3⟩ := E1.ownL hΓ
    refine ⟨.ref q, k1, ?_⟩
    refine at_s F GO E1 h4 fun j w H2 s2 r2 E2 h5 => ?_
    obtain ⟨q', d1, hq', k1', k2', k3'⟩ := E2.ownL hΓ
    have eq' : q' = q := by rw [k1] at k1'; cases k1'; rfl
    subst eq'
    unfold updE at h5
    rw [k2'] at h5
    cases d1 with
    | list ds1 =>
      obtain ⟨vs, g1, g2, g3⟩ := k3'
      have h6 : FinS X.K X.mg W Γ F GO H2 (((toI j).bind fun ii => (oR (ixD ds1.length ii)).bind fun jj => R.ok (PyData.list (ds1.set jj d))).bind fun d' => .ok (.nx (ρ.set i (some d')))) D := h5
      cases j with
      | int ii =>
        cases r2.int
        have h6 : FinS X.K X.mg W Γ F GO H2 (((oR (ixD ds1.length ii)).bind fun jj => R.ok (PyData.list (ds1.set jj d))).bind fun d' => .ok (.nx (ρ.set i (some d')))) D := h6
        cases q2 : ixD ds1.length ii with
        | none => rw [q2] at h6; exact h6.elim
        | some jj =>
          rw [q2] at h6
          have h7 : FinS X.K X.mg W Γ F GO H2 (.ok (.nx (ρ.set i (some (.list (ds1.set jj d)))))) D := h6
          have rv := r1.stored hf
          refine ⟨q', vs, ii, jj, rfl, rfl, g1, by rw [g2.length]; exact q2, ?_⟩
          have kq : Keep [q'] H2 (upd H2 q' (.lst (vs.set jj v))) := fun b u e hb => by
            by_cases z : b = q'
            · subst z
              rw [g1] at e
              cases e
              cases hb List.mem_cons_self
            · rw [upd_ne z]; exact e
          have g : Grow [q'] (Ads GO ++ F) (Ads GO ++ F) H2 (upd H2 q' (.lst (vs.set jj v))) := ⟨kq, fun b hb => by
            rw [List.mem_singleton] at hb
            subst hb
            exact List.mem_append_left _ (List.mem_map.mpr ⟨_, hq', rfl⟩), fun b hb => .inl hb⟩
          obtain ⟨E3, K3⟩ := E2.write hq' (o := .lst (vs.set jj v)) (d := .list (ds1.set jj d)) ⟨_, upd_same, (RpAll.set (rv.mono (.same s2)) jj g2).mono g, by rw [List.length_set]; exact g3⟩
          exact h7 σ _ GO E3 K3 same_new
      | _ => exact h6.elim
    | _ => exact k3'.elim
/-- x op= e, x a plain local -/
theorem ds_aug {i : Nat} {x : Str} {op : Operator} {ti : R2} {f : Da → Da → R Da} (hN : X.N.Nodup) (hi : X.N[i]? = some x) (hx : Loc X.env.scope x) (hΓ : Γ.contains i = false) (he : DE X W Γ e fl se) (ho : PIp X op ti) (hs : OpS X ti .fr f) (hff : X.fn x = true ∨ X.env.scope.names.lookup x = some .local := by first | exact .inl rfl | exact .inr rfl | assumption) :
    DS X W Γ (.AugAssign (.Name x p) op e pos) Γ (sAsg (gVar i) (e2 f (eVar i) se)) :=
  ps_imp (ps_aug hN hi hx he ho hff) fun D σ H h => by
    obtain ⟨ρ, F, GO, E, h⟩ := h
    have hi' : i ∉ Γ := fun z => by rw [List.contains_iff_mem.mpr z] at hΓ; cases hΓ
    have h0 : FinS X.K X.mg W Γ F GO H (((vGet ρ[i]?).bind fun x => (se ρ).bind fun y => f x y).bind fun d => .ok (.nx (ρ.set i (some d)))) D := h
    cases q : ρ[i]? with
    | none => rw [q] at h0; exact h0.elim
    | some o =>
      rw [q] at h0
      cases o with
      | none => exact h0.elim
      | some d0 =>
        obtain ⟨v, h1, h2⟩ := E.sh i d0 hi' q
        have h3 : FinS X.K X.mg W Γ F GO H ((se ρ).bind fun y => (f d0 y).bind fun d => .ok (.nx (ρ.set i (some d)))) D := by
          cases q2 : se ρ with
          | ok y => rw [q2] at h0; exact h0
          | exc c => rw [q2] at h0; exact h0
          | bad => rw [q2] at h0; exact h0
        refine ⟨v, h1, at_s F GO E h3 fun d w H1 s1 r1 E1 h4 => ?_⟩
        refine hs X.mg W σ (Ads GO ++ F) H1 H1 v w d0 d _ E1.fresh (.inl (h2.mono (.same s1))) r1.bo (h4.ofG.imp fun d2 _ h5 v2 H2 s2 r2 => ?_)
        exact h5 _ H2 GO ((E1.mono s2).setS hi' r2.1) (.of_same s2) same_new
theorem pip_add : PIp X .Add (rI0 fun i j => .int (i + j)) := ip_add
theorem pip_sub : PIp X .Sub (rI0 fun i j => .int (i - j)) := ip_sub
theorem os_addI : OpS X (rI0 fun i j => .int (i + j)) .fr addI := by
  intro mg W σ O H0 H x y a b Q nw hx hy h
  unfold addI at h
  split at h
  · cases hx.int; cases hy.int
    exact ⟨_, _, rfl, rfl, PE_.flat h (.int _) rfl⟩
  · exact h.elim
end

/-! ### raise X() -/
section
variable {X : Cx} {C : Addr} {bmB : List Value} {B newId initId : String}
theorem pmk_own0 {x : Str} {p pos : Pos} (F : ExcBaseFacts B newId initId bmB) (q : PySem.W.excIn X.K C bmB newId = true) (gC : X.mg x = some (.ref C)) (kC : PySem.W.keepIn X.K (.ref C) = true) (r : Raises X (.ref C)) (hg : Gl X x)
    (hdb : (x == ("__debug__" : Str)) = false := by decide) : PMk X (.Call (.Name x p) [] [] pos) (fun _ H Q => Q (.ref C) none H) := by
  intro pins s σ H Q I h
  refine wpAny_Call_Name_kw (ld_glob I hg gC ?_ hdb)
  refine PySem.W.callWith_K0 I.kIn kC ?_
  obtain ⟨bm, N, nm, qn, bs, hdct, sn, sub, ab, col, dd, k0, k1, k2, k3, k5, mN, hC, hN, hni, T⟩ := exc_obj I.kIn q
  refine wpAny_call_exc_subT F T hC hN hni (fun h' e hm => ?_) (by show 0 ≤ sizeLine; exact Nat.zero_le _)
  exact mk_of I hm r h (I.hok.gone hm.new)
end

/-! ### a def -/
section
variable {P : Program} {w : World} {K : PySem.W.Frag} {mg : MG} {base : Heap}
theorem env_start {H : Hp} {O : List Addr} {vs : List V} {ds : List Da} (r : RpAll K H O vs ds) (a : ∀ b, b ∈ O → H b ≠ none) (N : List Str) : EnvR K [] O [] (L2.start N vs) H (ds.map some ++ List.replicate (N.length - ds.length) none) where
  len := by unfold L2.start; rw [List.length_append, List.length_append, List.length_map, List.length_map, List.length_replicate, List.length_replicate, r.length]
  dom := rfl
  inj := List.Pairwise.nil
  dis := fun p hp => (List.not_mem_nil hp).elim
  frn := a
  own := fun i p hp => (List.not_mem_nil hp).elim
  sh := fun i d _ hd => by
    have hl : i < ds.length := by
      by_cases hl : i < ds.length
      · exact hl
      · rw [List.getElem?_append_right (by rw [List.length_map]; omega), List.getElem?_replicate] at hd
        split at hd <;> cases hd
    rw [List.getElem?_append_left (by rw [List.length_map]; exact hl), List.getElem?_map] at hd
    cases q : ds[i]? with
    | none => rw [q] at hd; cases hd
    | some d' =>
      rw [q] at hd
      cases hd
      obtain ⟨v, h1, h2⟩ := r.get q
      refine ⟨v, ?_, h2⟩
      unfold L2.start
      rw [List.getElem?_append_left (by rw [List.length_map, r.length]; exact hl), List.getElem?_map, h1]
      rfl
/-- THE RULE for a def: its body's reading is a plain function -/
theorem okF {x qual : Str} {params : Arguments} {body : List Stmt} {scope : Scope} {f : Addr} {fd : FuncData} {N ps : List Str} {k n : Nat} {Γ' : List Nat} {b : SS} {g : List Da → R Da} (F : FunD K x qual params body scope [] [] f fd) (S : FnScope N ps scope) (hn : ps.length = n)
    (hbody : ∀ (cdv : Value) (A : Around) (outer : List Env) (s : Shared) (H : Hp) (E : XK), Room k (A.deeper (envOfC qual scope s.heap.objs.size f cdv)) → DSs (cxOf (L2.CX P w) P w K mg base N qual scope f cdv A outer s H E) (fun cls d _ H => E cls d H) [] body Γ' b)
    (hg : g = runDef N.length b) : FnOk P w K mg base (L2.CX P w) (k + 1) f fd ps (spD K mg n g) := by
  subst hn hg
  refine F.ok S (fun vs H Q E h => h.1) (fun cdv A outer s H vs Q E hr h => ⟨_, hbody cdv A outer s H E hr, ?_⟩)
  obtain ⟨hl, ds, O, al, r, h⟩ := h
  refine ⟨_, O, [], env_start r al N, ?_⟩
  unfold runDef at h
  show FinS K mg _ Γ' O [] H (b (ds.map some ++ List.replicate (N.length - ds.length) none)) _
  cases q : b (ds.map some ++ List.replicate (N.length - ds.length) none) with
  | ok o =>
    rw [q] at h
    cases o with
    | nx ρ' => exact fun σ' H' GO' E' k n => h .non H' k.nil .non
    | rt d => exact fun v H' k r' => h v H' k.nil r'
  | exc c =>
    rw [q] at h
    exact fun C σ' H' hc k => h C H' hc k.nil
  | bad => rw [q] at h; exact h.elim
theorem okD {x qual : Str} {params : Arguments} {body : List Stmt} {scope : Scope} {f : Addr} {fd : FuncData} {N ps : List Str} {k n : Nat} {Γ' : List Nat} {b : SS} {g : List Da → R Da} (F : FunD K x qual params body scope [] [] f fd) (S : FnScope N ps scope) (hn : ps.length = n)
    (hb : ∀ (kV doc pm : Value) (an : Option Addr) (cdv ct : Value) (us : List Value), us.length = ps.length → bindArgs (PySem.W.fnOf x qual params body scope .none kV doc pm an cdv ct) ⟨us, []⟩ = pure (ps.zip us)) (hm : mg x = some (.ref f))
    (hbody : ∀ (cdv : Value) (A : Around) (outer : List Env) (s : Shared) (H : Hp) (E : XK), Room k (A.deeper (envOfC qual scope s.heap.objs.size f cdv)) → DSs (cxOf (L2.CX P w) P w K mg base N qual scope f cdv A outer s H E) (fun cls d _ H => E cls d H) [] body Γ' b)
    (hg : g = runDef N.length b) : FnD P w K mg base x (k + 1) n g :=
  ⟨f, fd, ps, okF F S hn hbody hg, hm, F.kp, F.bindsN hb⟩
end
end DL
set_option Elab.async false
set_option linter.all false
set_option maxRecDepth 100000
namespace DL
open PySem PySem.Spec PyProof.Rows L2

theorem s63a (k : Int) (h : k.natAbs < 9223372036854775808) : -(2 ^ 63) ≤ k := by omega
theorem s63b (k : Int) (h : k.natAbs < 9223372036854775808) : k < 2 ^ 63 := by omega
/-! ### short words for the printed terms -/
section
variable {X : Cx} {W : WX} {Γ Γ' Γ1 : List Nat} {e a b c d : Expr} {es : List Expr} {fls : List Fl} {fl fa fb fc : Fl} {se sa sb sc : SE} {pos p p2 p3 : Pos}
theorem u64 {k : Nat} {A : Around} (h : Room k A) : A.units + 64 < cLine := h.units
theorem u65 {k : Nat} {A : Around} (h : Room k A) : A.units + 65 < cLine := by have := h.un; omega
theorem de_len (m : X.mg "len" = none) (he : DE X W Γ e fl se) (hg : Gl X "len" := by show _ = _; kernel_rfl) (h1 : starEach [e] X.env = (false, eval e X.env) :: starEach [] X.env := by kernel_rfl) (h2 : (backTo pos (starEach [] X.env)).any (·.1) = false := by kernel_rfl) : DE X W Γ (.Call (.Name "len" p) [e] [] pos) .fr (eA dLen (aCons se aNil)) :=
  de_callB call_len_seq cs_len hg m boot_len (da_cons he da_nil h1) (by decide) (by decide) h1 h2
theorem de_abs (m : X.mg "abs" = none) (he : DE X W Γ e fl se) (hg : Gl X "abs" := by show _ = _; kernel_rfl) (h1 : starEach [e] X.env = (false, eval e X.env) :: starEach [] X.env := by kernel_rfl) (h2 : (backTo pos (starEach [] X.env)).any (·.1) = false := by kernel_rfl) : DE X W Γ (.Call (.Name "abs" p) [e] [] pos) .fr (eA dAbs (aCons se aNil)) :=
  de_callB call_abs cs_abs hg m boot_abs (da_cons he da_nil h1) (by decide) (by decide) h1 h2
theorem de_minL (hc : X.calm = true) (m : X.mg "min" = none) (he : DE X W Γ e fl se) (hg : Gl X "min" := by show _ = _; kernel_rfl) (h1 : starEach [e] X.env = (false, eval e X.env) :: starEach [] X.env := by kernel_rfl) (h2 : (backTo pos (starEach [] X.env)).any (·.1) = false := by kernel_rfl) : DE X W Γ (.Call (.Name "min" p) [e] [] pos) .fr (eA dMinL (aCons se aNil)) :=
  de_callB (cr_min hc) cs_min hg m boot_min (da_cons he da_nil h1) (by decide) (by decide) h1 h2
theorem de_maxL (hc : X.calm = true) (m : X.mg "max" = none) (he : DE X W Γ e fl se) (hg : Gl X "max" := by show _ = _; kernel_rfl) (h1 : starEach [e] X.env = (false, eval e X.env) :: starEach [] X.env := by kernel_rfl) (h2 : (backTo pos (starEach [] X.env)).any (·.1) = false := by kernel_rfl) : DE X W Γ (.Call (.Name "max" p) [e] [] pos) .fr (eA dMaxL (aCons se aNil)) :=
  de_callB (cr_max hc) cs_max hg m boot_max (da_cons he da_nil h1) (by decide) (by decide) h1 h2
theorem de_all (hc : X.calm = true) (m : X.mg "all" = none) (he : DE X W Γ e fl se) (hg : Gl X "all" := by show _ = _; kernel_rfl) (h1 : starEach [e] X.env = (false, eval e X.env) :: starEach [] X.env := by kernel_rfl) (h2 : (backTo pos (starEach [] X.env)).any (·.1) = false := by kernel_rfl) : DE X W Γ (.Call (.Name "all" p) [e] [] pos) .fr (eA dAll (aCons se aNil)) :=
  de_callB (cr_all hc) cs_all hg m boot_all (da_cons he da_nil h1) (by decide) (by decide) h1 h2
theorem de_any (hc : X.calm = true) (m : X.mg "any" = none) (he : DE X W Γ e fl se) (hg : Gl X "any" := by show _ = _; kernel_rfl) (h1 : starEach [e] X.env = (false, eval e X.env) :: starEach [] X.env := by kernel_rfl) (h2 : (backTo pos (starEach [] X.env)).any (·.1) = false := by kernel_rfl) : DE X W Γ (.Call (.Name "any" p) [e] [] pos) .fr (eA dAny (aCons se aNil)) :=
  de_callB (cr_any hc) cs_any hg m boot_any (da_cons he da_nil h1) (by decide) (by decide) h1 h2
theorem de_int1 (m : X.mg "int" = none) (he : DE X W Γ e fl se) (hg : Gl X "int" := by show _ = _; kernel_rfl) (h1 : starEach [e] X.env = (false, eval e X.env) :: starEach [] X.env := by kernel_rfl) (h2 : (backTo pos (starEach [] X.env)).any (·.1) = false := by kernel_rfl) : DE X W Γ (.Call (.Name "int" p) [e] [] pos) .fr (eA dInt (aCons se aNil)) :=
  de_callTy call_int1 cs_int hg m boot_int (da_cons he da_nil h1) (by decide) (by decide) h1 h2
theorem de_tuple (m : X.mg "tuple" = none) (he : DE X W Γ e fl se) (hg : Gl X "tuple" := by show _ = _; kernel_rfl) (h1 : starEach [e] X.env = (false, eval e X.env) :: starEach [] X.env := by kernel_rfl) (h2 : (backTo pos (starEach [] X.env)).any (·.1) = false := by kernel_rfl) : DE X W Γ (.Call (.Name "tuple" p) [e] [] pos) .fr (eA dTuple (aCons se aNil)) :=
  de_callTy call_tuple_of cs_tuple hg m boot_tuple (da_cons he da_nil h1) (by decide) (by decide) h1 h2
theorem de_list (m : X.mg "list" = none) (he : DE X W Γ e fl se) (hg : Gl X "list" := by show _ = _; kernel_rfl) (h1 : starEach [e] X.env = (false, eval e X.env) :: starEach [] X.env := by kernel_rfl) (h2 : (backTo pos (starEach [] X.env)).any (·.1) = false := by kernel_rfl) : DE X W Γ (.Call (.Name "list" p) [e] [] pos) .fr (eA dList (aCons se aNil)) :=
  de_callTy call_list_of cs_list hg m boot_list (da_cons he da_nil h1) (by decide) (by decide) h1 h2
theorem de_min2 (hc : X.calm = true) (m : X.mg "min" = none) (ha : DE X W Γ a fa sa) (hb : DE X W Γ b fb sb) (hg : Gl X "min" := by show _ = _; kernel_rfl) (h1 : starEach [a, b] X.env = (false, eval a X.env) :: starEach [b] X.env := by kernel_rfl) (h2 : starEach [b] X.env = (false, eval b X.env) :: starEach [] X.env := by kernel_rfl) (h3 : (backTo pos (starEach [b] X.env)).any (·.1) = false := by kernel_rfl) : DE X W Γ (.Call (.Name "min" p) [a, b] [] pos) .fr (eA dMin2 (aCons sa (aCons sb aNil))) :=
  de_callB (call_min2 hc) cs_min2 hg m boot_min (da_cons ha (da_cons hb da_nil h2) h1) (by decide) (by decide) h1 h3
theorem de_max2 (hc : X.calm = true) (m : X.mg "max" = none) (ha : DE X W Γ a fa sa) (hb : DE X W Γ b fb sb) (hg : Gl X "max" := by show _ = _; kernel_rfl) (h1 : starEach [a, b] X.env = (false, eval a X.env) :: starEach [b] X.env := by kernel_rfl) (h2 : starEach [b] X.env = (false, eval b X.env) :: starEach [] X.env := by kernel_rfl) (h3 : (backTo pos (starEach [b] X.env)).any (·.1) = false := by kernel_rfl) : DE X W Γ (.Call (.Name "max" p) [a, b] [] pos) .fr (eA dMax2 (aCons sa (aCons sb aNil))) :=
  de_callB (call_max2 hc) cs_max2 hg m boot_max (da_cons ha (da_cons hb da_nil h2) h1) (by decide) (by decide) h1 h3
theorem de_gcd (m : X.mg "gcd" = some (.builtin "math.gcd")) (ha : DE X W Γ a fa sa) (hb : DE X W Γ b fb sb) (hg : Gl X "gcd" := by show _ = _; kernel_rfl) (h1 : starEach [a, b] X.env = (false, eval a X.env) :: starEach [b] X.env := by kernel_rfl) (h2 : starEach [b] X.env = (false, eval b X.env) :: starEach [] X.env := by kernel_rfl) (h3 : (backTo pos (starEach [b] X.env)).any (·.1) = false := by kernel_rfl) : DE X W Γ (.Call (.Name "gcd" p) [a, b] [] pos) .fr (eA dGcd (aCons sa (aCons sb aNil))) :=
  de_callG cr_gcd cs_gcd hg m (da_cons ha (da_cons hb da_nil h2) h1) (by decide) h1 h3
theorem de_isiT (T : Ty) (x : Str) (hx : x = T.nm) (m : X.mg "isinstance" = none) (m2 : X.mg x = none) (he : DE X W Γ e fl se) (hv2 : bootBuiltins x = some (.type T.nm)) (hn2 : x ≠ "__name__" := by decide) (hd2 : (x == ("__debug__" : Str)) = false := by decide) (hg : Gl X "isinstance" := by show _ = _; kernel_rfl) (hg2 : Gl X x := by show _ = _; kernel_rfl)
    (hs1 : starEach [e, .Name x p2] X.env = (false, eval e X.env) :: starEach [.Name x p2] X.env := by kernel_rfl) (hs2 : starEach [.Name x p2] X.env = (false, eval (.Name x p2) X.env) :: starEach [] X.env := by kernel_rfl) (hpl : (backTo pos (starEach [.Name x p2] X.env)).any (·.1) = false := by kernel_rfl) :
    DE X W Γ (.Call (.Name "isinstance" p) [e, .Name x p2] [] pos) .fr (e1 (dIsi T) se) := by
  subst hx
  exact de_isi T he hg m hg2 m2 hv2 hn2 hd2 hs1 hs2 hpl
/-! tests that compare -/
theorem dt_val {f : Da → R Da} (h : PE X e (tDE X.K X.mg W Γ fl se)) (h2 : PT X e (tB (tDE X.K X.mg W Γ fl se))) (bl : ∀ ρ z, se ρ = .ok z → ∃ k, z = .bool k) : DT X W Γ e se :=
  pt_imp h2 fun σ H Q h => by
    obtain ⟨ρ, F, GO, E, h⟩ := h
    refine ⟨ρ, F, GO, E, h.imp fun d e q v H1 s1 r1 => ?_⟩
    obtain ⟨k, rfl⟩ := bl _ _ e
    cases r1.bool
    exact ⟨k, rfl, q H1 s1⟩
theorem dt_isN {j : Nat} {pos' : Pos} (ha : DE X W Γ a fa sa) : DT X W Γ (.Compare a [.Is] [.Constant .none j pos'] pos) (e1 dIsN sa) :=
  pt_imp (pt_cmp (pc_isN ha) rfl) fun σ H Q h => by
    obtain ⟨ρ, F, GO, E, h⟩ := h
    refine at_e E h fun d v H1 s1 r1 E1 h1 => ⟨_, rfl, ?_⟩
    rw [r1.nonB]
    exact h1 H1 s1
theorem dt_notN {j : Nat} {pos' : Pos} (ha : DE X W Γ a fa sa) : DT X W Γ (.Compare a [.IsNot] [.Constant .none j pos'] pos) (e1 dNotN sa) :=
  pt_imp (pt_cmp (pc_notN ha) rfl) fun σ H Q h => by
    obtain ⟨ρ, F, GO, E, h⟩ := h
    refine at_e E h fun d v H1 s1 r1 E1 h1 => ⟨_, rfl, ?_⟩
    rw [r1.nonB]
    exact h1 H1 s1
theorem dt_isB {k : Bool} {j : Nat} {pos' : Pos} (ha : DE X W Γ a fa sa) : DT X W Γ (.Compare a [.Is] [.Constant (.bool k) j pos'] pos) (e1 (dIsB k) sa) :=
  pt_imp (pt_cmpR op_isBl ha pe_bl (nomark _)) fun σ H Q h => by
    obtain ⟨ρ, F, GO, E, h⟩ := h
    refine at_e E h fun d v H1 s1 r1 E1 h1 => ?_
    unfold dIsB at h1
    split at h1
    · cases r1.bool
      exact ⟨_, _, rfl, rfl, _, rfl, h1 H1 s1⟩
    · exact h1.elim
theorem dt_notB {k : Bool} {j : Nat} {pos' : Pos} (ha : DE X W Γ a fa sa) : DT X W Γ (.Compare a [.IsNot] [.Constant (.bool k) j pos'] pos) (e1 (dIsNotB k) sa) :=
  pt_imp (pt_cmpR op_notBl ha pe_bl (nomark _)) fun σ H Q h => by
    obtain ⟨ρ, F, GO, E, h⟩ := h
    refine at_e E h fun d v H1 s1 r1 E1 h1 => ?_
    unfold dIsNotB at h1
    split at h1
    · cases r1.bool
      exact ⟨_, _, rfl, rfl, _, rfl, h1 H1 s1⟩
    · exact h1.elim
/-! tuple(range(..)), list(range(..)) -/
theorem toL_of {K : PySem.W.Frag} {H : Hp} {O : List Addr} {lo hi : Int} : RpAll K H O (rgV lo hi) (rngD lo (hi - lo).toNat) := by
  unfold rgV rngD
  generalize (hi - lo).toNat = n
  generalize List.range n = l
  induction l with
  | nil => exact .nil
  | cons i l ih => exact .cons (.int _) ih
theorem rg_s1 {ta : TE} {σ : L2.St} {H : Hp} {Q : VK} (tl : Bool) (h : tDE X.K X.mg W Γ .fr (fun ρ => (iRng1 sa ρ).bind fun xs => .ok (if tl then .tuple xs else .list xs)) σ H Q) :
    (tRg1 (tDE X.K X.mg W Γ fa sa)) σ H fun a b H1 => RgOk a b ∧ ∀ q, H1 q = none → Q (.ref q) (upd H1 q (if tl then .tup (rgV a b) else .lst (rgV a b))) := by
  obtain ⟨ρ, F, GO, E, h⟩ := h
  have h0 : FinG X.mg W σ H ((sa ρ).bind fun x => ((toI x).bind fun n => dRng 0 n).bind fun xs => .ok (if tl then .tuple xs else .list xs)) (PE_ X.K H (Ads GO ++ F) .fr Q) := by
    have h : FinG X.mg W σ H (((sa ρ).bind fun x => (toI x).bind fun n => dRng 0 n).bind fun xs => .ok (if tl then .tuple xs else .list xs)) (PE_ X.K H (Ads GO ++ F) .fr Q) := h
    rw [R.bind_assoc] at h
    exact h
  refine at_e E h0 fun d v H1 s1 r1 E1 h1 => ?_
  cases d with
  | int j =>
    cases r1.int
    have h2 : FinG X.mg W σ H1 ((dRng 0 j).bind fun xs => .ok (if tl then .tuple xs else .list xs)) (PE_ X.K H (Ads GO ++ F) .fr Q) := h1
    unfold dRng at h2
    split at h2
    · rename_i c
      obtain ⟨c1, c2, c3, c4, c5⟩ := rngC c
      refine ⟨j, rfl, ⟨c1, c2, c3, c4, c5⟩, fun q hq => ?_⟩
      have h3 : PE_ X.K H (Ads GO ++ F) .fr Q (if tl then .tuple (rngD 0 (j - 0).toNat) else .list (rngD 0 (j - 0).toNat)) := h2
      cases tl with
      | true => exact PE_.newT (PE_.mono s1 h3) toL_of (by rw [rngD_len]; exact c5) hq
      | false => exact PE_.newL (PE_.mono s1 h3) toL_of (by rw [rngD_len]; exact c5) hq (E1.newp hq)
    · exact h2.elim
  | _ => exact h1.elim
theorem rg_s2 {σ : L2.St} {H : Hp} {Q : VK} (tl : Bool) (h : tDE X.K X.mg W Γ .fr (fun ρ => (iRng2 sa sb ρ).bind fun xs => .ok (if tl then .tuple xs else .list xs)) σ H Q) :
    (tRg2 (tDE X.K X.mg W Γ fa sa) (tDE X.K X.mg W Γ fb sb)) σ H fun a b H1 => RgOk a b ∧ ∀ q, H1 q = none → Q (.ref q) (upd H1 q (if tl then .tup (rgV a b) else .lst (rgV a b))) := by
  obtain ⟨ρ, F, GO, E, h⟩ := h
  have h0 : FinG X.mg W σ H ((sa ρ).bind fun x => (sb ρ).bind fun y => ((toI x).bind fun i => (toI y).bind fun j => dRng i j).bind fun xs => .ok (if tl then .tuple xs else .list xs)) (PE_ X.K H (Ads GO ++ F) .fr Q) := by
    have h : FinG X.mg W σ H (((sa ρ).bind fun x => (sb ρ).bind fun y => (toI x).bind fun i => (toI y).bind fun j => dRng i j).bind fun xs => .ok (if tl then .tuple xs else .list xs)) (PE_ X.K H (Ads GO ++ F) .fr Q) := h
    rw [R.bind_assoc] at h
    have e : (fun a => ((sb ρ).bind fun y => (toI a).bind fun i => (toI y).bind fun j => dRng i j).bind fun xs => R.ok (if tl then PyData.tuple xs else PyData.list xs)) = fun a => (sb ρ).bind fun y => ((toI a).bind fun i => (toI y).bind fun j => dRng i j).bind fun xs => .ok (if tl then .tuple xs else .list xs) := by
      funext a
      rw [R.bind_assoc]
    rw [e] at h
    exact h
  refine at_e E h0 fun d v H1 s1 r1 E1 h1 => at_e E1 h1 fun d2 v2 H2 s2 r2 E2 h2 => ?_
  cases d with
  | int i =>
    cases d2 with
    | int j =>
      cases r1.int
      cases r2.int
      have h2 : FinG X.mg W σ H2 ((dRng i j).bind fun xs => .ok (if tl then .tuple xs else .list xs)) (PE_ X.K H (Ads GO ++ F) .fr Q) := h2
      unfold dRng at h2
      split at h2
      · rename_i c
        obtain ⟨c1, c2, c3, c4, c5⟩ := rngC c
        refine ⟨i, j, rfl, rfl, ⟨c1, c2, c3, c4, c5⟩, fun q hq => ?_⟩
        have h3 : PE_ X.K H (Ads GO ++ F) .fr Q (if tl then .tuple (rngD i (j - i).toNat) else .list (rngD i (j - i).toNat)) := h2
        cases tl with
        | true => exact PE_.newT (PE_.mono (s1.trans s2) h3) toL_of (by rw [rngD_len]; exact c5) hq
        | false => exact PE_.newL (PE_.mono (s1.trans s2) h3) toL_of (by rw [rngD_len]; exact c5) hq (E2.newp hq)
      · exact h2.elim
    | _ => exact h2.elim
  | _ =>
    cases d2 <;> exact h2.elim
theorem de_tupR1 (hc : X.calm = true) (m : X.mg "tuple" = none) (m2 : X.mg "range" = none) (ha : DE X W Γ a fa sa) (hg : Gl X "tuple" := by show _ = _; kernel_rfl) (hg2 : Gl X "range" := by show _ = _; kernel_rfl) (na : starEach [a] X.env = (false, eval a X.env) :: starEach [] X.env := by kernel_rfl) (ne : starEach [.Call (.Name "range" p2) [a] [] p3] X.env = (false, eval (.Call (.Name "range" p2) [a] [] p3) X.env) :: starEach [] X.env := by kernel_rfl) :
    DE X W Γ (.Call (.Name "tuple" p) [.Call (.Name "range" p2) [a] [] p3] [] pos) .fr (eTupI (iRng1 sa)) :=
  pe_imp (pe_tupRg hc hg m (prg_1 hg2 m2 ha na) ne) fun σ H Q h => rg_s1 (ta := tDE X.K X.mg W Γ fa sa) true h
theorem de_lstR1 (hc : X.calm = true) (m : X.mg "list" = none) (m2 : X.mg "range" = none) (ha : DE X W Γ a fa sa) (hg : Gl X "list" := by show _ = _; kernel_rfl) (hg2 : Gl X "range" := by show _ = _; kernel_rfl) (na : starEach [a] X.env = (false, eval a X.env) :: starEach [] X.env := by kernel_rfl) (ne : starEach [.Call (.Name "range" p2) [a] [] p3] X.env = (false, eval (.Call (.Name "range" p2) [a] [] p3) X.env) :: starEach [] X.env := by kernel_rfl) :
    DE X W Γ (.Call (.Name "list" p) [.Call (.Name "range" p2) [a] [] p3] [] pos) .fr (eLstI (iRng1 sa)) :=
  pe_imp (pe_listRg hc hg m (prg_1 hg2 m2 ha na) ne) fun σ H Q h => rg_s1 (ta := tDE X.K X.mg W Γ fa sa) false h
theorem de_tupR2 (hc : X.calm = true) (m : X.mg "tuple" = none) (m2 : X.mg "range" = none) (ha : DE X W Γ a fa sa) (hb : DE X W Γ b fb sb) (hg : Gl X "tuple" := by show _ = _; kernel_rfl) (hg2 : Gl X "range" := by show _ = _; kernel_rfl) (na : starEach [a, b] X.env = (false, eval a X.env) :: starEach [b] X.env := by kernel_rfl) (nb : starEach [b] X.env = (false, eval b X.env) :: starEach [] X.env := by kernel_rfl) (hp : (backTo p3 (starEach [b] X.env)).any (·.1) = false := by kernel_rfl) (ne : starEach [.Call (.Name "range" p2) [a, b] [] p3] X.env = (false, eval (.Call (.Name "range" p2) [a, b] [] p3) X.env) :: starEach [] X.env := by kernel_rfl) :
    DE X W Γ (.Call (.Name "tuple" p) [.Call (.Name "range" p2) [a, b] [] p3] [] pos) .fr (eTupI (iRng2 sa sb)) :=
  pe_imp (pe_tupRg hc hg m (prg_2 hg2 m2 ha hb na nb hp) ne) fun σ H Q h => rg_s2 true h
theorem de_lstR2 (hc : X.calm = true) (m : X.mg "list" = none) (m2 : X.mg "range" = none) (ha : DE X W Γ a fa sa) (hb : DE X W Γ b fb sb) (hg : Gl X "list" := by show _ = _; kernel_rfl) (hg2 : Gl X "range" := by show _ = _; kernel_rfl) (na : starEach [a, b] X.env = (false, eval a X.env) :: starEach [b] X.env := by kernel_rfl) (nb : starEach [b] X.env = (false, eval b X.env) :: starEach [] X.env := by kernel_rfl) (hp : (backTo p3 (starEach [b] X.env)).any (·.1) = false := by kernel_rfl) (ne : starEach [.Call (.Name "range" p2) [a, b] [] p3] X.env = (false, eval (.Call (.Name "range" p2) [a, b] [] p3) X.env) :: starEach [] X.env := by kernel_rfl) :
    DE X W Γ (.Call (.Name "list" p) [.Call (.Name "range" p2) [a, b] [] p3] [] pos) .fr (eLstI (iRng2 sa sb)) :=
  pe_imp (pe_listRg hc hg m (prg_2 hg2 m2 ha hb na nb hp) ne) fun σ H Q h => rg_s2 false h
/-! raise -/
structure Exn (K : PySem.W.Frag) (mg : MG) (x : Str) : Prop where
  ex : ∃ C, mg x = some (.ref C) ∧ PySem.W.excIn K C He.veBase "ValueError.__new__" = true ∧ PySem.W.keepIn K (.ref C) = true ∧ PySem.W.subIn K (.ref C) (.type "BaseException") = some true ∧ PySem.W.typeIn K (.ref C) = some (.type "type")
theorem ds_raiseX {x : Str} (T : Exn X.K X.mg x) (hc : X.calm = true) (tk : Takes X W) (hg : Gl X x := by show _ = _; kernel_rfl) (hdb : (x == ("__debug__" : Str)) = false := by decide) : DS X W Γ (.Raise (some (.Call (.Name x p) [] [] p2)) none pos) Γ' (sRaise x) := by
  obtain ⟨C, gC, h1, h2, h3, h4⟩ := T.ex
  exact ds_raise hc tk gC (pmk_own0 PySem.F.excBase_ValueError h1 gC h2 (raises_own h3 h4) hg hdb)
/-! slots forgotten behind a block -/
theorem dss_wkp {sts : List Stmt} {sx : SS} {ks : List Nat} (hk : ks.all (fun i => !Γ'.contains i) = true) (h : DSs X W Γ sts Γ' sx) : DSs X W Γ sts Γ' (sPost ks sx) := pss_imp h fun D σ H h => by
  obtain ⟨ρ, F, GO, E, h⟩ := h
  refine ⟨ρ, F, GO, E, ?_⟩
  unfold sPost at h
  show FinS _ _ _ _ _ _ _ (sx ρ) _
  cases q : sx ρ with
  | ok o =>
    rw [q] at h
    cases o with
    | nx ρ' => exact fun σ' H' GO' E' k n => h σ' H' GO' (E'.killAll fun i hi hz => by
        have := List.all_eq_true.mp hk i hi
        rw [List.contains_iff_mem.mpr hz] at this
        cases this) k n
    | rt d => exact h
  | exc c => rw [q] at h; exact h
  | bad => rw [q] at h; exact h
/-! [a] * n -/
theorem de_repL (ha : DE X W Γ a .fr sa) (hb : DE X W Γ b fb sb) : DE X W Γ (.BinOp a .Mult b pos) .fr (e2 repD sa sb) :=
  pe_imp (pe_op op_rep ha hb) fun σ H Q h => by
    obtain ⟨ρ, F, GO, E, h⟩ := h
    refine at_e E h fun d v H1 s1 r1 E1 h1 => at_e E1 h1 fun d2 v2 H2 s2 r2 E2 h2 => ?_
    unfold repD at h2
    split at h2
    · obtain ⟨p, rfl, _, ho⟩ := (r1.mono s2).2 _ rfl
      cases r2.int
      obtain ⟨vs, g1, g2, g3⟩ := ho
      split at h2
      · rename_i c
        obtain ⟨c1, c2'⟩ := c
        have c2 := s63a _ c2'
        have c3 := s63b _ c2'
        have g2' := g2.mono (.sub_ (.refl H2) (O' := Ads GO ++ F) fun b hb => List.mem_cons_of_mem _ hb)
        refine ⟨p, _, vs, rfl, rfl, g1, c2, c3, by rw [g2.length]; exact big_le c1, fun t ht => PE_.newL (PE_.mono (s1.trans s2) h2) (g2'.rep _) ?_ ht (E2.newp ht)⟩
        rw [PyProof.Rows.lm_len_rep_flat, Nat.mul_comm]
        exact c1
      · exact h2.elim
    · exact h2.elim
end
end DL
set_option Elab.async false
set_option linter.all false
set_option maxRecDepth 100000
/-! enumerate, zip over lists and tuples -/
namespace PySem
open Sem (wp)
set_option maxHeartbeats 1000000 in
theorem meets_enumerate_newB1 {v : Value} {o : Obj} {H : Heap → Prop} (B : Begins v o H) :
    Meets (Builtin.«enumerate.__new__» ⟨[.type "enumerate", v], []⟩) (fun _ R s => H s.heap ∧
      R (.ok (.ret (.ref (s.heap.push o).objs.size))) { s with heap := (s.heap.push o).push { cls := .type "enumerate", data := .fields #[.none, .bool false, .ref s.heap.objs.size, rawInt 0, .none, .none] } }) :=
  .of_wp fun prog w A R s h => by
    obtain ⟨hp, g, d, tk, os⟩ := s; obtain ⟨h1, h⟩ := h
    have hsub := sub_enumerate
    have q1 : ∀ {A' : Around} {E : Value → Shared → Prop} {Q : Value → Shared → Prop}, Q (.ref hp.objs.size) ⟨hp.push o, g, d, tk, os⟩ → wpAny (model prog w) A' (pyIter v) Q E ⟨hp, g, d, tk, os⟩ :=
      fun q => B.iter prog w _ _ ⟨hp, g, d, tk, os⟩ _ h1 q
    wp_walk using q1
    refine wpAny_stack_any fun st => wpAny_pure ?_
    split
    · rename_i c _ _ _ _ _
      cases (c == Value.type "enumerate")
      · wp_walk using q1
        exact ⟨_, rfl, h⟩
      · wp_walk using q1
        exact ⟨_, rfl, h⟩
    · wp_walk using q1
      exact ⟨_, rfl, h⟩
theorem enum_begins1 {prog : Program} {w : World} {A : Around} {E : Value → Shared → Prop} {s : Shared} {v : Value} {o : Obj} {H : Heap → Prop} {Q : Value → Shared → Prop} (B : Begins v o H) (h1 : H s.heap)
    (h : ∀ h', IsEnum h' (s.heap.objs.size + 1) s.heap.objs.size 0 .none → h'.get? s.heap.objs.size = some o → h'.objs.size = s.heap.objs.size + 2 →
      (∀ b o, s.heap.get? b = some o → h'.get? b = some o) → Q (.ref (s.heap.objs.size + 1)) { s with heap := h' }) :
    wpAny (model prog w) A (call (.type "enumerate") [v]) Q E s := by
  refine callType_new F.called_enumerate (by decide) (F.typeCall_enumerate_1 _) (F.newCall_enumerate_1 _) (fun obj => F.args_object_init_2 obj _) F.entry_enumerate_new
    (meets_enumerate_newB1 B) ⟨h1, ?_⟩
  have hz : (s.heap.push o).objs.size = s.heap.objs.size + 1 := Heap.size_push ..
  show _ ∧ _
  rw [hz]
  have he : IsEnum ((s.heap.push o).push { cls := .type "enumerate", data := .fields #[.none, .bool false, .ref s.heap.objs.size, rawInt 0, .none, .none] }) (s.heap.objs.size + 1) s.heap.objs.size 0 .none := by
    have := Heap.get?_push_size (s.heap.push o) (o := { cls := .type "enumerate", data := .fields #[.none, .bool false, .ref s.heap.objs.size, rawInt 0, .none, .none] }) rfl
    rw [hz] at this; exact this
  refine ⟨⟨_, he, rfl⟩, h _ he (Heap.get?_push_of_some _ (Heap.get?_push_size _ B.free)) (by rw [Heap.size_push, hz]) fun b o x => Heap.get?_push_of_some _ (Heap.get?_push_of_some _ x)⟩
end PySem
namespace DL
open PySem PySem.Spec PyProof.Rows L2

/-! ### a list (k false) or a tuple (k true) -/
def SqK (k : Bool) (K : PySem.W.Frag) (H : Hp) (a : Addr) (xs : List V) : Prop := match k with
  | true => SqT K H a xs
  | false => SqL K H a xs
def IsQ (k : Bool) (h : Heap) (a : Addr) (its : Array Value) : Prop := match k with
  | true => h.IsTuple a its
  | false => h.IsList a its
def IsQIter (k : Bool) (h : Heap) (it a : Addr) (i : Nat) : Prop := match k with
  | true => h.IsTupleIter it a i
  | false => h.IsListIter it a i
def iterO (k : Bool) (a : Addr) : Obj := match k with
  | true => { cls := .type "tuple_iterator", data := .fields #[.ref a, .int 0 0] }
  | false => { cls := .type "list_iterator", data := .fields #[.ref a, .int 0 0] }
theorem IsQ.at {k : Bool} {h h' : Heap} {a : Addr} {its : Array Value} (x : IsQ k h a its) (e : ∀ o, h.get? a = some o → h'.get? a = some o) : IsQ k h' a its := by
  cases k with
  | true => exact Heap.IsTuple.at x e
  | false => exact Heap.IsList.at x e
theorem IsQIter.at {k : Bool} {h h' : Heap} {it a : Addr} {i : Nat} (x : IsQIter k h it a i) (e : ∀ o, h.get? it = some o → h'.get? it = some o) : IsQIter k h' it a i := by
  cases k with
  | true => exact Heap.IsTupleIter.at x e
  | false => exact Heap.IsListIter.at x e
theorem IsQIter.obj {k : Bool} {h : Heap} {it a : Addr} {i : Nat} (x : IsQIter k h it a i) : ∃ o, h.get? it = some o ∧ ∀ v, o.data ≠ .cell v := by
  cases k with
  | true =>
    obtain ⟨o, ho, _, d⟩ := x
    exact ⟨o, ho, fun v q => by rw [d] at q; cases q⟩
  | false =>
    obtain ⟨o, ho, _, d⟩ := x
    exact ⟨o, ho, fun v q => by rw [d] at q; cases q⟩
theorem IsQ.ne {k k' : Bool} {h : Heap} {it a b : Addr} {i : Nat} {its : Array Value} (x : IsQ k h a its) (y : IsQIter k' h it b i) : a ≠ it := by
  intro e
  subst e
  cases k <;> cases k' <;>
  · obtain ⟨o, ho, c, _⟩ := x
    obtain ⟨o', ho', c', _⟩ := y
    rw [ho] at ho'
    cases ho'
    rw [c] at c'
    exact absurd c' (by decide)
theorem drawsQ {prog : Program} {w : World} {A : Around} (hh : A.handled = none) (k : Bool) (it a : Addr) (hne : a ≠ it) (items : Array Value) :
    Draws prog w A it [it, a] items.size (fun i v => items[i]? = some v) (fun i h => IsQIter k h it a i ∧ IsQ k h a items) := by
  cases k with
  | true => exact Draws.tuple hh it a hne items
  | false => exact Draws.list hh it a hne items
theorem beginsQ (k : Bool) (a : Addr) (items : Array Value) : Begins (.ref a) (iterO k a) (fun h => IsQ k h a items) := by
  cases k with
  | true => exact begins_tuple a items
  | false => exact begins_list a items
theorem iterQ {k : Bool} {h : Heap} {it a : Addr} (e : h.get? it = some (iterO k a)) : IsQIter k h it a 0 := by
  cases k with
  | true => exact ⟨_, e, rfl, rfl⟩
  | false => exact ⟨_, e, rfl, rfl⟩
section
variable {X : Cx} {pins : List (Addr × Obj)} {σ : L2.St} {H : Hp} {s : Shared} {a : Addr} {xs ys : List V} {k : Bool}
theorem invQ (I : Inv X pins σ H s) (h : SqK k X.K H a xs) : ∃ its : List Value, Vals xs its ∧ IsQ k s.heap a its.toArray ∧ xs.length ≤ sizeLine := by
  cases k with
  | true =>
    obtain ⟨its, r, t, z⟩ := I.tuple h
    exact ⟨its, r, t, z⟩
  | false =>
    obtain ⟨its, r, t, z⟩ := I.list h
    exact ⟨its, r, t.isList, z⟩
theorem invQ_inj (I : Inv X pins σ H s) (h : SqK k X.K H a xs) (h' : SqK k X.K H a ys) : xs = ys := by
  cases k with
  | true => exact I.tuple_inj h h'
  | false => exact I.list_inj h h'
end
/-- enumerate -/
def IteQ (k : Bool) (K : PySem.W.Frag) (a : Addr) : It :=
  ⟨fun i H => ∃ (xs : List V) (x : V), SqK k K H a xs ∧ xs[i]? = some x, fun i H v H' => ∃ T x, v = .ref T ∧ H T = none ∧ H' = upd H T (.tup [.int (i : Nat), x]) ∧ ∀ xs, SqK k K H a xs → xs[i]? = some x, fun i H => ∃ xs : List V, SqK k K H a xs ∧ xs.length = i⟩
theorem turn_enumQ {P : Program} {w : World} {K : PySem.W.Frag} {elts : List Expr} {kk : Nat} {tpos : Pos} (k : Bool) (a e it : Addr) :
    Turn P w K (.Tuple elts kk tpos) (IteQ k K a) [e, it] e (fun i h => (∃ old, IsEnum h e it ((i : Nat) : Int) old) ∧ IsQIter k h it a i ∧ e ≠ it ∧ e ≠ a) where
  mem := by simp
  obj := fun i h st b hb => by
    obtain ⟨⟨old, he⟩, hi, _⟩ := st
    have e' : b = e ∨ b = it := by simpa using hb
    rcases e' with z | z
    · rw [z]; exact ⟨_, he, fun v q => nomatch q⟩
    · rw [z]; exact hi.obj
  keep := fun i h h' st k => let ⟨⟨old, he⟩, hi, hne⟩ := st; ⟨⟨old, k e (by simp) _ he⟩, hi.at fun o q => k it (by simp) o q, hne⟩
  item := by
    intro X hP hw hK hc i pins s σ H E I hf st hg
    subst hP hw hK
    obtain ⟨⟨old, he⟩, hit, hne, hea⟩ := st
    obtain ⟨xs, x, hq, hx⟩ := hg
    obtain ⟨its, rv, p, hz⟩ := invQ I hq
    obtain ⟨u, hu, ru⟩ := rv.get hx
    have hel : e < s.heap.objs.size := Heap.lt_size he
    have hil : it < s.heap.objs.size := by obtain ⟨_, q, _⟩ := hit.obj; exact Heap.lt_size q
    have D := drawsQ (prog := X.prog) (w := X.w) (A := X.A.in1) (I.ok.hd hc) k it a (p.ne hit) its.toArray
    have hlt : i < its.toArray.size := by
      have := (List.getElem?_eq_some_iff.mp hu).1
      simpa using this
    refine wpAny_pyNext_enum_itemD D he ⟨hit, p⟩ hlt hne (by simp [hne, hea]) fun x' h' tk hP ho hst hT hsz hk => ?_
    obtain ⟨hit', p'⟩ := hst
    have hxu : x' = u := by
      have q1 : its.toArray[i]? = some x' := hP
      have q2 : its.toArray[i]? = some u := by simpa using hu
      rw [q1] at q2
      exact Option.some.inj q2
    subst hxu
    refine ⟨_, rfl, wpAny_letOwnedTupleGo_enum (s := { s with heap := h', toks := tk + 1 }) ho fun h'' he' sb => ?_⟩
    have hT2 : h''.get? s.heap.objs.size = some { cls := .type "tuple", data := .seq #[.int i tk, x'] } := (sb.2 _ (Nat.ne_of_gt hel)).trans hT
    have new : ObjOk X.prog X.w (upd H s.heap.objs.size (.tup [.int (i : Nat), x])) h'' s.heap.objs.size (.tup [.int (i : Nat), x]) :=
      ⟨by show 2 ≤ sizeLine; decide, [.int i tk, x'], .cons ⟨_, rfl⟩ (.cons ru .nil), ⟨_, hT2, rfl, _, rfl⟩⟩
    have I1 : Inv X pins σ (upd H s.heap.objs.size (.tup [.int (i : Nat), x])) { s with heap := h'', toks := tk + 1 } :=
      I.turnedNew (ch := [e, it]) (fun b ob hb q => (sb.2 b (fun z => hb (by simp [z]))).trans (hk b ob (fun z => hb (by simp [z])) (fun z => hb (by simp [z])) q)) hf (Nat.le_refl _) new
    refine ⟨.ref s.heap.objs.size, _, I1, rfl, ⟨_, x, rfl, I.hok.fresh (Nat.le_refl _), rfl, fun ys hy => by rw [invQ_inj I hy hq]; exact hx⟩, ⟨⟨x', ?_⟩, hit'.at fun o q => (sb.2 it (Ne.symm hne)).trans q, hne, hea⟩, fun b hb => ?_⟩
    · have e1 : ((i + 1 : Nat) : Int) = (i : Int) + 1 := by omega
      rw [e1]; exact he'
    · have hb' : b < s.heap.objs.size := by
        have e' : b = e ∨ b = it := by simpa using hb
        rcases e' with z | z
        · rw [z]; exact hel
        · rw [z]; exact hil
      rw [upd_ne (Nat.ne_of_lt hb')]
      exact (hf b hb).1
  done := by
    intro X hP hw hK hc i pins s σ H E I hf st hg
    subst hP hw hK
    obtain ⟨⟨old, he⟩, hit, hne, hea⟩ := st
    obtain ⟨xs, hq, hx⟩ := hg
    obtain ⟨its, rv, p, hz⟩ := invQ I hq
    obtain ⟨f0, f1, f2, f3, f4, f5⟩ := hf it (by simp)
    have hl := rv.length
    have D := drawsQ (prog := X.prog) (w := X.w) (A := X.A.in1) (I.ok.hd hc) k it a (p.ne hit) its.toArray
    have en : its.toArray.size = i := by rw [List.size_toArray]; omega
    refine wpAny_pyNext_enum_endD D he ?_ fun h' eb => ⟨rfl, I.turned (t' := s.toks) (fun b o hb q => eb b o hb q) f0 f1 f3 f4 f5⟩
    rw [en]
    exact ⟨hit, p⟩
  self := fun A i s Q E st h => let ⟨⟨_, he⟩, _⟩ := st; wpAny_pyIter_enum he h
def iEnumQ (K : PySem.W.Frag) (ta : TA) : TI := fun σ H R' => ta σ H fun vs H1 => ∃ a xs k, vs = [.ref a] ∧ SqK k K H1 a xs ∧ R' (IteQ k K a) H1
theorem pi_enumQ {X : Cx} {e : Expr} {ta : TA} {p pos tpos : Pos} {elts : List Expr} {kk : Nat} (hg : Gl X "enumerate") (hm : X.mg "enumerate" = none) (ha : PA X [e] ta) (hs : starEach [e] X.env = [(false, eval e X.env)] := by kernel_rfl) :
    PI X (.Tuple elts kk tpos) (.Call (.Name "enumerate" p) [e] [] pos) (iEnumQ X.K ta) := by
  refine ⟨fun pins s σ H R I h => ?_⟩
  refine Call_ (ld_blt I hg hm boot_enumerate (PyProof.Rows.callWith_type1 (thn (ha.run pos pins s σ H _ I h) fun us s1 ⟨vs, H1, I1, r1, q1⟩ => ?_) hs rfl))
  obtain ⟨a, xs, k, ex, hq, q⟩ := q1
  subst ex
  cases r1 with
  | cons r rr =>
    cases rr
    cases r
    obtain ⟨its, rv, p', hz⟩ := invQ I1 hq
    have hal : a < s1.heap.objs.size := by
      cases k with
      | true => obtain ⟨o, ho, _⟩ := p'; exact Heap.lt_size ho
      | false => obtain ⟨o, ho, _⟩ := p'; exact Heap.lt_size ho
    refine enum_begins1 (beginsQ k a its.toArray) p' fun h' he hit hsz hk => wpAny_pyIter_enum he ?_
    have I2 : Inv X pins σ H1 { s1 with heap := h' } := I1.kept (t' := s1.toks) hk
    refine ⟨s1.heap.objs.size + 1, [s1.heap.objs.size + 1, s1.heap.objs.size], _, _, H1, rfl, I2, turn_enumQ k a (s1.heap.objs.size + 1) s1.heap.objs.size, ⟨⟨.none, he⟩, iterQ hit, Nat.succ_ne_self _, Nat.ne_of_gt (Nat.lt_succ_of_lt hal)⟩, fun b hb => ?_, q⟩
    have e' : b = s1.heap.objs.size + 1 ∨ b = s1.heap.objs.size := by simpa using hb
    have hle : s1.heap.objs.size ≤ b := by
      rcases e' with z | z
      · rw [z]; exact Nat.le_add_right _ _
      · rw [z]; exact Nat.le_refl _
    exact I1.fpOk hle (I1.hok.fresh hle)
/-- zip -/
def ItzQ (k1 k2 : Bool) (K : PySem.W.Frag) (a b : Addr) : It :=
  ⟨fun i H => ∃ (xs ys : List V) (x y : V), SqK k1 K H a xs ∧ SqK k2 K H b ys ∧ xs[i]? = some x ∧ ys[i]? = some y,
    fun i H v H' => ∃ T x y, v = .ref T ∧ H T = none ∧ H' = upd H T (.tup [x, y]) ∧ (∀ xs, SqK k1 K H a xs → xs[i]? = some x) ∧ ∀ ys, SqK k2 K H b ys → ys[i]? = some y,
    fun i H => ∃ xs ys : List V, SqK k1 K H a xs ∧ SqK k2 K H b ys ∧ i ≤ xs.length ∧ i ≤ ys.length ∧ (i = xs.length ∨ i = ys.length)⟩
theorem turn_zipQ {P : Program} {w : World} {K : PySem.W.Frag} {elts : List Expr} {kk : Nat} {tpos : Pos} (k1 k2 : Bool) {a b z TI TO i1 i2 : Addr} (S : ZipSep2 z TI TO i1 i2 [i1, a] [i2, b]) :
    Turn P w K (.Tuple elts kk tpos) (ItzQ k1 k2 K a b) [z, TI, TO, i1, i2] z (fun i h => IsZip h z TI TO .none ∧ IsTupOf2 h TI (.ref i1) (.ref i2) ∧ (∃ x y, IsTupOf2 h TO x y) ∧ IsQIter k1 h i1 a i ∧ IsQIter k2 h i2 b i) where
  mem := by simp
  obj := fun i h st c hc => by
    obtain ⟨hz, hTI, ⟨x, y, hTO⟩, h1, h2⟩ := st
    have e' : c = z ∨ c = TI ∨ c = TO ∨ c = i1 ∨ c = i2 := by simpa using hc
    rcases e' with q | q | q | q | q
    · rw [q]; exact ⟨_, hz, fun v q => nomatch q⟩
    · rw [q]; exact ⟨_, hTI, fun v q => nomatch q⟩
    · rw [q]; exact ⟨_, hTO, fun v q => nomatch q⟩
    · rw [q]; exact h1.obj
    · rw [q]; exact h2.obj
  keep := fun i h h' st k => by
    obtain ⟨hz, hTI, ⟨x, y, hTO⟩, h1, h2⟩ := st
    exact ⟨k z (by simp) _ hz, k TI (by simp) _ hTI, ⟨x, y, k TO (by simp) _ hTO⟩, h1.at fun o q => k i1 (by simp) o q, h2.at fun o q => k i2 (by simp) o q⟩
  item := by
    intro X hP hw hK hc i pins s σ H E I hf st hg
    subst hP hw hK
    obtain ⟨hz, hTI, ⟨x0, y0, hTO⟩, h1, h2⟩ := st
    obtain ⟨xs, ys, x, y, hqx, hqy, hx, hy⟩ := hg
    obtain ⟨its, rv, p, _⟩ := invQ I hqx
    obtain ⟨its2, rv2, p2, _⟩ := invQ I hqy
    obtain ⟨u, hu, ru⟩ := rv.get hx
    obtain ⟨u2, hu2, ru2⟩ := rv2.get hy
    have hzl : z < s.heap.objs.size := Heap.lt_size hz
    have D1 := drawsQ (prog := X.prog) (w := X.w) (A := X.A.in1) (I.ok.hd hc) k1 i1 a (p.ne h1) its.toArray
    have D2 := drawsQ (prog := X.prog) (w := X.w) (A := X.A.in1) (I.ok.hd hc) k2 i2 b (p2.ne h2) its2.toArray
    have hlt1 : i < its.toArray.size := by
      have := (List.getElem?_eq_some_iff.mp hu).1
      simpa using this
    have hlt2 : i < its2.toArray.size := by
      have := (List.getElem?_eq_some_iff.mp hu2).1
      simpa using this
    refine wpAny_pyNext_zipD2_item S D1 D2 hz hTI hTO ⟨h1, p⟩ ⟨h2, p2⟩ hlt1 hlt2 fun y1 y2 h' tk hy1 hy2 z' TO' st1 st2 hT hsz hk => ?_
    obtain ⟨h1', _⟩ := st1
    obtain ⟨h2', _⟩ := st2
    have e1 : y1 = u := by
      have q2 : its.toArray[i]? = some u := by simpa using hu
      rw [show its.toArray[i]? = some y1 from hy1] at q2
      exact Option.some.inj q2
    have e2 : y2 = u2 := by
      have q2 : its2.toArray[i]? = some u2 := by simpa using hu2
      rw [show its2.toArray[i]? = some y2 from hy2] at q2
      exact Option.some.inj q2
    subst e1 e2
    refine ⟨_, rfl, wpAny_letOwnedTupleGo_zip (s := { s with heap := h', toks := tk }) z' fun h'' z'' sb => ?_⟩
    have hT2 : h''.get? s.heap.objs.size = some { cls := .type "tuple", data := .seq #[y1, y2] } := (sb.2 _ (Nat.ne_of_gt hzl)).trans hT
    have new : ObjOk X.prog X.w (upd H s.heap.objs.size (.tup [x, y])) h'' s.heap.objs.size (.tup [x, y]) :=
      ⟨by show 2 ≤ sizeLine; decide, [y1, y2], .cons ru (.cons ru2 .nil), ⟨_, hT2, rfl, _, rfl⟩⟩
    have I1 : Inv X pins σ (upd H s.heap.objs.size (.tup [x, y])) { s with heap := h'', toks := tk } :=
      I.turnedNew (t' := tk) (ch := [z, TI, TO, i1, i2]) (fun c o hb q => (sb.2 c (fun q' => hb (by simp [q']))).trans (hk c o (fun q' => hb (by simp [q'])) (fun q' => hb (by simp [q'])) (fun q' => hb (by simp [q'])) (fun q' => hb (by simp [q'])) q)) hf (Nat.le_refl _) new
    refine ⟨.ref s.heap.objs.size, _, I1, rfl, ⟨_, x, y, rfl, I.hok.fresh (Nat.le_refl _), rfl, fun l hl => by rw [invQ_inj I hl hqx]; exact hx, fun l hl => by rw [invQ_inj I hl hqy]; exact hy⟩, ⟨z'', ?_, ⟨y1, y2, ?_⟩, ?_, ?_⟩, fun c hcm => ?_⟩
    · exact (sb.2 _ S.TIz).trans (hk _ _ S.TIz S.TITO S.TIi1 S.TIi2 hTI)
    · exact (sb.2 _ S.TOz).trans TO'
    · exact h1'.at fun o q => (sb.2 _ (Ne.symm S.zi1)).trans q
    · exact h2'.at fun o q => (sb.2 _ (Ne.symm S.zi2)).trans q
    · have hlt : c < s.heap.objs.size := by
        have e' : c = z ∨ c = TI ∨ c = TO ∨ c = i1 ∨ c = i2 := by simpa using hcm
        rcases e' with q | q | q | q | q
        · rw [q]; exact hzl
        · rw [q]; exact Heap.lt_size hTI
        · rw [q]; exact Heap.lt_size hTO
        · rw [q]; obtain ⟨_, e1, _⟩ := h1.obj; exact Heap.lt_size e1
        · rw [q]; obtain ⟨_, e2, _⟩ := h2.obj; exact Heap.lt_size e2
      rw [upd_ne (Nat.ne_of_lt hlt)]
      exact (hf c hcm).1
  done := by
    intro X hP hw hK hc i pins s σ H E I hf st hg
    subst hP hw hK
    obtain ⟨hz, hTI, ⟨x0, y0, hTO⟩, h1, h2⟩ := st
    obtain ⟨xs, ys, hqx, hqy, l1, l2, hend⟩ := hg
    obtain ⟨its, rv, p, _⟩ := invQ I hqx
    obtain ⟨its2, rv2, p2, _⟩ := invQ I hqy
    have e1 := rv.length
    have e2 := rv2.length
    have D1 := drawsQ (prog := X.prog) (w := X.w) (A := X.A.in1) (I.ok.hd hc) k1 i1 a (p.ne h1) its.toArray
    have D2 := drawsQ (prog := X.prog) (w := X.w) (A := X.A.in1) (I.ok.hd hc) k2 i2 b (p2.ne h2) its2.toArray
    exact wpAny_pyNext_zipD2_end S D1 D2 hz hTI hTO ⟨h1, p⟩ ⟨h2, p2⟩ (by rw [List.size_toArray]; omega) (by rw [List.size_toArray]; omega) (by rw [List.size_toArray, List.size_toArray]; omega) fun h' tk hk => ⟨rfl, I.turnedL (t' := tk) (ch := [z, TI, TO, i1, i2]) (fun c o hb q =>
      hk c o (fun q' => hb (by simp [q'])) (fun q' => hb (by simp [q'])) (fun q' => hb (by simp [q'])) (fun q' => hb (by simp [q'])) q) hf⟩
  self := fun A i s Q E st h => wpAny_pyIter_zip st.1 h
def iZipQ (K : PySem.W.Frag) (ta : TA) : TI := fun σ H R' => ta σ H fun vs H1 => ∃ a b xs ys k1 k2, vs = [.ref a, .ref b] ∧ SqK k1 K H1 a xs ∧ SqK k2 K H1 b ys ∧ R' (ItzQ k1 k2 K a b) H1
theorem IsQ.lt {k : Bool} {h : Heap} {a : Addr} {its : Array Value} (x : IsQ k h a its) : a < h.objs.size := by
  cases k with
  | true => obtain ⟨o, ho, _⟩ := x; exact Heap.lt_size ho
  | false => obtain ⟨o, ho, _⟩ := x; exact Heap.lt_size ho
theorem pi_zipQ {X : Cx} {e e2 : Expr} {ta : TA} {p pos tpos : Pos} {elts : List Expr} {kk : Nat} (hg : Gl X "zip") (hm : X.mg "zip" = none) (ha : PA X [e, e2] ta) (hs : starEach [e, e2] X.env = (false, eval e X.env) :: starEach [e2] X.env := by kernel_rfl) (hpl : (backTo pos (starEach [e2] X.env)).any (·.1) = false := by kernel_rfl) :
    PI X (.Tuple elts kk tpos) (.Call (.Name "zip" p) [e, e2] [] pos) (iZipQ X.K ta) := by
  refine ⟨fun pins s σ H R I h => ?_⟩
  refine Call_ (ld_blt I hg hm boot_zip (PyProof.Rows.callWith_type1 (thn (ha.run pos pins s σ H _ I h) fun us s1 ⟨vs, H1, I1, r1, q1⟩ => ?_) hs hpl))
  obtain ⟨a, b, xs, ys, k1, k2, ex, hq, hq2, q⟩ := q1
  subst ex
  obtain ⟨u1, u2, rfl, r, rr⟩ := r1.two
  cases r
  cases rr
  obtain ⟨its, rv, p1, hz⟩ := invQ I1 hq
  obtain ⟨its2, rv2, p2, hz2⟩ := invQ I1 hq2
  refine zip_begins2 (beginsQ k1 a its.toArray) (beginsQ k2 b its2.toArray) p1 p2 fun h' hz' hTI hTO hi1 hi2 hsz hk => wpAny_pyIter_zip hz' ?_
  have I2 : Inv X pins σ H1 { s1 with heap := h' } := I1.kept (t' := s1.toks) hk
  have S := zip_sep2 (N := s1.heap.objs.size) (fp1 := [a]) (fp2 := [b]) (fun c hc => by rw [List.mem_singleton] at hc; subst hc; exact p1.lt) (fun c hc => by rw [List.mem_singleton] at hc; subst hc; exact p2.lt)
  refine ⟨s1.heap.objs.size + 4, [s1.heap.objs.size + 4, s1.heap.objs.size + 2, s1.heap.objs.size + 3, s1.heap.objs.size, s1.heap.objs.size + 1], _, _, H1, rfl, I2, turn_zipQ k1 k2 S, ⟨hz', hTI, ⟨_, _, hTO⟩, iterQ hi1, iterQ hi2⟩, fun c hc => ?_, q⟩
  have hle : s1.heap.objs.size ≤ c := by
    have e' : c = s1.heap.objs.size + 4 ∨ c = s1.heap.objs.size + 2 ∨ c = s1.heap.objs.size + 3 ∨ c = s1.heap.objs.size ∨ c = s1.heap.objs.size + 1 := by simpa using hc
    rcases e' with z | z | z | z | z <;> rw [z] <;> first | exact Nat.le_refl _ | exact Nat.le_add_right _ _
  exact I1.fpOk hle (I1.hok.fresh hle)

/-! ### .. as data -/
section
variable {X : Cx} {W : WX} {Γ : List Nat} {e a b : Expr} {fl fa fb : Fl} {se sa sb : SE} {pos p p2 tpos : Pos} {elts : List Expr} {kk : Nat}
theorem Res.staysQ {K : PySem.W.Frag} {H0 H1 : Hp} {GO : List (Nat × Addr)} {F : List Addr} {v : V} {d : Da} {ds : List Da} (h : Res K H0 H1 (Ads GO ++ F) fl v d) (hd : toL d = .ok ds) (s : Bool) (hs : s = true → storable [fl] = true) :
    ∃ k p vs, v = .ref p ∧ RpAll K H1 (Ads GO ++ F) vs ds ∧ ds.length ≤ big ∧ ∀ H O', Grow (sto s (Ads GO ++ F)) (Ads GO ++ F) O' H1 H → SqK k K H p vs := by
  cases d with
  | list xs =>
    cases hd
    obtain ⟨p, vs, e, r, n, st⟩ := h.stays s hs
    exact ⟨false, p, vs, e, r, n, st⟩
  | tuple xs =>
    cases hd
    obtain ⟨p, vs, rfl, q1, r2, n2⟩ := h.tuple
    exact ⟨true, p, vs, rfl, r2, n2, fun H O' g => sqt_keep g.keep q1⟩
  | _ => cases hd
theorem grow_refl {GO : List (Nat × Addr)} {F : List Addr} {H : Hp} (s : Bool) : Grow (sto s (Ads GO ++ F)) (Ads GO ++ F) (Ads GO ++ F) H H := ⟨.refl H, fun b hb => by
  cases s with
  | true => exact hb
  | false => exact (List.not_mem_nil hb).elim, fun b hb => .inl hb⟩
theorem enumD_get : ∀ (xs : List Da) (k i : Nat) (y : Da), (enumD k xs)[i]? = some y → ∃ x, xs[i]? = some x ∧ y = .tuple [.int ((k + i : Nat) : Int), x]
  | [], _, _, _, h => by simp [enumD] at h
  | x :: xs, k, 0, y, h => by
    unfold enumD at h
    simp at h
    exact ⟨x, rfl, h.symm⟩
  | x :: xs, k, i + 1, y, h => by
    unfold enumD at h
    obtain ⟨z, h1, h2⟩ := enumD_get xs (k + 1) i y (by simpa using h)
    exact ⟨z, by simpa using h1, by rw [h2, Nat.add_right_comm]; rfl⟩
theorem enumD_len : ∀ (xs : List Da) (k : Nat), (enumD k xs).length = xs.length
  | [], _ => rfl
  | x :: xs, k => congrArg (· + 1) (enumD_len xs (k + 1))
theorem di_enum (s : Bool) (hm : X.mg "enumerate" = none) (he : DE X W Γ e fl se) (hs : s = true → storable [fl] = true) (hg : Gl X "enumerate" := by show _ = _; kernel_rfl) (h1 : starEach [e] X.env = [(false, eval e X.env)] := by kernel_rfl) : DI X W Γ (.Tuple elts kk tpos) (.Call (.Name "enumerate" p) [e] [] pos) s (iEnum se) :=
  pi_imp (pi_enumQ hg hm (pa_cons he pa_nil h1) h1) fun σ H Q h => by
    obtain ⟨ρ, F, GO, E, h⟩ := h
    refine at_e E h fun d v H1 s1 r1 E1 h1 => ?_
    cases hd : toL d with
    | ok ds =>
      rw [hd] at h1
      obtain ⟨k, p, vs, rfl, r2, n2, st⟩ := r1.staysQ hd s hs
      refine ⟨p, vs, k, rfl, st H1 _ (grow_refl s), h1 (IteQ k X.K p) H1 s1 (fun i H' O' g => ⟨fun y hy => ?_, fun hl => ?_⟩) (by rw [enumD_len]; exact n2)⟩
      · obtain ⟨x, hx, rfl⟩ := enumD_get ds 0 i y hy
        obtain ⟨v, hv, rv⟩ := (r2.mono g).get hx
        have q := st H' O' g
        refine ⟨⟨vs, v, q, hv⟩, fun v' H'' ⟨T, x', e1, hT, e2, hx'⟩ => ?_⟩
        subst e1 e2
        have := hx' vs q
        rw [hv] at this
        cases this
        refine ⟨same_upd hT, .tup (.of upd_same) (by show 2 ≤ big; decide) (.cons ?_ (.cons (rv.mono (.same (same_upd hT))) .nil))⟩
        rw [Nat.zero_add]
        exact .int _
      · rw [enumD_len] at hl
        exact ⟨vs, st H' O' g, by rw [r2.length, hl]⟩
    | exc c => rw [hd] at h1; exact absurd hd (by cases d <;> exact fun z => nomatch z)
    | bad => rw [hd] at h1; exact h1.elim
theorem zipD_get : ∀ (xs ys : List Da) (i : Nat) (z : Da), (zipD xs ys)[i]? = some z → ∃ x y, xs[i]? = some x ∧ ys[i]? = some y ∧ z = .tuple [x, y]
  | [], _, _, _, h => by simp [zipD] at h
  | _ :: _, [], _, _, h => by simp [zipD] at h
  | x :: xs, y :: ys, 0, z, h => by
    unfold zipD at h
    simp at h
    exact ⟨x, y, rfl, rfl, h.symm⟩
  | x :: xs, y :: ys, i + 1, z, h => by
    unfold zipD at h
    obtain ⟨a, b, h1, h2, h3⟩ := zipD_get xs ys i z (by simpa using h)
    exact ⟨a, b, by simpa using h1, by simpa using h2, h3⟩
theorem zipD_len : ∀ (xs ys : List Da), (zipD xs ys).length = min xs.length ys.length
  | [], ys => by simp [zipD]
  | _ :: _, [] => by simp [zipD]
  | x :: xs, y :: ys => by
    unfold zipD
    rw [List.length_cons, zipD_len xs ys, List.length_cons, List.length_cons]
    omega
theorem toL_nx (d : Da) (c : Str) : toL d ≠ .exc c := by cases d <;> exact fun z => nomatch z
theorem di_zip (s : Bool) (hm : X.mg "zip" = none) (ha : DE X W Γ a fa sa) (hb : DE X W Γ b fb sb) (hs : s = true → storable [fa] = true) (hs2 : s = true → storable [fb] = true) (hg : Gl X "zip" := by show _ = _; kernel_rfl) (h1 : starEach [a, b] X.env = (false, eval a X.env) :: starEach [b] X.env := by kernel_rfl) (h2 : starEach [b] X.env = (false, eval b X.env) :: starEach [] X.env := by kernel_rfl) (hpl : (backTo pos (starEach [b] X.env)).any (·.1) = false := by kernel_rfl) : DI X W Γ (.Tuple elts kk tpos) (.Call (.Name "zip" p) [a, b] [] pos) s (iZip sa sb) :=
  pi_imp (pi_zipQ hg hm (pa_cons ha (pa_cons hb pa_nil h2) h1) h1 hpl) fun σ H Q h => by
    obtain ⟨ρ, F, GO, E, h⟩ := h
    refine at_e E h fun d v H1 s1 r1 E1 h1 => at_e E1 h1 fun d2 v2 H2 s2 r2 E2 h2 => ?_
    obtain ⟨ds, hd, h2⟩ := FinG.bind_ok (toL_nx d) h2
    obtain ⟨ds2, hd2, h2⟩ := FinG.bind_ok (toL_nx d2) h2
    obtain ⟨k, p, vs, rfl, q1, n1, st1⟩ := (r1.mono s2).staysQ hd s hs
    obtain ⟨k2, p2, vs2, rfl, q2, n2, st2⟩ := r2.staysQ hd2 s hs2
    refine ⟨p, p2, vs, vs2, k, k2, rfl, st1 H2 _ (grow_refl s), st2 H2 _ (grow_refl s), h2 (ItzQ k k2 X.K p p2) H2 (s1.trans s2) (fun i H' O' g => ⟨fun z hz => ?_, fun hl => ?_⟩) (by rw [zipD_len]; omega)⟩
    · obtain ⟨x, y, hx, hy, rfl⟩ := zipD_get ds ds2 i z hz
      obtain ⟨v, hv, rv⟩ := (q1.mono g).get hx
      obtain ⟨w, hw, rw'⟩ := (q2.mono g).get hy
      have t1 := st1 H' O' g
      have t2 := st2 H' O' g
      refine ⟨⟨vs, vs2, v, w, t1, t2, hv, hw⟩, fun v' H'' ⟨T, x', y', e1, hT, e2, hx', hy'⟩ => ?_⟩
      subst e1 e2
      have g1 := hx' vs t1
      rw [hv] at g1
      cases g1
      have g2 := hy' vs2 t2
      rw [hw] at g2
      cases g2
      exact ⟨same_upd hT, .tup (.of upd_same) (by show 2 ≤ big; decide) (.cons (rv.mono (.same (same_upd hT))) (.cons (rw'.mono (.same (same_upd hT))) .nil))⟩
    · rw [zipD_len] at hl
      exact ⟨vs, vs2, st1 H' O' g, st2 H' O' g, by rw [q1.length]; omega, by rw [q2.length]; omega, by rw [q1.length, q2.length]; omega⟩
end
end DL
set_option Elab.async false
set_option linter.all false
set_option maxRecDepth 100000
namespace DL
open PySem PySem.Spec PyProof.Rows L2

/-! ### sorting -/
theorem insI_perm (x : Int) : ∀ l : List Int, (insI x l).Perm (x :: l)
  | [] => List.Perm.refl _
  | y :: l => by
    unfold insI
    split
    · exact List.Perm.refl _
    · exact ((insI_perm x l).cons y).trans (List.Perm.swap x y l)
theorem insI_sorted (x : Int) : ∀ l : List Int, l.Pairwise (· ≤ ·) → (insI x l).Pairwise (· ≤ ·)
  | [], _ => List.pairwise_singleton _ _
  | y :: l, h => by
    unfold insI
    obtain ⟨h1, h2⟩ := List.pairwise_cons.mp h
    split
    · rename_i q
      exact List.pairwise_cons.mpr ⟨fun z hz => by
        rcases List.mem_cons.mp hz with e | hz
        · subst e; exact q
        · have := h1 z hz; omega, h⟩
    · rename_i q
      exact List.pairwise_cons.mpr ⟨fun z hz => by
        rcases List.mem_cons.mp ((insI_perm x l).mem_iff.mp hz) with e | hz
        · subst e; omega
        · exact h1 z hz, insI_sorted x l h2⟩
theorem sortI_perm : ∀ l : List Int, (sortI l).Perm l
  | [] => List.Perm.refl _
  | x :: l => (insI_perm x (sortI l)).trans ((sortI_perm l).cons x)
theorem sortI_sorted : ∀ l : List Int, (sortI l).Pairwise (· ≤ ·)
  | [] => List.Pairwise.nil
  | x :: l => insI_sorted x _ (sortI_sorted l)
theorem sorted_one : ∀ (l m : List Int), l.Perm m → l.Pairwise (· ≤ ·) → m.Pairwise (· ≤ ·) → l = m
  | [], m, p, _, _ => (List.Perm.eq_nil p.symm).symm
  | x :: l, [], p, _, _ => absurd p.length_eq (by simp)
  | x :: l, y :: m, p, h1, h2 => by
    obtain ⟨a1, a2⟩ := List.pairwise_cons.mp h1
    obtain ⟨b1, b2⟩ := List.pairwise_cons.mp h2
    have e : x = y := by
      have q1 : x ∈ y :: m := p.mem_iff.mp List.mem_cons_self
      have q2 : y ∈ x :: l := p.mem_iff.mpr List.mem_cons_self
      rcases List.mem_cons.mp q1 with q1 | q1
      · exact q1
      · rcases List.mem_cons.mp q2 with q2 | q2
        · exact q2.symm
        · have := a1 y q2
          have := b1 x q1
          omega
    subst e
    rw [sorted_one l m ((List.perm_cons x).mp p) a2 b2]

section
variable {X : Cx} {W : WX} {Γ Γ' Γ1 : List Nat} {e a b c d k : Expr} {es : List Expr} {fls : List Fl} {fl fa fb fc fk : Fl} {se sa sb sc sk : SE} {pos p p2 p3 : Pos}
theorem RpAll.intsR {K : PySem.W.Frag} {H : Hp} {O : List Addr} : ∀ is : List Int, RpAll K H O (is.map V.int) (is.map PyData.int)
  | [] => .nil
  | i :: is => .cons (.int i) (RpAll.intsR is)
theorem intsD_len : ∀ {xs : List Da} {is : List Int}, intsD xs = .ok is → is.length = xs.length
  | [], is, e => by unfold intsD at e; cases e; rfl
  | x :: xs, is, e => by
    cases x with
    | int i =>
      unfold intsD at e
      cases q : intsD xs with
      | ok js =>
        rw [q] at e
        cases e
        rw [List.length_cons, List.length_cons, intsD_len q]
      | exc c => rw [q] at e; cases e
      | bad => rw [q] at e; cases e
    | _ => unfold intsD at e; cases e
/-! ### range with a step -/
theorem rng3_get {lo c : Int} {n i : Nat} {x : Da} (h : (rng3D lo c n)[i]? = some x) : i < n ∧ x = .int (lo + (i : Nat) * c) := by
  unfold rng3D at h
  rw [List.getElem?_map] at h
  by_cases hi : i < n
  · rw [List.getElem?_range hi] at h
    exact ⟨hi, (Option.some.inj h).symm⟩
  · rw [List.getElem?_eq_none (by rw [List.length_range]; omega)] at h
    cases h
theorem rng3_len (lo c : Int) (n : Nat) : (rng3D lo c n).length = n := by unfold rng3D; rw [List.length_map, List.length_range]
theorem itD_rng3 {K : PySem.W.Frag} {G O : List Addr} {H1 : Hp} {lo c : Int} {n : Nat} : ItD K G O H1 (Itc lo c n) (rng3D lo c n) := fun i H O' g =>
  ⟨fun x hx => by
    obtain ⟨hi, rfl⟩ := rng3_get hx
    exact ⟨hi, fun v H' ⟨e1, e2⟩ => by subst e1 e2; exact ⟨.refl _, .int _⟩⟩, fun hl => by rw [rng3_len] at hl; exact Nat.le_of_eq hl.symm⟩

/-! ### an owned list written -/
theorem EnvR.writeL {K : PySem.W.Frag} {F : List Addr} {GO : List (Nat × Addr)} {σ : L2.St} {H : Hp} {ρ : Ev} (E : EnvR K Γ F GO σ H ρ) {i : Nat} {q : Addr} {vs vs' : List V} {ds' : List Da} (hq : (i, q) ∈ GO) (g1 : H q = some (.lst vs)) (r : RpAll K H (Ads GO ++ F) vs' ds') (n : ds'.length ≤ big) :
    EnvR K Γ F GO σ (upd H q (.lst vs')) (ρ.set i (some (.list ds'))) ∧ Keep (Ads GO) H (upd H q (.lst vs')) := by
  have kq : Keep [q] H (upd H q (.lst vs')) := fun b u e hb => by
    by_cases z : b = q
    · subst z
      rw [g1] at e
      cases e
      cases hb List.mem_cons_self
    · rw [upd_ne z]; exact e
  have g : Grow [q] (Ads GO ++ F) (Ads GO ++ F) H (upd H q (.lst vs')) := ⟨kq, fun b hb => by
    rw [List.mem_singleton] at hb
    subst hb
    exact List.mem_append_left _ (List.mem_map.mpr ⟨_, hq, rfl⟩), fun b hb => .inl hb⟩
  exact E.write hq (o := .lst vs') (d := .list ds') ⟨_, upd_same, r.mono g, n⟩

/-! ### x[k] += e -/
def rIxG (K : PySem.W.Frag) : V → V → Hp → VK → Prop := fun x y H Q => rIxL K x y H Q
theorem get_list : PGet X (rIxG X.K) := by
  intro pins s σ H x y v u Q I rx ry h
  obtain ⟨p, xs, i, z, rfl, rfl, hq, he, q⟩ := h
  cases rx
  obtain ⟨t, rfl⟩ := ry
  obtain ⟨its, r, pl, hz⟩ := I.list hq
  obtain ⟨j, h1, h2, h3, h4, h5⟩ := atI_get he
  obtain ⟨w, ew, rw'⟩ := r.get h2
  have hl := r.length
  have hn := line63
  have fin : EP X pins σ Q w s := ⟨z, H, I, rw', q⟩
  by_cases h0 : 0 ≤ i
  · have hj : i.toNat = j := by
      rw [seqIndex_of h0 h5] at h1
      exact Option.some.inj h1
    exact wpAny_getItem_list pl.isList h0 (by omega) (by rw [hj]; simpa using ew) fin
  · have hj : (i + (its.toArray.size : Int)).toNat = j := by
      rw [seqIndex_neg (by omega) h4] at h1
      rw [List.size_toArray, ← hl]
      exact Option.some.inj h1
    exact wpAny_getItem_list_neg pl.isList (by omega) (by rw [List.size_toArray] <;> omega) (by omega) (by rw [hj]; simpa using ew) fin
theorem ds_augI {i : Nat} {x : Str} {tpos : Pos} (hN : X.N[i]? = some x) (hv : Vis X.env.scope x) (hΓ : Γ.contains i = true) (hk : DE X W Γ k fk sk) (he : DE X W Γ e fl se)
    (hd : (x == ("__debug__" : Str)) = false := by decide) (hcd : (x == ("__classdict__" : Str)) = false := by decide)
    (ha : ∀ ov iv new, augStore k ov iv new = (do holding [new, ov, iv] (setItem ov iv new); release [new, ov, iv] []; pure Flow.next) := by intros; rfl) :
    DS X W Γ (.AugAssign (.Subscript (.Name x p) k tpos) .Add e pos) Γ (sAugI i sk se) :=
  ps_imp (ps_augS (pe_var (i := i) hN hv hd hcd) hk get_list he ip_add set_list ha) fun D σ H h => by
    obtain ⟨ρ, F, GO, E, h⟩ := h
    unfold sAugI at h
    obtain ⟨q, d0, hq, k1, k2, k3⟩ := E.ownL hΓ
    refine ⟨.ref q, k1, ?_⟩
    refine at_s F GO E h fun j w H1 s1 r1 E1 h1 => ?_
    obtain ⟨q', d1, hq', k1', k2', k3'⟩ := E1.ownL hΓ
    have eq' : q' = q := by rw [k1] at k1'; cases k1'; rfl
    subst eq'
    rw [k2'] at h1
    cases d1 with
    | list ds1 =>
      obtain ⟨vs, g1, g2, g3⟩ := k3'
      cases j with
      | int ii =>
        cases r1.int
        have h2 : FinS X.K X.mg W Γ F GO H1 ((oR (atD ds1 ii)).bind fun x => (se ρ).bind fun y => (addI x y).bind fun z => updE ρ i (setD (.int ii) z)) D := h1
        cases e1 : atD ds1 ii with
        | none => rw [e1] at h2; exact h2.elim
        | some x0 =>
          rw [e1] at h2
          obtain ⟨v0, e2, r2⟩ := atD_get g2 e1
          refine ⟨q', vs, ii, v0, rfl, rfl, .inl (.inl g1), atD_I _ _ e2, ?_⟩
          have h3 : FinS X.K X.mg W Γ F GO H1 ((se ρ).bind fun y => (addI x0 y).bind fun z => updE ρ i (setD (.int ii) z)) D := h2
          refine at_s F GO E1 h3 fun y w2 H2 s2 r3 E2 h4 => ?_
          cases x0 with
          | int a0 =>
            cases r2
            cases y with
            | int b0 =>
              cases r3.int
              have h5 : FinS X.K X.mg W Γ F GO H2 (updE ρ i (setD (.int ii) (.int (a0 + b0)))) D := h4
              refine ⟨a0, b0, rfl, rfl, ?_⟩
              unfold updE at h5
              rw [k2'] at h5
              have h6 : FinS X.K X.mg W Γ F GO H2 (((oR (ixD ds1.length ii)).bind fun jj => R.ok (PyData.list (ds1.set jj (.int (a0 + b0))))).bind fun d' => .ok (.nx (ρ.set i (some d')))) D := h5
              cases e3 : ixD ds1.length ii with
              | none => rw [e3] at h6; exact h6.elim
              | some jj =>
                rw [e3] at h6
                have h7 : FinS X.K X.mg W Γ F GO H2 (.ok (.nx (ρ.set i (some (.list (ds1.set jj (.int (a0 + b0)))))))) D := h6
                have g1' := s2 _ _ g1
                obtain ⟨E3, K3⟩ := E2.writeL hq' g1' (vs' := vs.set jj (.int (a0 + b0))) (ds' := ds1.set jj (.int (a0 + b0))) (RpAll.set (.int _) jj (g2.mono (.same s2))) (by rw [List.length_set]; exact g3)
                exact ⟨q', vs, ii, jj, rfl, rfl, g1', by rw [g2.length]; exact e3, h7 σ _ GO E3 K3 same_new⟩
            | _ => exact h4.elim
          | _ => exact h4.elim
      | _ => exact h1.elim
    | _ => exact k3'.elim
theorem name_s {i : Nat} {D : Ends} {σ : L2.St} {H : Hp} (hΓ : Γ.contains i = false) (hf : storable [fl] = true) (h : tDS X.K X.mg W Γ Γ (sAsg (gVar i) se) D σ H) : tDE X.K X.mg W Γ fl se σ H fun x H1 => gName i x σ H1 D.nx := by
  obtain ⟨ρ, F, GO, E, h⟩ := h
  refine at_s F GO E h fun d v H1 s1 r1 E1 h1 => ?_
  have hi' : i ∉ Γ := fun z => by rw [List.contains_iff_mem.mpr z] at hΓ; cases hΓ
  exact h1 _ H1 GO (E1.setS hi' (r1.stored hf)) (.refl H1) same_new
end
end DL
set_option Elab.async false
set_option linter.all false
set_option maxRecDepth 100000
namespace DL
open PySem PySem.Spec PyProof.Rows L2
section
variable {X : Cx} {W : WX} {Γ Γ' Γ1 : List Nat} {e a b c d k : Expr} {es : List Expr} {fls : List Fl} {fl fa fb fc fk : Fl} {se sa sb sc sk : SE} {pos p p2 p3 : Pos}
theorem rgC3 {i j c : Int} (h1 : i.natAbs < 1073741824) (h2 : j.natAbs < 1073741824) (hc : 0 < c) (h3 : c.natAbs < 1073741824) : RgC i j c (r3n i j c) := by
  have e : Builtin.Range.rangeSize i j c = (r3n i j c : Int) := by
    unfold Builtin.Range.rangeSize r3n
    rw [if_pos hc]
    split
    · have := Int.ediv_nonneg (show 0 ≤ j - i - 1 by omega) (show 0 ≤ c by omega)
      omega
    · rfl
  have hle : (r3n i j c : Int) ≤ 2147483648 ∧ (i < j → (r3n i j c : Int) = (j - i - 1) / c + 1) := by
    unfold r3n
    split
    · have g1 := Int.ediv_nonneg (show 0 ≤ j - i - 1 by omega) (show 0 ≤ c by omega)
      have g2 := Int.ediv_le_self c (show 0 ≤ j - i - 1 by omega)
      omega
    · omega
  refine ⟨by omega, h3, ?_, e⟩
  unfold Builtin.Range.small
  rw [e, if_pos hc]
  simp only [Builtin.Range.rangeFitsLong, Bool.and_eq_true, Bool.or_eq_true, decide_eq_true_eq, beq_iff_eq]
  omega
theorem di_rng3 (s : Bool) (hg : Gl X "range") (hm : X.mg "range" = none) {tg : Expr} (ha : DA X W Γ [a, b, c] [fa, fb, fc] (aCons sa (aCons sb (aCons sc aNil)))) (hs : starEach [a, b, c] X.env = (false, eval a X.env) :: starEach [b, c] X.env := by kernel_rfl) (hpl : (backTo pos (starEach [b, c] X.env)).any (·.1) = false := by kernel_rfl) : DI X W Γ tg (.Call (.Name "range" p) [a, b, c] [] pos) s (DL.iRng3 sa sb sc) :=
  pi_imp (pi_range3 hg hm ha hs hpl) fun σ H Q h => by
    obtain ⟨ρ, F, GO, E, h⟩ := h
    have h : FinG X.mg W σ H ((aCons sa (aCons sb (aCons sc aNil)) ρ).bind fun xs => match xs with | [x, y, z] => (toI x).bind fun i => (toI y).bind fun j => (toI z).bind fun k => dRng3 i j k | _ => .bad) fun xs => ∀ J H1, Same H H1 → ItD X.K (sto s (Ads GO ++ F)) (Ads GO ++ F) H1 J xs → xs.length ≤ big → Q J H1 := by
      have h0 : FinG X.mg W σ H ((sa ρ).bind fun x => (sb ρ).bind fun y => (sc ρ).bind fun z => (toI x).bind fun i => (toI y).bind fun j => (toI z).bind fun k => dRng3 i j k) fun xs => ∀ J H1, Same H H1 → ItD X.K (sto s (Ads GO ++ F)) (Ads GO ++ F) H1 J xs → xs.length ≤ big → Q J H1 := h
      unfold aCons
      cases q : sa ρ with
      | ok x =>
        rw [q] at h0
        have h0 : FinG X.mg W σ H ((sb ρ).bind fun y => (sc ρ).bind fun z => (toI x).bind fun i => (toI y).bind fun j => (toI z).bind fun k => dRng3 i j k) _ := h0
        cases q2 : sb ρ with
        | ok y =>
          rw [q2] at h0
          have h0 : FinG X.mg W σ H ((sc ρ).bind fun z => (toI x).bind fun i => (toI y).bind fun j => (toI z).bind fun k => dRng3 i j k) _ := h0
          cases q3 : sc ρ with
          | ok z => rw [q3] at h0; simpa [q2, q3] using h0
          | exc c => rw [q3] at h0; simpa [q2, q3] using h0
          | bad => rw [q3] at h0; simpa [q2, q3] using h0
        | exc c => rw [q2] at h0; simpa [q2] using h0
        | bad => rw [q2] at h0; simpa [q2] using h0
      | exc c => rw [q] at h0; exact h0
      | bad => rw [q] at h0; exact h0
    refine at_a E h fun ds vs H1 s1 r1 E1 h1 => ?_
    cases r1 with
    | cons q1 t1 =>
      cases t1 with
      | cons q2 t2 =>
        cases t2 with
        | cons q3 t3 =>
          cases t3
          rename_i v1 d1 v2 d2 v3 d3
          have h1 : FinG X.mg W σ H1 ((toI d1).bind fun i => (toI d2).bind fun j => (toI d3).bind fun k => dRng3 i j k) fun xs => ∀ J H1, Same H H1 → ItD X.K (sto s (Ads GO ++ F)) (Ads GO ++ F) H1 J xs → xs.length ≤ big → Q J H1 := h1
          cases d1 with
          | int i =>
            cases d2 with
            | int j =>
              cases d3 with
              | int k =>
                cases q1.int
                cases q2.int
                cases q3.int
                have h2 : FinG X.mg W σ H1 (dRng3 i j k) fun xs => ∀ J H1, Same H H1 → ItD X.K (sto s (Ads GO ++ F)) (Ads GO ++ F) H1 J xs → xs.length ≤ big → Q J H1 := h1
                unfold dRng3 at h2
                split at h2
                · rename_i cc
                  obtain ⟨c1, c2, c3, c4, c5⟩ := cc
                  exact ⟨i, j, k, r3n i j k, rfl, rgC3 c1 c2 c3 c4, h2 (Itc i k (r3n i j k)) H1 s1 itD_rng3 (by rw [rng3_len]; exact c5)⟩
                · split at h2
                  · rename_i cc
                    obtain ⟨c0, c1, c2, c5⟩ := cc
                    subst c0
                    exact ⟨i, j, -1, (i - j).toNat, rfl, RgC.neg (by omega) (by omega) (by omega) (by omega), h2 (Itc i (-1) (i - j).toNat) H1 s1 itD_rng3 (by rw [rng3_len]; exact c5)⟩
                  · exact h2.elim
              | _ => exact h1.elim
            | _ => exact h1.elim
          | _ => exact h1.elim
/-! ### two for's -/
theorem lcL2_cons {f : Da → R (List Da)} {x : Da} {xs ys : List Da} (h : lcL2 f (x :: xs) = .ok ys) : ∃ y zs, f x = .ok y ∧ lcL2 f xs = .ok zs ∧ ys = y ++ zs := by
  unfold lcL2 at h
  cases e : f x with
  | ok y =>
    rw [e] at h
    cases q : lcL2 f xs with
    | ok zs =>
      rw [q] at h
      exact ⟨y, zs, rfl, rfl, (R.ok.inj h).symm⟩
    | exc _ => rw [q] at h; cases h
    | bad => rw [q] at h; cases h
  | exc _ => rw [e] at h; cases h
  | bad => rw [e] at h; cases h
theorem lcL2_nx {f : Da → R (List Da)} : ∀ (xs : List Da) (c : Str), lcL2 f xs ≠ .exc c
  | [], c, h => nomatch h
  | x :: xs, c, h => by
    unfold lcL2 at h
    cases e : f x with
    | ok y =>
      rw [e] at h
      cases q : lcL2 f xs with
      | ok zs => rw [q] at h; cases h
      | exc _ => rw [q] at h; cases h
      | bad => rw [q] at h; cases h
    | exc _ => rw [e] at h; cases h
    | bad => rw [e] at h; cases h
theorem R.bind_ok_inv {α β : Type} {r : R α} {f : α → R β} {b : β} (h : r.bind f = .ok b) : ∃ a, r = .ok a ∧ f a = .ok b := by
  cases r with
  | ok a => exact ⟨a, rfl, h⟩
  | exc c => cases h
  | bad => cases h
theorem lc2_s {own vs1 : List Nat} {si si1 : SI} {is is1 : List Nat} {g g1 : STg} {st st1 se : SE} {fl : Fl} (hown : own.all (fun i => !Γ.contains i) = true) (hvs : vs1.all (fun i => own.contains i) = true) (his : is.all (fun i => own.contains i) = true) (his1 : is1.all (fun i => vs1.contains i) = true) (hf : storable [fl] = true)
    {σ : L2.St} {H0 : Hp} {Q : VK} (h : tDE X.K X.mg W Γ .fr (eLc2 si g own st si1 g1 vs1 st1 se) σ H0 Q) :
    tLc2 (tDI X.K X.mg W Γ false si) (tDG X.K Γ is g) (tDT X.K X.mg W0 Γ st) (tDI X.K X.mg W0 Γ true si1) (tDG X.K Γ is1 g1) (tDT X.K X.mg W0 Γ st1) (tDE X.K X.mg W0 Γ fl se) own vs1 σ H0 Q := by
  obtain ⟨ρ, F, GO, E, h⟩ := h
  have hown' : ∀ i, i ∈ own → i ∉ Γ := fun i hi hz => by
    have := List.all_eq_true.mp hown i hi
    rw [List.contains_iff_mem.mpr hz] at this
    cases this
  have hvs' : ∀ i, i ∈ vs1 → i ∈ own := fun i hi => List.contains_iff_mem.mp (List.all_eq_true.mp hvs i hi)
  have his' : ∀ i, i ∈ is → i ∈ own := fun i hi => List.contains_iff_mem.mp (List.all_eq_true.mp his i hi)
  have his1' : ∀ i, i ∈ is1 → i ∈ vs1 := fun i hi => List.contains_iff_mem.mp (List.all_eq_true.mp his1 i hi)
  unfold eLc2 at h
  refine ⟨ρ, F, GO, E, h.bind.imp fun xs _ h J H1 s1 itd hlen D hD => ?_⟩
  obtain ⟨ys, hys, h⟩ := FinG.bind_ok (lcL2_nx xs) h
  have h : FinG X.mg W σ H0 (if ys.length ≤ big then R.ok (PyData.list ys) else .bad) (PE_ X.K H0 (Ads GO ++ F) .fr Q) := h
  split at h
  case isFalse => exact h.elim
  rename_i hbig
  have hq : PE_ X.K H0 (Ads GO ++ F) .fr Q (.list ys) := h
  have E1 := E.mono s1
  have hnD : D ∉ Ads GO ++ F := E1.newp hD
  have sub : ∀ b, b ∈ Ads GO ++ F → b ∈ Ads GO ++ (D :: F) := fun b hb => by
    rcases List.mem_append.mp hb with hb | hb
    · exact List.mem_append_left _ hb
    · exact List.mem_append_right _ (List.mem_cons_of_mem _ hb)
  refine ⟨fun i m H => i ≤ xs.length ∧ m = xs.length - i ∧ Same H1 H ∧ ∃ acc ds zs, H D = some (.lst acc) ∧ RpAll X.K H (Ads GO ++ (D :: F)) acc ds ∧ lcL2 (lcF2 g own st si1 g1 vs1 st1 se ρ) (xs.drop i) = .ok zs ∧ ds ++ zs = ys,
    ⟨xs.length, Nat.zero_le _, rfl, Same.upd_new hD (.refl H1), [], [], ys, upd_same, .nil, hys, rfl⟩, ?_⟩
  rintro i m H ⟨hi, rfl, sH, acc, ds, zs, hacc, racc, hzs, hcat⟩
  have gr : ∀ {H : Hp}, Same H1 H → Grow [] (Ads GO ++ F) (Ads GO ++ (D :: F)) H1 H := fun sH => ⟨.of_same sH, fun _ z => (List.not_mem_nil z).elim, fun b hb => by
    rcases List.mem_append.mp hb with hb | hb
    · exact .inl (List.mem_append_left _ hb)
    · rcases List.mem_cons.mp hb with e | hb
      · subst e; exact .inr hD
      · exact .inl (List.mem_append_right _ hb)⟩
  obtain ⟨it1, it2⟩ := itd i H _ (gr sH)
  by_cases hlt : i < xs.length
  · refine .inr ?_
    have hx : xs[i]? = some xs[i] := List.getElem?_eq_getElem hlt
    obtain ⟨go, yld⟩ := it1 _ hx
    have hdrop : xs.drop i = xs[i] :: xs.drop (i + 1) := List.drop_eq_getElem_cons hlt
    rw [hdrop] at hzs
    obtain ⟨y, ws, e1, e2, e3⟩ := lcL2_cons hzs
    subst e3
    refine ⟨go, fun H' => Same H1 H' ∧ ∃ acc ds zs, H' D = some (.lst acc) ∧ RpAll X.K H' (Ads GO ++ (D :: F)) acc ds ∧ lcL2 (lcF2 g own st si1 g1 vs1 st1 se ρ) (xs.drop (i + 1)) = .ok zs ∧ ds ++ zs = ys, fun H' hw => ⟨xs.length - (i + 1), by omega, hlt, rfl, hw⟩, fun v H' hv => ?_⟩
    obtain ⟨s2, rv⟩ := yld v H' hv
    have sH' : Same H1 H' := sH.trans s2
    have hD' : H' D = some (.lst acc) := s2 _ _ hacc
    have EB : EnvR X.K Γ (D :: F) GO (wipe σ own) H' (kill ρ own) := (E1.under hD sH' (by rw [hD']; exact fun z => nomatch z)).wipeAll hown'
    unfold lcF2 at e1
    obtain ⟨ρ1, q1, e1⟩ := R.bind_ok_inv e1
    refine ⟨kill ρ own, D :: F, GO, xs[i], EB, rv, ?_⟩
    rw [q1]
    intro σ2 E2 w2
    refine ⟨(w2 own his').trans (wipe_ext (wipe_length _ _) fun j hj => ?_), ?_⟩
    · by_cases hl : j < σ.length
      · rw [wipe_get σ own j hl, if_neg hj]
      · rw [List.getElem?_eq_none (by rw [wipe_length]; omega), List.getElem?_eq_none (by omega)]
    obtain ⟨b, q2, e1⟩ := R.bind_ok_inv e1
    refine ⟨ρ1, D :: F, GO, E2, ok_of_fin ⟨b, q2, fun H3 s3 => ?_⟩⟩
    cases q3 : tru b with
    | false =>
      rw [if_neg Bool.false_ne_true]
      rw [q3, if_neg Bool.false_ne_true] at e1
      have ey : y = [] := (R.ok.inj e1).symm
      subst ey
      exact ⟨sH'.trans s3, acc, ds, ws, s3 _ _ hD', racc.mono (.same (s2.trans s3)), e2, hcat⟩
    | true =>
      rw [if_pos rfl]
      rw [q3, if_pos rfl] at e1
      obtain ⟨xs1, q4, e4⟩ := R.bind_ok_inv e1
      refine ⟨ρ1, D :: F, GO, E2.mono s3, ok_of_fin ⟨xs1, q4, fun J1 H4 s4 itd1 hlen1 => ?_⟩⟩
      have E4 : EnvR X.K Γ (D :: F) GO σ2 H4 ρ1 := (E2.mono s3).mono s4
      have hD4 : H4 D = some (.lst acc) := s4 _ _ (s3 _ _ hD')
      have sH4 : Same H1 H4 := (sH'.trans s3).trans s4
      refine ⟨fun j k H => j ≤ xs1.length ∧ k = xs1.length - j ∧ Keep [D] H4 H ∧ Same H1 H ∧ ∃ acc ds zs, H D = some (.lst acc) ∧ RpAll X.K H (Ads GO ++ (D :: F)) acc ds ∧ lcL (lcF g1 vs1 st1 se ρ1) (xs1.drop j) = .ok zs ∧ ds ++ (zs ++ ws) = ys,
        ⟨xs1.length, Nat.zero_le _, rfl, .refl H4, sH4, acc, ds, y, hD4, racc.mono (.same ((s2.trans s3).trans s4)), e4, by rw [← hcat]⟩, ?_⟩
      rintro j k H5 ⟨hj, rfl, k5, sH5, acc5, ds5, zs5, hacc5, racc5, hzs5, hcat5⟩
      have gD : ∀ {Ha Hb : Hp}, Keep [D] Ha Hb → Grow [D] (Ads GO ++ (D :: F)) (Ads GO ++ (D :: F)) Ha Hb := fun k => ⟨k, fun b hb => by
        rw [List.mem_singleton] at hb
        subst hb
        exact List.mem_append_right _ List.mem_cons_self, fun b hb => .inl hb⟩
      have gO : Grow (Ads GO ++ (D :: F)) (Ads GO ++ (D :: F)) (Ads GO ++ (D :: F)) H4 H5 := ⟨keep_less (fun b hb => by
        rw [List.mem_singleton] at hb
        subst hb
        exact List.mem_append_right _ List.mem_cons_self) k5, fun b hb => hb, fun b hb => .inl hb⟩
      obtain ⟨jt1, jt2⟩ := itd1 j H5 _ gO
      -- the slots at this place: what they own is not D
      have E5 : EnvR X.K Γ (D :: F) GO σ2 H5 ρ1 := by
        have ow : ∀ p, p ∈ Ads GO → p ∉ [D] := fun p hp hz => by
          rw [List.mem_singleton] at hz
          subst hz
          exact hnD (List.mem_append_left _ hp)
        refine ⟨E4.len, E4.dom, E4.inj, E4.dis, fun b hb z => ?_, fun i2 p2 hp2 => ?_, fun i2 d2 hi2 hd2 => ?_⟩
        · rcases List.mem_cons.mp hb with e | hb2
          · subst e; rw [hacc5] at z; cases z
          · cases q9 : H4 b with
            | none => exact E4.frn b hb q9
            | some o =>
              by_cases e : b = D
              · subst e; rw [hacc5] at z; cases z
              · rw [k5 b o q9 fun hz => absurd (by simpa using hz) e] at z; cases z
        · obtain ⟨h1, d', h2, h3⟩ := E4.own i2 p2 hp2
          exact ⟨h1, d', h2, h3.mono (gD k5) (ow p2 (List.mem_map.mpr ⟨_, hp2, rfl⟩))⟩
        · obtain ⟨v2, h1, h2⟩ := E4.sh i2 d2 hi2 hd2
          exact ⟨v2, h1, h2.mono (gD k5)⟩
      by_cases hlt1 : j < xs1.length
      · refine .inr ?_
        obtain ⟨go1, yld1⟩ := jt1 _ (List.getElem?_eq_getElem hlt1)
        rw [List.drop_eq_getElem_cons hlt1] at hzs5
        obtain ⟨y6, ws6, f1, f2, f3⟩ := lcL_cons hzs5
        refine ⟨go1, fun H' => Keep [D] H4 H' ∧ Same H1 H' ∧ ∃ acc ds zs, H' D = some (.lst acc) ∧ RpAll X.K H' (Ads GO ++ (D :: F)) acc ds ∧ lcL (lcF g1 vs1 st1 se ρ1) (xs1.drop (j + 1)) = .ok zs ∧ ds ++ (zs ++ ws) = ys, fun H' hw => ⟨xs1.length - (j + 1), by omega, hlt1, rfl, hw⟩, fun v6 H6 hv6 => ?_⟩
        obtain ⟨s6, rv6⟩ := yld1 v6 H6 hv6
        have hD6 : H6 D = some (.lst acc5) := s6 _ _ hacc5
        have k6 : Keep [D] H4 H6 := fun b o e hb => s6 _ _ (k5 b o e hb)
        have E6 : EnvR X.K Γ (D :: F) GO (wipe σ2 vs1) H6 (kill ρ1 vs1) := (E5.mono s6).wipeAll fun i hi => hown' i (hvs' i hi)
        unfold lcF at f1
        obtain ⟨ρ2, q6, f1⟩ := R.bind_ok_inv f1
        refine ⟨kill ρ1 vs1, D :: F, GO, xs1[j], E6, rv6, ?_⟩
        rw [q6]
        intro σ3 E7 w3
        refine ⟨(w3 vs1 his1').trans (wipe_ext (wipe_length _ _) fun j2 hj2 => ?_), ?_⟩
        · by_cases hl : j2 < σ2.length
          · rw [wipe_get σ2 vs1 j2 hl, if_neg hj2]
          · rw [List.getElem?_eq_none (by rw [wipe_length]; omega), List.getElem?_eq_none (by omega)]
        obtain ⟨b7, q7, f1⟩ := R.bind_ok_inv f1
        refine ⟨ρ2, D :: F, GO, E7, ok_of_fin ⟨b7, q7, fun H7 s7 => ?_⟩⟩
        cases q8 : tru b7 with
        | false =>
          rw [if_neg Bool.false_ne_true]
          rw [q8, if_neg Bool.false_ne_true] at f1
          have ey : y6 = none := (R.ok.inj f1).symm
          subst ey
          subst f3
          exact ⟨fun b o e hb => s7 _ _ (k6 b o e hb), (sH5.trans s6).trans s7, acc5, ds5, zs5, s7 _ _ hD6, racc5.mono (.same (s6.trans s7)), f2, hcat5⟩
        | true =>
          rw [if_pos rfl]
          rw [q8, if_pos rfl] at f1
          obtain ⟨d8, q9, f1⟩ := R.bind_ok_inv f1
          have ey : y6 = some d8 := (R.ok.inj f1).symm
          subst ey
          refine ⟨ρ2, D :: F, GO, E7.mono s7, ok_of_fin ⟨d8, q9, fun v8 H8 s8 r8 => ?_⟩⟩
          have hD8 : H8 D = some (.lst acc5) := s8 _ _ (s7 _ _ hD6)
          have r8' := r8.stored hf
          have kk : Keep [D] H8 (upd H8 D (.lst (acc5 ++ [v8]))) := fun b o e hb => by
            by_cases q : b = D
            · subst q
              rw [hD8] at e
              cases e
              cases hb List.mem_cons_self
            · rw [upd_ne q]; exact e
          have racc8 : RpAll X.K H8 (Ads GO ++ (D :: F)) acc5 ds5 := racc5.mono (.same ((s6.trans s7).trans s8))
          have lenB : ds5.length < big := by
            have e9 := congrArg List.length hcat5
            rw [f3] at e9
            simp only [List.length_append, List.length_cons] at e9
            omega
          refine ⟨acc5, hD8, by rw [racc5.length]; exact Nat.lt_of_lt_of_le lenB (big_le (Nat.le_refl _)), fun b o e hb => kk b o (s8 _ _ (s7 _ _ (k6 b o e hb))) hb, Same.upd_new hD (((sH5.trans s6).trans s7).trans s8), acc5 ++ [v8], ds5 ++ [d8], ws6, upd_same, (racc8.append (.cons r8' .nil)).mono (gD kk), f2, ?_⟩
          rw [← hcat5, f3, List.append_assoc]
          rfl
      · have hj' : j = xs1.length := by omega
        refine .inl ⟨jt2 hj', ?_⟩
        have ez : zs5 = [] := by
          rw [List.drop_of_length_le (by omega)] at hzs5
          cases hzs5; rfl
        subst ez
        exact ⟨sH5, acc5, ds5, ws, hacc5, racc5, e2, by rw [← hcat5]; rfl⟩
  · have hi' : i = xs.length := by omega
    refine .inl ⟨it2 (by omega), ?_⟩
    have ez : zs = [] := by
      rw [List.drop_of_length_le (by omega)] at hzs
      cases hzs; rfl
    subst ez
    rw [List.append_nil] at hcat
    subst hcat
    have g5 : Grow [] (Ads GO ++ (D :: F)) (Ads GO ++ F) H H := .sub_ (.refl H) sub
    have g6 : Grow [] (Ads GO ++ (D :: F)) (D :: (Ads GO ++ F)) H H := .sub_ (.refl H) fun b hb => by
      rcases List.mem_cons.mp hb with e | hb
      · subst e; exact List.mem_append_right _ List.mem_cons_self
      · exact sub b hb
    refine hq _ _ (s1.trans sH) ⟨.lst (.inl ⟨.inl hacc, hnD⟩) hbig (racc.mono g5), fun ds' e => ?_⟩
    cases e
    exact ⟨D, rfl, s1.free hD, acc, hacc, racc.mono g6, hbig⟩
theorem de_lc2 {elt tg iter tg1 iter1 : Expr} {ifs ifs1 : List Expr} {scope : Scope} {own : List (Str × Nat)} {vs1 : List Nat} {si si1 : SI} {is is1 : List Nat} {g g1 : STg} {st st1 se : SE} {fl : Fl}
    (hc : X.calm = true) (hN : X.N.Nodup) (hi : DI X W Γ tg iter false si) (ok : BlkOk X.N X.env.scope scope own)
    (hown : (own.map (·.2)).all (fun i => !Γ.contains i) = true) (hvs : vs1.all (fun i => (own.map (·.2)).contains i) = true) (his : is.all (fun i => (own.map (·.2)).contains i) = true) (his1 : is1.all (fun i => vs1.contains i) = true)
    (hg : ∀ (s : Shared) (H : Hp) (C : Addr) (cl : List (Str × Addr)) (fp : List Addr), DG (X.blk s H scope (compEnvC scope cl C X.env) fp) Γ tg is g)
    (ht : ∀ (s : Shared) (H : Hp) (C : Addr) (cl : List (Str × Addr)) (fp : List Addr), DTs (X.blk s H scope (compEnvC scope cl C X.env) fp) W0 Γ ifs st)
    (hi1 : ∀ (s : Shared) (H : Hp) (C : Addr) (cl : List (Str × Addr)) (fp : List Addr), DI (X.blk s H scope (compEnvC scope cl C X.env) fp) W0 Γ tg1 iter1 true si1)
    (hg1 : ∀ (s : Shared) (H : Hp) (C : Addr) (cl : List (Str × Addr)) (fp : List Addr), DG (X.blk s H scope (compEnvC scope cl C X.env) fp) Γ tg1 is1 g1)
    (ht1 : ∀ (s : Shared) (H : Hp) (C : Addr) (cl : List (Str × Addr)) (fp : List Addr), DTs (X.blk s H scope (compEnvC scope cl C X.env) fp) W0 Γ ifs1 st1)
    (he : ∀ (s : Shared) (H : Hp) (C : Addr) (cl : List (Str × Addr)) (fp : List Addr), DE (X.blk s H scope (compEnvC scope cl C X.env) fp) W0 Γ elt fl se) (hf : storable [fl] = true := by kernel_rfl)
    (hs : ∀ x, foldedSetIterable iter X.env x = pure x := by intro _; rfl) (hs1 : ∀ env x, foldedSetIterable iter1 env x = pure x := by intro _ _; rfl) :
    DE X W Γ (.ListComp elt [⟨tg, iter, ifs, 0⟩, ⟨tg1, iter1, ifs1, 0⟩] scope pos) .fr (eLc2 si g (own.map (·.2)) st si1 g1 vs1 st1 se) :=
  pe_imp (pe_lc2 (vs1 := vs1) (wi := tDI X.K X.mg W Γ false si) (g := tDG X.K Γ is g) (tt := tDT X.K X.mg W0 Γ st) (wi1 := tDI X.K X.mg W0 Γ true si1) (g1 := tDG X.K Γ is1 g1) (tt1 := tDT X.K X.mg W0 Γ st1) (te := tDE X.K X.mg W0 Γ fl se) hc hN hi ok (fun i hi => List.contains_iff_mem.mp (List.all_eq_true.mp hvs i hi)) (fun s H C cl fp => (hg s H C cl fp).1) ht hi1 (fun s H C cl fp => (hg1 s H C cl fp).1) ht1 he hs hs1) fun σ H0 Q h => lc2_s hown hvs his his1 hf h
section
variable {elt tg iter tg1 iter1 : Expr} {ifs ifs1 : List Expr} {scope : Scope} {own : List (Str × Nat)} {vs1 : List Nat} {si si1 : SI} {is is1 : List Nat} {g g1 : STg} {st st1 se : SE} {fl : Fl} {i : Nat} {y : Str} {py spos : Pos}
theorem ds_setLc2 (hc : X.calm = true) (hN : X.N.Nodup) (hy : X.N[i]? = some y) (hyl : X.env.scope.names.lookup y = some .local) (hΓ : Γ.contains i = false)
    (hsw : swapsWith (.ListComp elt [⟨tg, iter, ifs, 0⟩, ⟨tg1, iter1, ifs1, 0⟩] scope pos) (some (.Name y py)) spos.line X.env = pure true) (hi : DI X W Γ tg iter false si) (ok : BlkOk X.N X.env.scope scope own)
    (hown : (own.map (·.2)).all (fun i => !Γ.contains i) = true) (hvs : vs1.all (fun i => (own.map (·.2)).contains i) = true) (his : is.all (fun i => (own.map (·.2)).contains i) = true) (his1 : is1.all (fun i => vs1.contains i) = true)
    (hg : ∀ (s : Shared) (H : Hp) (C : Addr) (cl : List (Str × Addr)) (fp : List Addr), DG (X.blk s H scope (compEnvC scope cl C X.env) fp) Γ tg is g)
    (ht : ∀ (s : Shared) (H : Hp) (C : Addr) (cl : List (Str × Addr)) (fp : List Addr), DTs (X.blk s H scope (compEnvC scope cl C X.env) fp) W0 Γ ifs st)
    (hi1 : ∀ (s : Shared) (H : Hp) (C : Addr) (cl : List (Str × Addr)) (fp : List Addr), DI (X.blk s H scope (compEnvC scope cl C X.env) fp) W0 Γ tg1 iter1 true si1)
    (hg1 : ∀ (s : Shared) (H : Hp) (C : Addr) (cl : List (Str × Addr)) (fp : List Addr), DG (X.blk s H scope (compEnvC scope cl C X.env) fp) Γ tg1 is1 g1)
    (ht1 : ∀ (s : Shared) (H : Hp) (C : Addr) (cl : List (Str × Addr)) (fp : List Addr), DTs (X.blk s H scope (compEnvC scope cl C X.env) fp) W0 Γ ifs1 st1)
    (he : ∀ (s : Shared) (H : Hp) (C : Addr) (cl : List (Str × Addr)) (fp : List Addr), DE (X.blk s H scope (compEnvC scope cl C X.env) fp) W0 Γ elt fl se) (hf : storable [fl] = true := by kernel_rfl)
    (hs : ∀ x, foldedSetIterable iter X.env x = pure x := by intro _; rfl) (hs1 : ∀ env x, foldedSetIterable iter1 env x = pure x := by intro _ _; rfl) :
    DS X W Γ (.Assign [.Name y py] (.ListComp elt [⟨tg, iter, ifs, 0⟩, ⟨tg1, iter1, ifs1, 0⟩] scope pos) spos) (i :: Γ) (sOwn i (eLc2 si g (own.map (·.2)) st si1 g1 vs1 st1 se)) :=
  ps_imp (ps_setLc2 (vs1 := vs1) (wi := tDI X.K X.mg W Γ false si) (g := tDG X.K Γ is g) (tt := tDT X.K X.mg W0 Γ st) (wi1 := tDI X.K X.mg W0 Γ true si1) (g1 := tDG X.K Γ is1 g1) (tt1 := tDT X.K X.mg W0 Γ st1) (te := tDE X.K X.mg W0 Γ fl se) hc hN hy hyl hsw hi ok (fun i hi => List.contains_iff_mem.mp (List.all_eq_true.mp hvs i hi)) (fun s H C cl fp => (hg s H C cl fp).1) ht hi1 (fun s H C cl fp => (hg1 s H C cl fp).1) ht1 he hs hs1) fun D σ H0 h => lc2_s hown hvs his his1 hf (own_s hΓ h)
theorem ds_setLcS2 (hc : X.calm = true) (hN : X.N.Nodup) (hy : X.N[i]? = some y) (hyl : X.env.scope.names.lookup y = some .local) (hΓ : Γ.contains i = false)
    (hsw : swapsWith (.ListComp elt [⟨tg, iter, ifs, 0⟩, ⟨tg1, iter1, ifs1, 0⟩] scope pos) (some (.Name y py)) spos.line X.env = pure true) (hi : DI X W Γ tg iter false si) (ok : BlkOk X.N X.env.scope scope own)
    (hown : (own.map (·.2)).all (fun i => !Γ.contains i) = true) (hvs : vs1.all (fun i => (own.map (·.2)).contains i) = true) (his : is.all (fun i => (own.map (·.2)).contains i) = true) (his1 : is1.all (fun i => vs1.contains i) = true)
    (hg : ∀ (s : Shared) (H : Hp) (C : Addr) (cl : List (Str × Addr)) (fp : List Addr), DG (X.blk s H scope (compEnvC scope cl C X.env) fp) Γ tg is g)
    (ht : ∀ (s : Shared) (H : Hp) (C : Addr) (cl : List (Str × Addr)) (fp : List Addr), DTs (X.blk s H scope (compEnvC scope cl C X.env) fp) W0 Γ ifs st)
    (hi1 : ∀ (s : Shared) (H : Hp) (C : Addr) (cl : List (Str × Addr)) (fp : List Addr), DI (X.blk s H scope (compEnvC scope cl C X.env) fp) W0 Γ tg1 iter1 true si1)
    (hg1 : ∀ (s : Shared) (H : Hp) (C : Addr) (cl : List (Str × Addr)) (fp : List Addr), DG (X.blk s H scope (compEnvC scope cl C X.env) fp) Γ tg1 is1 g1)
    (ht1 : ∀ (s : Shared) (H : Hp) (C : Addr) (cl : List (Str × Addr)) (fp : List Addr), DTs (X.blk s H scope (compEnvC scope cl C X.env) fp) W0 Γ ifs1 st1)
    (he : ∀ (s : Shared) (H : Hp) (C : Addr) (cl : List (Str × Addr)) (fp : List Addr), DE (X.blk s H scope (compEnvC scope cl C X.env) fp) W0 Γ elt fl se) (hf : storable [fl] = true := by kernel_rfl)
    (hs : ∀ x, foldedSetIterable iter X.env x = pure x := by intro _; rfl) (hs1 : ∀ env x, foldedSetIterable iter1 env x = pure x := by intro _ _; rfl) :
    DS X W Γ (.Assign [.Name y py] (.ListComp elt [⟨tg, iter, ifs, 0⟩, ⟨tg1, iter1, ifs1, 0⟩] scope pos) spos) Γ (sAsg (gVar i) (eLc2 si g (own.map (·.2)) st si1 g1 vs1 st1 se)) :=
  ps_imp (ps_setLc2 (vs1 := vs1) (wi := tDI X.K X.mg W Γ false si) (g := tDG X.K Γ is g) (tt := tDT X.K X.mg W0 Γ st) (wi1 := tDI X.K X.mg W0 Γ true si1) (g1 := tDG X.K Γ is1 g1) (tt1 := tDT X.K X.mg W0 Γ st1) (te := tDE X.K X.mg W0 Γ fl se) hc hN hy hyl hsw hi ok (fun i hi => List.contains_iff_mem.mp (List.all_eq_true.mp hvs i hi)) (fun s H C cl fp => (hg s H C cl fp).1) ht hi1 (fun s H C cl fp => (hg1 s H C cl fp).1) ht1 he hs hs1) fun D σ H0 h => lc2_s hown hvs his his1 hf (name_s (fl := .fr) hΓ rfl h)
end
end
end DL
set_option Elab.async false
set_option linter.all false
set_option maxRecDepth 100000
namespace DL
open PySem PySem.Spec PyProof.Rows L2

/-! ### sum, sorted of a tuple -/
section
variable {prog : Program} {w : World} {A : Around} {E : Value → Shared → Prop} {s : Shared}
theorem coll_tup {l : Addr} {vs : List Value} {R' : List Value → Shared → Prop} (x : s.heap.IsTuple l vs.toArray) (hz : vs.length ≤ sizeLine)
    (q : R' vs { s with heap := (s.heap.push (seqObj "list" #[] 0)).update s.heap.objs.size (Obj.mapSeq (· ++ vs.toArray)) }) : wpAny (model prog w) A (collect (.ref l)) R' E s := by
  obtain ⟨o1, g1, c1, n1, d1⟩ := id x
  unfold collect
  refine wpAny_bind (wpAny_runValue (codeAny_builtin F.entry_proto_collect ?_))
  show wpAny _ _ (newList [] >>= fun y => again (.builtin "list.__iadd__" ⟨[y, .ref l], []⟩)) _ _ s
  refine wpAny_bind (wpAny_newList ?_)
  refine wpAny_pure ⟨Code.quiet_builtin _ (by decide +kernel), codeAny_builtin F.entry_list_iadd ?_⟩
  show wpAny _ _ (Builtin.List.listExtendWith (.ref s.heap.objs.size) (.ref l) (.ref s.heap.objs.size)) _ _ _
  have g2 : (s.heap.push (seqObj "list" #[] 0)).get? l = some o1 := Heap.get?_push_of_some _ g1
  unfold Builtin.List.listExtendWith
  refine wpAny_bind (wpAny_typeOf (T := "tuple") ⟨o1, g2, c1⟩ ?_)
  rw [if_pos (by have e1 : (Value.type "tuple" == Value.type "tuple") = true := by rfl
                 rw [e1]; simp)]
  refine wpAny_bind (listItems_at g2 d1 (wpAny_bind (listItems_at (xs := #[]) (n := 0) (Heap.get?_push_size _ rfl) rfl ?_)))
  rw [if_neg (by simp)]
  refine wpAny_bind (listUpdate_at (xs := #[]) (n := 0) (Heap.get?_push_size _ rfl) rfl ?_ (Nat.zero_le _) (by
    show (#[] ++ vs.toArray).size ≤ sizeLine + 1
    rw [Array.size_append, List.size_toArray]
    show 0 + vs.length ≤ sizeLine + 1
    omega))
  refine wpAny_pure ?_
  refine wpAny_bind (wpAny_load (get?_update_seq (Heap.get?_push_size _ rfl) _) ?_)
  have e2 : ((#[] : Array Value) ++ vs.toArray).toList = vs := by simp
  show wpAny _ _ (pure ((#[] : Array Value) ++ vs.toArray).toList) _ _ _
  rw [e2]
  exact wpAny_pure q
end
section
variable {X : Cx} {W : WX} {Γ Γ' Γ1 : List Nat} {e a b c d k : Expr} {es : List Expr} {fls : List Fl} {fl fa fb fc fk : Fl} {se sa sb sc sk : SE} {pos p p2 p3 : Pos}
theorem cr_or {f : Value} {r1 r2 : List V → Hp → VK → Prop} (h1 : CallR X f r1) (h2 : CallR X f r2) : CallR X f (fun xs H Q => r1 xs H Q ∨ r2 xs H Q) := by
  intro pins s σ H vs us Q I r h
  rcases h with h | h
  · exact h1 pins s σ H vs us Q I r h
  · exact h2 pins s σ H vs us Q I r h
def rSumT (K : PySem.W.Frag) : List V → Hp → VK → Prop := fun vs H Q => ∃ (a : Addr) (ns : List Int), vs = [V.ref a] ∧ SqT K H a (ns.map V.int) ∧ Q (.int ns.sum) H
theorem cr_sumT (hc : X.calm = true) : CallR X (.builtin "sum") (rSumT X.K) := by
  intro pins s σ H vs us Q I r h
  obtain ⟨a, ns, rfl, hs, q⟩ := h
  obtain ⟨its, rv, t, _⟩ := I.tuple hs
  rw [Vals.ref1 r]
  obtain ⟨xs, ex⟩ := rv.ints.allInts.items
  have hn : numsOf (intItems xs).toList = ns := by rw [← ex]; exact rv.ints.numsOf
  rw [nums_intItems] at hn
  have t2 : s.heap.IsTuple a (intItems xs) := by rw [← ex]; exact t
  refine PySem.W.ktm_sumG (I.ok.hd hc) t2 fun h' tk t' hk => ?_
  rw [preSum_eq, List.take_of_length_le (by simp), hn]
  exact ⟨.int _, H, I.kept hk, ⟨_, rfl⟩, q⟩
theorem cs_sumA : CallS X (fun xs H Q => rSum X.K xs H Q ∨ rSumT X.K xs H Q) .fr dSumL := by
  intro mg W σ O H0 H fls xs as Q nw hx h
  unfold dSumL at h
  split at h
  · cases hx with
    | cons h1 t =>
      cases t
      obtain ⟨p, vs, rfl, s1, r1, n1⟩ := h1.list
      obtain ⟨is, e, h⟩ := FinG.bind_ok (intsD_nx _) h
      rw [r1.ints e] at s1
      exact .inl ⟨p, is, rfl, s1, PE_.flat h (.int _) rfl⟩
  · cases hx with
    | cons h1 t =>
      cases t
      obtain ⟨p, vs, rfl, s1, r1, n1⟩ := h1.tuple
      obtain ⟨is, e, h⟩ := FinG.bind_ok (intsD_nx _) h
      rw [r1.ints e] at s1
      exact .inr ⟨p, is, rfl, s1, PE_.flat h (.int _) rfl⟩
  · exact h.elim
theorem de_sum (hc : X.calm = true) (m : X.mg "sum" = none) (he : DE X W Γ e fl se) (hg : Gl X "sum" := by show _ = _; kernel_rfl) (h1 : starEach [e] X.env = (false, eval e X.env) :: starEach [] X.env := by kernel_rfl) (h2 : (backTo pos (starEach [] X.env)).any (·.1) = false := by kernel_rfl) : DE X W Γ (.Call (.Name "sum" p) [e] [] pos) .fr (eA dSumL (aCons se aNil)) :=
  de_callB (cr_or (cr_sum hc) (cr_sumT hc)) cs_sumA hg m boot_sum (da_cons he da_nil h1) (by decide) (by decide) h1 h2
/-- sorted(t), t a tuple of whole numbers -/
def rSortedIT (K : PySem.W.Frag) : List V → Hp → VK → Prop := fun vs H Q => ∃ (a : Addr) (ns : List Int), vs = [V.ref a] ∧ SqT K H a (ns.map V.int) ∧
  ∀ (ns' : List Int) (p : Addr), ns'.Perm ns → ns'.Pairwise (· ≤ ·) → H p = none → Q (.ref p) (upd H p (.lst (ns'.map V.int)))
theorem cr_sortedIT : CallR X (.builtin "sorted") (rSortedIT X.K) := by
  intro pins s σ H vs us Q I r h
  obtain ⟨a, ns, rfl, hs, q⟩ := h
  obtain ⟨its, rv, tp, hz⟩ := I.tuple hs
  rw [Vals.ref1 r]
  have hi := rv.ints
  have hz' : its.length ≤ sizeLine := by rw [← rv.length]; exact hz
  refine Calls.call_function_entry kind_sorted plain_sorted entry_sorted (args_sorted1 _) ?_
  unfold Builtin.«sorted»
  refine wpAny_bind (m := checkCount "sorted" 1 1 _) (wpAny_pure (wpAny_bind (coll_tup tp hz' (wpAny_bind (wpAny_newList ?_ hz')))))
  have z1 : ((s.heap.push (seqObj "list" #[] 0)).update s.heap.objs.size (Obj.mapSeq (· ++ its.toArray))).objs.size = s.heap.objs.size + 1 := by
    rw [Heap.size_update, size_push']
  have z2 : (((s.heap.push (seqObj "list" #[] 0)).update s.heap.objs.size (Obj.mapSeq (· ++ its.toArray))).push (seqObj "list" its.toArray 0)).get? (s.heap.objs.size + 1) = some (seqObj "list" its.toArray 0) := by
    rw [← z1]; exact Heap.get?_push_size _ rfl
  show wpAny _ _ _ _ _ { s with heap := ((s.heap.push (seqObj "list" #[] 0)).update s.heap.objs.size (Obj.mapSeq (· ++ its.toArray))).push (seqObj "list" its.toArray 0) }
  rw [z1]
  refine wpAny_bind (wpAny_holding (wpAny_call_entry slot_list_sort ⟨_, z2, rfl⟩ entry_list_sort
    (SrtO.list_sort_ord SrtO.swo_int z2 hz' (fun h2 => SrtO.ints_sortable hi h2) fun out h1 h2 => ⟨_, rfl, wpAny_pure ⟨_, rfl, ?_⟩⟩) (args_list_sort _)))
  obtain ⟨k1, k2, k3⟩ := SrtO.ints_out hi h1 h2
  obtain ⟨ep, he'⟩ := PyProof.Rows.sortedAll_at s.heap its out.toArray
  have hlen : ((out.map SrtO.iv).map V.int).length ≤ sizeLine := by
    rw [List.length_map, k2.length_eq, ← List.length_map (f := V.int)]
    exact hz
  exact ⟨.ref _, upd H (s.heap.objs.size + 1) (.lst ((out.map SrtO.iv).map V.int)), I.laid (t' := s.toks) (fun _ _ => PyProof.Rows.sortedAll_old) (Nat.le_succ _) ⟨hlen, out, ep, vals_of_ints k1, he'⟩, rfl, q _ _ k2 k3 (I.hok.fresh (Nat.le_succ _))⟩
theorem cs_sorted : CallS X (fun xs H Q => rSortedI X.K xs H Q ∨ rSortedIT X.K xs H Q) .fr dSorted := by
  intro mg W σ O H0 H fls xs as Q nw hx h
  have fin : ∀ (ds : List Da) (is : List Int), intsD ds = .ok is → ds.length ≤ big → FinG mg W σ H (R.ok (PyData.list ((sortI is).map PyData.int))) (PE_ X.K H O .fr Q) → ∀ (ns' : List Int) (r : Addr), ns'.Perm is → ns'.Pairwise (· ≤ ·) → H r = none → Q (.ref r) (upd H r (.lst (ns'.map V.int))) := fun ds is e n1 h ns' r hp ho hr => by
    have hs : ns' = sortI is := sorted_one _ _ (hp.trans (sortI_perm is).symm) ho (sortI_sorted is)
    subst hs
    have hl : ((sortI is).map PyData.int).length ≤ big := by
      rw [List.length_map, (sortI_perm is).length_eq, intsD_len e]
      exact n1
    exact PE_.newL h (RpAll.intsR _) hl hr (nw r hr)
  unfold dSorted at h
  split at h
  · cases hx with
    | cons h1 t =>
      cases t
      obtain ⟨p, vs, rfl, s1, r1, n1⟩ := h1.list
      obtain ⟨is, e, h⟩ := FinG.bind_ok (intsD_nx _) h
      rw [r1.ints e] at s1
      exact .inl ⟨p, is, rfl, s1, fin _ _ e n1 h⟩
  · cases hx with
    | cons h1 t =>
      cases t
      obtain ⟨p, vs, rfl, s1, r1, n1⟩ := h1.tuple
      obtain ⟨is, e, h⟩ := FinG.bind_ok (intsD_nx _) h
      rw [r1.ints e] at s1
      exact .inr ⟨p, is, rfl, s1, fin _ _ e n1 h⟩
  · exact h.elim
theorem de_sorted (m : X.mg "sorted" = none) (he : DE X W Γ e fl se) (hg : Gl X "sorted" := by show _ = _; kernel_rfl) (h1 : starEach [e] X.env = (false, eval e X.env) :: starEach [] X.env := by kernel_rfl) (h2 : (backTo pos (starEach [] X.env)).any (·.1) = false := by kernel_rfl) : DE X W Γ (.Call (.Name "sorted" p) [e] [] pos) .fr (eA dSorted (aCons se aNil)) :=
  de_callB (cr_or cr_sortedI cr_sortedIT) cs_sorted hg m boot_sorted (da_cons he da_nil h1) (by decide) (by decide) h1 h2
end
end DL
set_option Elab.async false
set_option linter.all false
set_option maxRecDepth 100000
namespace DL
open PySem PySem.Spec PyProof.Rows L2

/-! ### len(set(..)), whole numbers -/
theorem ddI_mem (x : Int) : ∀ l : List Int, x ∈ ddI l ↔ x ∈ l
  | [] => Iff.rfl
  | y :: l => by
    have ih := ddI_mem x l
    show x ∈ (if y ∈ ddI l then ddI l else y :: ddI l) ↔ _
    by_cases q : y ∈ ddI l
    · rw [if_pos q, ih, List.mem_cons]
      constructor
      · exact .inr
      · rintro (e | e)
        · subst e; exact (ddI_mem x l).mp q
        · exact e
    · rw [if_neg q, List.mem_cons, List.mem_cons, ih]
theorem ddI_nodup : ∀ l : List Int, (ddI l).Nodup
  | [] => List.nodup_nil
  | y :: l => by
    show (if y ∈ ddI l then ddI l else y :: ddI l).Nodup
    by_cases q : y ∈ ddI l
    · rw [if_pos q]; exact ddI_nodup l
    · rw [if_neg q]; exact List.nodup_cons.mpr ⟨q, ddI_nodup l⟩
theorem nodup_le : ∀ (l m : List Int), l.Nodup → (∀ x, x ∈ l → x ∈ m) → l.length ≤ m.length
  | [], m, _, _ => Nat.zero_le _
  | x :: l, m, h, s => by
    obtain ⟨h1, h2⟩ := List.nodup_cons.mp h
    have hx := s x List.mem_cons_self
    have := nodup_le l (m.erase x) h2 fun y hy => (List.mem_erase_of_ne (fun e => by subst e; exact h1 hy)).mpr (s y (List.mem_cons_of_mem _ hy))
    rw [List.length_erase_of_mem hx] at this
    have := List.length_pos_of_mem hx
    rw [List.length_cons]
    omega
theorem ddI_len {ns ks : List Int} (h : ks.Nodup) (m : ∀ x, x ∈ ks ↔ x ∈ ns) : ks.length = (ddI ns).length :=
  Nat.le_antisymm (nodup_le _ _ h fun x hx => (ddI_mem x ns).mpr ((m x).mp hx)) (nodup_le _ _ (ddI_nodup ns) fun x hx => (m x).mpr ((ddI_mem x ns).mp hx))
theorem met_nodup (ns : List Int) : (firstMet (fun i => ns.getD i 0) ns.length).Nodup ∧ ∀ x, x ∈ firstMet (fun i => ns.getD i 0) ns.length ↔ x ∈ ns := by
  have key : ∀ i, i ≤ ns.length → (firstMet (fun i => ns.getD i 0) i).Nodup ∧ ∀ x, x ∈ firstMet (fun i => ns.getD i 0) i ↔ x ∈ ns.take i := fun i => by
    induction i with
    | zero => exact fun _ => ⟨List.nodup_nil, fun x => Iff.rfl⟩
    | succ i ih =>
      intro hi
      obtain ⟨h1, h2⟩ := ih (by omega)
      have g : ns.getD i 0 = ns[i] := by simp [show i < ns.length by omega]
      have tk : ns.take (i + 1) = ns.take i ++ [ns[i]] := List.take_succ_eq_append_getElem (by omega)
      rw [firstMet_succ, tk]
      unfold step_dedup
      simp only [g]
      by_cases q : ns[i] ∈ firstMet (fun i => ns.getD i 0) i
      · have q' : (firstMet (fun i => ns.getD i 0) i).any (· == ns[i]) = true := List.any_eq_true.mpr ⟨_, q, beq_self_eq_true _⟩
        rw [if_pos q']
        refine ⟨h1, fun x => ?_⟩
        rw [List.mem_append, List.mem_singleton, h2]
        exact ⟨.inl, fun z => z.elim id fun e => by rw [e]; exact (h2 _).mp q⟩
      · have q' : ¬ (firstMet (fun i => ns.getD i 0) i).any (· == ns[i]) = true := fun z => by
          obtain ⟨y, hy, e⟩ := List.any_eq_true.mp z
          rw [beq_iff_eq.mp e] at hy
          exact q hy
        rw [if_neg q']
        refine ⟨List.nodup_append.mpr ⟨h1, by simp, fun a ha b hb e => ?_⟩, fun x => ?_⟩
        · rw [List.mem_singleton] at hb
          subst hb e
          exact q ha
        · rw [List.mem_append, List.mem_append, h2]
  obtain ⟨h1, h2⟩ := key ns.length (Nat.le_refl _)
  rw [List.take_length] at h2
  exact ⟨h1, h2⟩
section
variable {X : Cx} {W : WX} {Γ : List Nat} {e a : Expr} {fl : Fl} {se : SE} {pos p p2 q : Pos} {ta : TE}
def tLenSetA (K : PySem.W.Frag) (ta : TE) : TE := fun σ H Q => ta σ H fun x H1 => ∃ (l : Addr) (ns : List Int), x = V.ref l ∧ (SqL K H1 l (ns.map V.int) ∨ SqT K H1 l (ns.map V.int)) ∧ ns.length < 4000 ∧ Q (.int ((ddI ns).length : Nat)) H1
theorem pe_lenSetA (hc : X.calm = true) (g1 : Gl X "len") (m1 : X.mg "len" = none) (g2 : Gl X "set") (m2 : X.mg "set" = none) (ha : PE X a ta) (na : starEach [a] X.env = (false, eval a X.env) :: starEach [] X.env) :
    PE X (.Call (.Name "len" p) [.Call (.Name "set" p2) [a] [] q] [] pos) (tLenSetA X.K ta) := ⟨fun pins s σ H Q I h => by
  have boot1 := PySem.boot_len
  have boot2 := PyProof.Rows.boot_set
  refine Call_ (ld_blt I g1 m1 boot1 (PyProof.Rows.callWith_builtin1 (PyProof.Rows.args_cons (Call_ (ld_blt I g2 m2 boot2 (PyProof.Rows.callWith_type1 (PyProof.Rows.args_cons (thn (ha.run pins s σ H _ I h) fun v s1 ⟨x, H1, I1, r1, q1⟩ => PyProof.Rows.args_nil ?_) na) na rfl))) rfl) rfl rfl))
  obtain ⟨l, ns, rfl, hq, hn, q1⟩ := q1
  cases r1
  have fin : ∀ (h' : Heap) (tk : Nat) (o : Obj) (es : Array (Int × Value)) (ep : Nat) (t : SetTable), h'.get? s1.heap.objs.size = some o → o.ExactSet → o.data = .set es ep t → t.fits es.size = true → es.size = (ddI ns).length → (∀ b o, s1.heap.get? b = some o → h'.get? b = some o) →
      wpAny (model X.prog X.w) X.A (call (.builtin "len") [.ref s1.heap.objs.size]) (EP X pins σ Q) X.xe { s1 with heap := h', toks := tk } := fun h' tk o es ep t ho hex hd hf hsz hk => by
    have I2 : Inv X pins σ H1 { s1 with heap := h', toks := tk } := I1.kept hk
    have small : (ddI ns).length ≤ ns.length := nodup_le _ _ (ddI_nodup ns) fun x hx => (ddI_mem x ns).mp hx
    exact call_len_set ho hex hd hf (by rw [hsz]; omega) ⟨.int ((ddI ns).length : Nat), H1, I2.tok _, ⟨_, by rw [hsz]⟩, q1⟩
  rcases hq with hq | hq
  · obtain ⟨its, r, pl, _⟩ := I1.list hq
    have hl : its.toArray.size = ns.length := by rw [List.size_toArray, ← r.length, List.length_map]
    refine call_set_list (I1.ok.hd hc) pl.isList (ns := ns) (by simpa using r.ints) (by rw [hl]; unfold scanBound; omega) fun h' tk hS hk => PyProof.Rows.args_nil ?_
    rw [hl] at hS
    obtain ⟨o, es, ep, t, ho, hex, hd, _, _, _, hf, hz⟩ := hS
    obtain ⟨d1, d2⟩ := met_nodup ns
    exact fin h' tk o es ep t ho hex hd hf (by rw [hz, ddI_len d1 d2]) fun b o e => hk b o (Heap.lt_size e) e
  · obtain ⟨its, r, tp, _⟩ := I1.tuple hq
    refine call_set_tupI ns (I1.ok.hd hc) tp (by simpa using r.ints) (by unfold scanBound; omega) fun h' tk c hS _ hk => PyProof.Rows.args_nil ?_
    obtain ⟨o, es, ep, t, ho, hex, hd, _, nd, mem, _, hf, hz, _⟩ := hS
    refine fin h' tk o es ep t ho hex hd hf ?_ hk
    have e1 : es.size = (es.toList.map keyOf).length := by rw [List.length_map, Array.length_toList]
    rw [e1]
    exact ddI_len nd fun x => by rw [← mem x]; exact decide_eq_true_iff⟩
theorem de_lenSet (hc : X.calm = true) (m1 : X.mg "len" = none) (m2 : X.mg "set" = none) (he : DE X W Γ a fl se) (g1 : Gl X "len" := by show _ = _; kernel_rfl) (g2 : Gl X "set" := by show _ = _; kernel_rfl) (na : starEach [a] X.env = (false, eval a X.env) :: starEach [] X.env := by kernel_rfl) :
    DE X W Γ (.Call (.Name "len" p) [.Call (.Name "set" p2) [a] [] q] [] pos) .fr (e1 dLenSet se) := pe_imp (pe_lenSetA hc g1 m1 g2 m2 he na) fun σ H Q h => by
  obtain ⟨ρ, F, GO, E, h⟩ := h
  refine at_e E h fun d v H1 s1 r1 E1 h1 => ?_
  have fin : ∀ (ds : List Da) (is : List Int), intsD ds = .ok is → FinG X.mg W σ H1 (if is.length < 4000 then R.ok (PyData.int ((ddI is).length : Nat)) else .bad) (PE_ X.K H (Ads GO ++ F) .fr Q) → is.length < 4000 ∧ Q (.int ((ddI is).length : Nat)) H1 := fun ds is e h => by
    split at h
    · rename_i c
      exact ⟨c, PE_.flat (PE_.mono s1 h) (.int _) rfl⟩
    · exact h.elim
  unfold dLenSet at h1
  split at h1
  · obtain ⟨p, vs, rfl, q1, r2, n2⟩ := r1.list
    obtain ⟨is, e, h2⟩ := FinG.bind_ok (intsD_nx _) h1
    rw [r2.ints e] at q1
    exact ⟨p, is, rfl, .inl q1, fin _ _ e h2⟩
  · obtain ⟨p, vs, rfl, q1, r2, n2⟩ := r1.tuple
    obtain ⟨is, e, h2⟩ := FinG.bind_ok (intsD_nx _) h1
    rw [r2.ints e] at q1
    exact ⟨p, is, rfl, .inr q1, fin _ _ e h2⟩
  · exact h1.elim
end
end DL
set_option Elab.async false
set_option linter.all false
set_option maxRecDepth 100000
namespace DL
open PySem PySem.Spec PyProof.Rows L2

/-! ### a text times 0 or 1, a tuple times a number -/
section
variable {X : Cx} {W : WX} {Γ : List Nat} {e a b : Expr} {fl fa fb : Fl} {se sa sb : SE} {pos p p2 q : Pos}
def rRepS : R2 := fun x y H Q => ∃ s k, x = .str s ∧ y = .int k ∧ s.length ≤ big ∧ ((k = 0 ∧ Q (.str Str.empty) H) ∨ (k = 1 ∧ Q (.str s) H))
theorem op_repS : OpR X (binaryOp .Mult) rRepS := by
  intro pins s σ H x y v u Q I rx ry h
  obtain ⟨z, k, rfl, rfl, hz, h⟩ := h
  obtain ⟨t1, rfl⟩ := rx
  obtain ⟨t2, rfl⟩ := ry
  rcases h with ⟨rfl, h⟩ | ⟨rfl, h⟩
  · exact PySem.P.mul_str_none (by decide) (by decide) ⟨.str Str.empty, H, I.tok _, ⟨_, rfl⟩, h⟩
  · refine PySem.P.mul_str (by decide) (fun _ z => by cases z) (fun _ z => by cases z) ?_
    rw [if_neg (by decide), if_pos (by rfl)]
    exact ⟨.str z, H, I, ⟨_, rfl⟩, h⟩
theorem os_repS : OpS X rRepS .fr repS := by
  intro mg W σ O H0 H x y a b Q nw hx hy h
  unfold repS at h
  split at h
  · cases hy.int
    obtain ⟨rfl, hz⟩ := hx.str
    split at h
    · rename_i e
      exact ⟨_, _, rfl, rfl, hz, .inl ⟨e, PE_.flat h (.str _ (by decide)) rfl⟩⟩
    · split at h
      · rename_i e
        exact ⟨_, _, rfl, rfl, hz, .inr ⟨e, PE_.flat h (.str _ hz) rfl⟩⟩
      · exact h.elim
  · exact h.elim
theorem de_repS (ha : DE X W Γ a fa sa) (hb : DE X W Γ b fb sb) : DE X W Γ (.BinOp a .Mult b pos) .fr (e2 repS sa sb) := de_bin op_repS os_repS ha hb
/-! ### a tuple times 0, () times a number -/
open AutoSeq1 (wpAny_loadPart') in
theorem tuple_mul_nil (l : Addr) (n : Nat) (dd : Option Addr) (sl : Array (Option Value)) (x : Int) (u : Tok) (c0 : (decide (x < -(2 ^ 63)) || decide (x ≥ 2 ^ 63)) = false) :
    Meets (Builtin.«tuple.__mul__» ⟨[.ref l, .int x u], []⟩) (fun _ R s => s.heap.get? l = some { cls := .type "tuple", dict := dd, data := .seq #[] n, slots := sl } ∧ R (.ok (.ret (Value.ref l))) s) :=
  .of_wp fun prog w A R s h => by
    obtain ⟨hp, g, d, tk, os⟩ := s
    obtain ⟨g1, g2⟩ := h
    have f1 := AutoSeq1.idx_int
    have c1 : ((#[] : Array Value).isEmpty || x == 1) = true := by rw [show (#[] : Array Value).isEmpty = true from rfl, Bool.true_or]
    have tT : Shared.TypeIs ⟨hp, g, d, tk, os⟩ (.ref l) "tuple" := ⟨_, g1, rfl⟩
    wp_walk using wpAny_loadPart' g1, wpAny_typeOf tT
    repeat (first
      | (refine wpAny_ite_false (decide_eq_false (by rw [c0]; exact Bool.false_ne_true)) ?_; wp_walk using wpAny_loadPart' g1, wpAny_typeOf tT))
    exact ⟨_, rfl, g2⟩
open AutoSeq1 (wpAny_loadPart') in
theorem tuple_mul_zero (l : Addr) (items : Array Value) (n : Nat) (dd : Option Addr) (sl : Array (Option Value)) (u : Tok) (c1 : (items.isEmpty || (0 : Int) == 1) = false) :
    Meets (Builtin.«tuple.__mul__» ⟨[.ref l, .int 0 u], []⟩) (fun _ R s => s.heap.get? l = some { cls := .type "tuple", dict := dd, data := .seq items n, slots := sl } ∧
      R (.ok (.ret (Value.ref s.heap.objs.size))) { s with heap := s.heap.push { cls := Value.type "tuple", data := Data.seq #[] }, toks := s.toks }) :=
  .of_wp fun prog w A R s h => by
    obtain ⟨hp, g, d, tk, os⟩ := s
    obtain ⟨hl, h⟩ := h
    have f1 := AutoSeq1.idx_int
    have c2 : (decide ((0 : Int) ≤ 0) || items.isEmpty) = true := by rw [decide_eq_true (Int.le_refl 0), Bool.true_or]
    wp_walk using wpAny_loadPart' hl
    repeat (first
      | (refine wpAny_ite_false (decide_eq_false (by rw [c1]; exact Bool.false_ne_true)) ?_; wp_walk using wpAny_loadPart' hl))
    exact ⟨_, rfl, h⟩
open AutoSeq1 (wpAny_loadPart') in
theorem tuple_mul_one (l : Addr) (items : Array Value) (n : Nat) (dd : Option Addr) (sl : Array (Option Value)) (u : Tok) :
    Meets (Builtin.«tuple.__mul__» ⟨[.ref l, .int 1 u], []⟩) (fun _ R s => s.heap.get? l = some { cls := .type "tuple", dict := dd, data := .seq items n, slots := sl } ∧ R (.ok (.ret (Value.ref l))) s) :=
  .of_wp fun prog w A R s h => by
    obtain ⟨hp, g, d, tk, os⟩ := s
    obtain ⟨g1, g2⟩ := h
    have f1 := AutoSeq1.idx_int
    have c1 : (items.isEmpty || (1 : Int) == 1) = true := by rw [show ((1 : Int) == 1) = true from rfl, Bool.or_true]
    have tT : Shared.TypeIs ⟨hp, g, d, tk, os⟩ (.ref l) "tuple" := ⟨_, g1, rfl⟩
    wp_walk using wpAny_loadPart' g1, wpAny_typeOf tT
    exact ⟨_, rfl, g2⟩
def rRepT1 (K : PySem.W.Frag) : R2 := fun x y H Q => ∃ l xs, x = .ref l ∧ y = .int 1 ∧ SqT K H l xs ∧ Q (.ref l) H
theorem op_repT1 : OpR X (binaryOp .Mult) (rRepT1 X.K) := by
  intro pins s σ H x y v u Q I rx ry h
  obtain ⟨l, xs, rfl, rfl, hT, q⟩ := h
  cases rx
  obtain ⟨t, rfl⟩ := ry
  obtain ⟨its, r, ⟨⟨cls, dd, data, sl⟩, ho, hc, n, hd⟩, hs⟩ := I.tuple hT
  simp only at hc hd
  subst hc hd
  refine wpAny_binaryOp_repeat_ref (T := "tuple") (U := "int") (by decide) ⟨_, ho, rfl⟩ (fun s' => typeIs_int s' 1 t) noFill_tuple_mul F.fills_int_mul F.slot_int_rmul repeat_tuple F.slot_int_index.lookup
    (call_meets F.slot_int_rmul (typeIs_int s 1 t) F.entry_int_rmul (F.args_int_rmul_2 _ _) (int_rmul_tuple 1 t l its.toArray n dd sl) ⟨ho, rfl, ⟨_, ho, rfl⟩, ?_⟩)
  exact call_meets F.slot_tuple_mul ⟨_, ho, rfl⟩ F.entry_tuple_mul (F.args_tuple_mul_2 _ _) (tuple_mul_one l its.toArray n dd sl t) ⟨ho, ⟨.ref l, H, I, rfl, q⟩⟩
def rRepT0 (K : PySem.W.Frag) : R2 := fun x y H Q => ∃ l k xs, x = .ref l ∧ y = .int k ∧ SqT K H l xs ∧ ((xs = [] ∧ k.natAbs ≤ 1000 ∧ Q (.ref l) H) ∨ (xs ≠ [] ∧ k = 0 ∧ ∀ p, H p = none → Q (.ref p) (upd H p (.tup []))))
theorem op_repT0 : OpR X (binaryOp .Mult) (rRepT0 X.K) := by
  intro pins s σ H x y v u Q I rx ry h
  obtain ⟨l, k, xs, rfl, rfl, hT, h⟩ := h
  cases rx
  obtain ⟨t, rfl⟩ := ry
  obtain ⟨its, r, ⟨⟨cls, dd, data, sl⟩, ho, hc, n, hd⟩, hs⟩ := I.tuple hT
  simp only at hc hd
  subst hc hd
  refine wpAny_binaryOp_repeat_ref (T := "tuple") (U := "int") (by decide) ⟨_, ho, rfl⟩ (fun s' => typeIs_int s' k t) noFill_tuple_mul F.fills_int_mul F.slot_int_rmul repeat_tuple F.slot_int_index.lookup
    (call_meets F.slot_int_rmul (typeIs_int s k t) F.entry_int_rmul (F.args_int_rmul_2 _ _) (int_rmul_tuple k t l its.toArray n dd sl) ⟨ho, rfl, ⟨_, ho, rfl⟩, ?_⟩)
  rcases h with ⟨rfl, hk, q⟩ | ⟨hne, rfl, q⟩
  · cases r
    have c0 : (decide (k < -(2 ^ 63)) || decide (k ≥ 2 ^ 63)) = false := by
      rw [decide_eq_false (by omega), decide_eq_false (by omega)] <;> rfl
    exact call_meets F.slot_tuple_mul ⟨_, ho, rfl⟩ F.entry_tuple_mul (F.args_tuple_mul_2 _ _) (tuple_mul_nil l n dd sl k t c0) ⟨ho, ⟨.ref l, H, I, rfl, q⟩⟩
  · have hi : its.toArray.isEmpty = false := by
      cases r with
      | nil => exact absurd rfl hne
      | cons _ _ => rfl
    have c1 : (its.toArray.isEmpty || (0 : Int) == 1) = false := by
      rw [hi]
      rfl
    refine call_meets F.slot_tuple_mul ⟨_, ho, rfl⟩ F.entry_tuple_mul (F.args_tuple_mul_2 _ _) (tuple_mul_zero l its.toArray n dd sl t c1) ⟨ho, ?_⟩
    refine ⟨.ref s.heap.objs.size, _, I.laid (t' := s.toks) (o := .tup []) (fun b ob q => Heap.get?_push_of_some _ q) (Nat.le_refl _) ?_, rfl, q _ (I.hok.fresh (Nat.le_refl _))⟩
    exact ⟨Nat.zero_le _, [], .nil, IsTup.new _ _⟩
theorem op_or {op : Value → Value → Sem Value} {r1 r2 : R2} (h1 : OpR X op r1) (h2 : OpR X op r2) : OpR X op (fun x y H Q => r1 x y H Q ∨ r2 x y H Q) := by
  intro pins s σ H x y v u Q I rx ry h
  rcases h with h | h
  · exact h1 pins s σ H x y v u Q I rx ry h
  · exact h2 pins s σ H x y v u Q I rx ry h
theorem os_repT : OpS X (fun x y H Q => (rRepT X.K x y H Q ∨ rRepT1 X.K x y H Q) ∨ rRepT0 X.K x y H Q) .fr repT := by
  intro mg W σ O H0 H x y a b Q nw hx hy h
  unfold repT at h
  split at h
  · rename_i ds k
    cases hy.int
    obtain ⟨p, vs, rfl, q1, r1, n1⟩ := hx.tuple
    split at h
    · rename_i c
      obtain ⟨c1, c2, c3, c4⟩ := c
      refine .inl ?_
      by_cases e : k = 1
      · subst e
        have ee : (List.replicate (1 : Int).toNat ds).flatten = ds := by simp
        rw [ee] at h
        exact .inr ⟨p, vs, rfl, rfl, q1, PE_.now h (.nolist (.tup q1 n1 r1) fun _ z => nomatch z)⟩
      · refine .inl ⟨p, k, vs, rfl, rfl, q1, ?_, by omega, by omega, by rw [r1.length]; exact c1, fun t ht => PE_.newT h (r1.rep _) ?_ ht⟩
        · intro z
          have := r1.length
          rw [z] at this
          simp at this
          omega
        · rw [PyProof.Rows.lm_len_rep_flat]
          have : k.toNat * ds.length ≤ 1000 * 1000 := Nat.mul_le_mul (by omega) c1
          unfold big
          omega
    · split at h
      · rename_i c
        refine .inr ⟨p, k, vs, rfl, rfl, q1, ?_⟩
        by_cases e : vs = []
        · subst e
          cases r1
          refine .inl ⟨rfl, ?_, PE_.now h (.nolist (.tup q1 n1 .nil) fun _ z => nomatch z)⟩
          rcases c with c | c
          · subst c; decide
          · exact c.2
        · rcases c with c | c
          · exact .inr ⟨e, c, fun t ht => PE_.newT h .nil (Nat.zero_le _) ht⟩
          · have := r1.length
            exact absurd (List.eq_nil_of_length_eq_zero (by omega)) e
      · exact h.elim
  · exact h.elim
theorem de_repT (ha : DE X W Γ a fa sa) (hb : DE X W Γ b fb sb) : DE X W Γ (.BinOp a .Mult b pos) .fr (e2 repT sa sb) := de_bin (op_or (op_or op_repT op_repT1) op_repT0) os_repT ha hb
end
end DL
set_option Elab.async false
set_option linter.all false
set_option maxRecDepth 100000
namespace DL
open PySem PySem.Spec PyProof.Rows L2

/-! ### try: .. except X as n: .., a suite that answers by the error's class -/
theorem Rp.flat2 {K : PySem.W.Frag} {H : Hp} {O O' : List Addr} {v : V} {d : Da} (f : flatD d = true) (r : Rp K H O v d) : Rp K H O' v d := by
  cases d with
  | none => cases r; exact .non
  | bool b => cases r; exact .bl b
  | int i => cases r; exact .int i
  | str x => cases r with | str _ n => exact .str x n
  | tuple _ => cases f
  | list _ => cases f
  | dict _ => cases f
/-- a suite's reading: the error lies at a, in slot i; answer d -/
def tSu (K : PySem.W.Frag) (a : Addr) (i : Nat) (d : Da) : TS := fun D σ H => σ[i]? = some (some (.ref a)) ∧ ∀ v, Rp K H [] v d → D.rt v H
theorem ps_imp' {X : Cx} {st : Stmt} {t t' : TS} (h : PS X st t) (w : ∀ D σ H, t' D σ H → t D σ H) : PS X st t' := ps_imp h w
section
variable {X : Cx} {W : WX} {Γ Γ' : List Nat} {b : SS} {x n : Str} {c : Value} {i : Nat} {body suite : List Stmt} {b₀ : Stmt} {np pos pos' : Pos} {ok : List Str} {hv : Str → Da}
theorem takes_len (tk : Takes X W) : Takes X (fun cls d σ H => σ.length = X.N.length → W cls d σ H) := fun u s' ⟨a, B, sI, pins, σ, H, cls, d, e, I, nb, up, sky, na, os, ag, w⟩ =>
  tk u s' ⟨a, B, sI, pins, σ, H, cls, d, e, I, nb, up, sky, na, os, ag, w I.len⟩
theorem ds_try (hs : X.stack = X.env :: X.outer) (hf : X.env.frame = some X.env.locals) (hN : X.N.Nodup) (hi : X.N[i]? = some n) (hln : X.env.kindOf n = some .local) (hc : Names X x c) (tk : Takes X W)
    (hfl : ∀ y, y ∈ ok → flatD (hv y) = true) (hex : ∀ y, y ∈ ok → ∀ C, X.mg y = some (.ref C) → PySem.W.exmOne X.K (.ref C) c = some true)
    (hb : ∀ (W : WX) (pn : List (Addr × Obj)) (xe : Value → Shared → Prop), Takes (X.tr pn xe) W → PassesOwn (model X.prog X.w) X.A X.env xe → DSs (X.tr pn xe) W Γ body Γ' b)
    (hsu : ∀ y, y ∈ ok → ∀ (C a : Addr) (oe : Obj) (pn : List (Addr × Obj)), X.mg y = some (.ref C) → Zc (.ref C) none oe → (∃ vs, oe.data = .fields vs) → PSs (X.suite a ((a, oe) :: pn)) (b₀ :: suite) (tSu X.K a i (hv y))) :
    DS X W Γ (.Try body [.ExceptHandler (some (.Name x np)) (some n) (b₀ :: suite) pos'] [] [] pos) Γ' (sTry b ok hv) :=
  ps_imp (ps_try_as (tb := fun W => tDS X.K X.mg (fun cls d σ H => σ.length = X.N.length → W cls d σ H) Γ Γ' b)
    (ts := fun a cls d => fun D σ H => ∃ y C, y ∈ ok ∧ X.mg y = some (.ref C) ∧ cls = .ref C ∧ d = none ∧ tSu X.K a i (hv y) D σ H) hs hf hN hi hln hc tk
    (fun W pn xe tk2 ps => hb _ pn xe (takes_len tk2) ps)
    (fun a oe cls d pn hz hv => ⟨fun pins s σ H D I h => by
      obtain ⟨y, C, hy, hm, e1, e2, h⟩ := h
      subst e1 e2
      exact (hsu y hy C a oe pn hm hz hv).run pins s σ H D I h⟩)) fun D σ H h => by
    obtain ⟨ρ, F, GO, E, h⟩ := h
    refine ⟨ρ, F, GO, E, ?_⟩
    unfold sTry at h
    show FinS _ _ _ _ _ _ _ (b ρ) _
    cases q : b ρ with
    | ok o =>
      rw [q] at h
      cases o with
      | nx _ => exact h
      | rt _ => exact h
    | bad => rw [q] at h; exact h
    | exc y =>
      rw [q] at h
      dsimp only at h
      split at h
      · rename_i hy
        intro C σ' H' hC k hlen
        refine ⟨true, hex y hy C hC, fun _ a na => ⟨y, C, hy, hC, rfl, rfl, ?_, fun v r => ?_⟩, fun z => Bool.noConfusion z⟩
        · obtain ⟨hl, _⟩ := List.getElem?_eq_some_iff.mp hi
          exact List.getElem?_set_self (by rw [hlen]; exact hl)
        · exact h v H' k (Rp.flat2 (hfl y hy) r)
      · exact h.elim
/-- isinstance(wrong, C1) in the suite -/
theorem pe_isE {D C1 a : Addr} {oe : Obj} {pn : List (Addr × Obj)} {m x1 : Str} {bb : Bool} {p p1 p2 : Pos} (EC : ExcC X.K D) (hz : Zc (.ref D) none oe) (hf : ∃ vs, oe.data = .fields vs)
    (hg : Gl X "isinstance") (hm : X.mg "isinstance" = none) (hN : X.N[i]? = some n) (hv : Vis X.env.scope n) (hd : (n == ("__debug__" : Str)) = false) (hcd : (n == ("__classdict__" : Str)) = false)
    (hg1 : Gl X x1) (hm1 : X.mg x1 = some (.ref C1)) (hd1 : (x1 == ("__debug__" : Str)) = false) (hk : PySem.W.kitOne X.K (.ref D) (.ref C1) = some bb)
    (hs1 : starEach [.Name n p1, .Name x1 p2] X.env = (false, eval (.Name n p1) X.env) :: starEach [.Name x1 p2] X.env := by rfl) (hs2 : starEach [.Name x1 p2] X.env = (false, eval (.Name x1 p2) X.env) :: starEach [] X.env := by rfl)
    (hpl : (backTo pos (starEach [.Name x1 p2] X.env)).any (·.1) = false := by rfl) :
    PE (X.suite a ((a, oe) :: pn)) (.Call (.Name "isinstance" p) [.Name n p1, .Name x1 p2] [] pos) (fun σ H Q => σ[i]? = some (some (.ref a)) ∧ Q (.bl bb) H) :=
  pe_imp (pe_callB (X := X.suite a ((a, oe) :: pn)) (call_isE EC hz hf) hg hm boot_isinstance (pa_cons (pe_var (X := X.suite a ((a, oe) :: pn)) hN hv hd hcd) (pa_cons (pe_glob (X := X.suite a ((a, oe) :: pn)) (v := .ref C1) hg1 hm1 rfl hd1) pa_nil hs2) hs1) (by decide) (by decide) hs1 hpl) fun σ H Q h =>
    ⟨.ref a, h.1, .ref C1, .ref C1, bb, rfl, fun u r => r, hk, h.2⟩
/-! the suites themselves -/
section
variable {D C1 C2 a : Addr} {oe : Obj} {pn : List (Addr × Obj)} {w1 w2 : Str} {b1 b2 : Bool} {e1 e2 : Expr} {p p1 p2 p3 p4 p5 p6 : Pos}
def tE (a : Addr) (i : Nat) (bb : Bool) : TE := fun σ H Q => σ[i]? = some (some (.ref a)) ∧ Q (.bl bb) H
/-- return isinstance(wrong, C) -/
theorem su_ret {Y : Cx} (hY : Y.K = X.K) (h1 : PE Y e1 (tE a i b1)) : PSs Y [.Return (some e1) p] (tSu X.K a i (.bool b1)) := pss_one (ps_imp' (ps_ret h1) fun D σ H h => ⟨h.1, h.2 _ (.bl b1)⟩)
/-- if isinstance(wrong, C1): return 'w1' / return 'w2' * int(isinstance(wrong, C2)) -/
theorem su_two {Y : Cx} (hY : Y.K = X.K) {f1 : Expr} {as1 : List Expr} {k1 : List Keyword} {q1 q2 q3 q4 q5 q6 : Pos} {j1 j2 : Nat} (h1 : PE Y (.Call f1 as1 k1 p1) (tE a i b1)) (h2 : PE Y e2 (tE a i b2)) (n1 : w1.length ≤ big) (n2 : w2.length ≤ big)
    (m : Y.mg "int" = none) (hg : Gl Y "int") (hs1 : starEach [e2] Y.env = (false, eval e2 Y.env) :: starEach [] Y.env := by rfl) (hs2 : (backTo q6 (starEach [] Y.env)).any (·.1) = false := by rfl) :
    PSs Y [.If (.Call f1 as1 k1 p1) [.Return (some (.Constant (.str w1) j1 q1)) q2] [] q3, .Return (some (.BinOp (.Constant (.str w2) j2 q4) .Mult (.Call (.Name "int" p2) [e2] [] q6) q5)) p3]
      (tSu X.K a i (if b1 then .str w1 else if b2 then .str w2 else .str Str.empty)) :=
  pss_imp (pss_cons (ps_if (pt_val h1) (pss_one (ps_ret pe_str)) pss_nil) (pss_one (ps_ret (pe_op op_repS pe_str (pe_callTy call_int1 hg m boot_int (pa_cons h2 pa_nil hs1) (by decide) (by decide) hs1 hs2))))) fun D σ H h => by
    obtain ⟨h3, h4⟩ := h
    refine ⟨h3, b1, rfl, ?_⟩
    cases b1 with
    | true => exact h4 _ (.str w1 n1)
    | false =>
      refine ⟨h3, .inr ⟨b2, rfl, ?_⟩⟩
      cases b2 with
      | true => exact ⟨w2, 1, rfl, rfl, n2, .inr ⟨rfl, h4 _ (.str w2 n2)⟩⟩
      | false => exact ⟨w2, 0, rfl, rfl, n2, .inl ⟨rfl, h4 _ (.str _ (by decide))⟩⟩
end
end
/-! what the head shows of an error's class -/
def excCB (K : PySem.W.Frag) (D : Addr) : Bool :=
  decide (PySem.W.findIn K (.ref D) "__getattribute__" = some (some (.builtin "BaseException.__getattribute__"))) &&
  (decide (PySem.W.findIn K (.ref D) "__getattr__" = some none) && (decide (PySem.W.subIn K (.ref D) (.type "BaseException") = some true) && (PySem.W.hasDictIn K D &&
  (decide (PySem.W.findIn K (.ref D) "__class__" = some (some (.builtin "object.__class__"))) && (decide (PySem.W.specialIn K (.builtin "object.__class__") "__get__" = some (some (.builtin "getset_descriptor.__get__"))) &&
  (decide (PySem.W.takesIn K (.builtin "object.__class__") = some true) && decide (PySem.W.mroIn K D (.type "object") = some true)))))))
theorem excC_of {K : PySem.W.Frag} {D : Addr} (h : excCB K D = true) : ExcC K D := by
  unfold excCB at h
  simp only [Bool.and_eq_true, decide_eq_true_eq] at h
  obtain ⟨h1, h2, h3, h4, h5, h6, h7, h8⟩ := h
  exact ⟨h1, h2, h3, h4, h5, h6, h7, h8⟩
/-- an error x raised, under except y, asked after the classes z -/
def catB (K : PySem.W.Frag) (x y : Str) : Bool := decide (PySem.W.exmOne K (.ref (He.ga K x)) (.ref (He.ga K y)) = some true) && excCB K (He.ga K x)
def isB (K : PySem.W.Frag) (x z : Str) (b : Bool) : Bool := decide (PySem.W.kitOne K (.ref (He.ga K x)) (.ref (He.ga K z)) = some b)
/-- .. as a fact about names -/
structure Cat (K : PySem.W.Frag) (mg : MG) (x y : Str) : Prop where
  ex : ∃ C N, mg x = some (.ref C) ∧ mg y = some (.ref N) ∧ PySem.W.exmOne K (.ref C) (.ref N) = some true ∧ ExcC K C
structure IsE (K : PySem.W.Frag) (mg : MG) (x z : Str) (b : Bool) : Prop where
  ex : ∃ C N, mg x = some (.ref C) ∧ mg z = some (.ref N) ∧ PySem.W.kitOne K (.ref C) (.ref N) = some b
theorem cat_of {K : PySem.W.Frag} {h : Heap} {mg : MG} {x y : Str} (X : K.In h) (G : h.Ns mainGlobals mg) (c1 : (He.Fa.glo x).ok K = true) (c2 : (He.Fa.glo y).ok K = true) (c : catB K x y = true) : Cat K mg x y := by
  unfold catB at c
  simp only [Bool.and_eq_true, decide_eq_true_eq] at c
  exact ⟨_, _, He.glo_ok X G c1, He.glo_ok X G c2, c.1, excC_of c.2⟩
theorem isE_of {K : PySem.W.Frag} {h : Heap} {mg : MG} {x z : Str} {b : Bool} (X : K.In h) (G : h.Ns mainGlobals mg) (c1 : (He.Fa.glo x).ok K = true) (c2 : (He.Fa.glo z).ok K = true) (c : isB K x z b = true) : IsE K mg x z b := by
  unfold isB at c
  simp only [decide_eq_true_eq] at c
  exact ⟨_, _, He.glo_ok X G c1, He.glo_ok X G c2, c⟩
section
variable {X : Cx} {W : WX} {Γ Γ' : List Nat} {b : SS} {x n x1 x2 y0 w1 w2 : Str} {i : Nat} {body : List Stmt} {np pos pos' p p1 p2 p3 p4 p5 p6 p7 p8 q q1 q2 q3 q4 q5 q6 : Pos} {ok : List Str} {hv : Str → Da} {j1 j2 : Nat}
theorem ds_try1 (hs : X.stack = X.env :: X.outer) (hf : X.env.frame = some X.env.locals) (hN : X.N.Nodup) (hi : nameOk X.N X.env.scope i n = true) (hln : X.env.kindOf n = some .local) (hgx : Gl X x) (hdx : (x == ("__debug__" : Str)) = false) (tk : Takes X W)
    (hy0 : y0 ∈ ok) (hcat : ∀ y, y ∈ ok → Cat X.K X.mg y x) (his : ∀ y, y ∈ ok → ∃ b1, IsE X.K X.mg y x1 b1 ∧ hv y = .bool b1)
    (hgi : Gl X "isinstance") (hmi : X.mg "isinstance" = none) (hg1 : Gl X x1) (hd1 : (x1 == ("__debug__" : Str)) = false)
    (hb : ∀ (W : WX) (pn : List (Addr × Obj)) (xe : Value → Shared → Prop), Takes (X.tr pn xe) W → PassesOwn (model X.prog X.w) X.A X.env xe → DSs (X.tr pn xe) W Γ body Γ' b)
    (hs1 : starEach [.Name n p1, .Name x1 p2] X.env = (false, eval (.Name n p1) X.env) :: starEach [.Name x1 p2] X.env := by rfl) (hs2 : starEach [.Name x1 p2] X.env = (false, eval (.Name x1 p2) X.env) :: starEach [] X.env := by rfl)
    (hpl : (backTo q (starEach [.Name x1 p2] X.env)).any (·.1) = false := by rfl) :
    DS X W Γ (.Try body [.ExceptHandler (some (.Name x np)) (some n) [.Return (some (.Call (.Name "isinstance" p) [.Name n p1, .Name x1 p2] [] q)) q1] pos'] [] [] pos) Γ' (sTry b ok hv) := by
  obtain ⟨C0, N0, m0, mN, _, _⟩ := (hcat y0 hy0).ex
  obtain ⟨hi1, hi2, hi3, hi4⟩ := nameOk_of hi
  refine ds_try (c := .ref N0) hs hf hN hi1 hln ⟨hgx, hdx, .inl mN⟩ tk (fun y hy => ?_) (fun y hy C hC => ?_) hb fun y hy C a oe pn hC hz hfl => ?_
  · obtain ⟨b1, _, e⟩ := his y hy
    rw [e]; rfl
  · obtain ⟨C', N', e1, e2, e3, _⟩ := (hcat y hy).ex
    rw [hC] at e1; rw [mN] at e2
    cases e1; cases e2
    exact e3
  · obtain ⟨C', N', e1, e2, _, e4⟩ := (hcat y hy).ex
    obtain ⟨b1, ⟨C2, N2, f1, f2, f3⟩, e⟩ := his y hy
    rw [hC] at e1 f1
    cases e1; cases f1
    rw [e]
    exact su_ret rfl (pe_isE (m := n) e4 hz hfl hgi hmi hi1 hi2 hi3 hi4 hg1 f2 hd1 f3 hs1 hs2 hpl)
theorem ds_try2 (hs : X.stack = X.env :: X.outer) (hf : X.env.frame = some X.env.locals) (hN : X.N.Nodup) (hi : nameOk X.N X.env.scope i n = true) (hln : X.env.kindOf n = some .local) (hgx : Gl X x) (hdx : (x == ("__debug__" : Str)) = false) (tk : Takes X W)
    (hy0 : y0 ∈ ok) (hcat : ∀ y, y ∈ ok → Cat X.K X.mg y x) (his : ∀ y, y ∈ ok → ∃ b1 b2, IsE X.K X.mg y x1 b1 ∧ IsE X.K X.mg y x2 b2 ∧ hv y = if b1 then .str w1 else if b2 then .str w2 else .str Str.empty)
    (n1 : w1.length ≤ big) (n2 : w2.length ≤ big) (hmt : X.mg "int" = none) (hgt : Gl X "int")
    (hgi : Gl X "isinstance") (hmi : X.mg "isinstance" = none) (hg1 : Gl X x1) (hd1 : (x1 == ("__debug__" : Str)) = false) (hg2 : Gl X x2) (hd2 : (x2 == ("__debug__" : Str)) = false)
    (hb : ∀ (W : WX) (pn : List (Addr × Obj)) (xe : Value → Shared → Prop), Takes (X.tr pn xe) W → PassesOwn (model X.prog X.w) X.A X.env xe → DSs (X.tr pn xe) W Γ body Γ' b)
    (hs1 : starEach [.Name n p1, .Name x1 p2] X.env = (false, eval (.Name n p1) X.env) :: starEach [.Name x1 p2] X.env := by rfl) (hs2 : starEach [.Name x1 p2] X.env = (false, eval (.Name x1 p2) X.env) :: starEach [] X.env := by rfl)
    (hpl : (backTo q (starEach [.Name x1 p2] X.env)).any (·.1) = false := by rfl)
    (hs3 : starEach [.Name n p5, .Name x2 p6] X.env = (false, eval (.Name n p5) X.env) :: starEach [.Name x2 p6] X.env := by rfl) (hs4 : starEach [.Name x2 p6] X.env = (false, eval (.Name x2 p6) X.env) :: starEach [] X.env := by rfl)
    (hpl2 : (backTo q4 (starEach [.Name x2 p6] X.env)).any (·.1) = false := by rfl)
    (hs5 : starEach [.Call (.Name "isinstance" p4) [.Name n p5, .Name x2 p6] [] q4] X.env = (false, eval (.Call (.Name "isinstance" p4) [.Name n p5, .Name x2 p6] [] q4) X.env) :: starEach [] X.env := by rfl) (hpl3 : (backTo q5 (starEach [] X.env)).any (·.1) = false := by rfl) :
    DS X W Γ (.Try body [.ExceptHandler (some (.Name x np)) (some n) [.If (.Call (.Name "isinstance" p) [.Name n p1, .Name x1 p2] [] q) [.Return (some (.Constant (.str w1) j1 q1)) q2] [] q3,
      .Return (some (.BinOp (.Constant (.str w2) j2 p7) .Mult (.Call (.Name "int" p3) [.Call (.Name "isinstance" p4) [.Name n p5, .Name x2 p6] [] q4] [] q5) q6)) p8] pos'] [] [] pos) Γ' (sTry b ok hv) := by
  obtain ⟨C0, N0, m0, mN, _, _⟩ := (hcat y0 hy0).ex
  obtain ⟨hi1, hi2, hi3, hi4⟩ := nameOk_of hi
  refine ds_try (c := .ref N0) hs hf hN hi1 hln ⟨hgx, hdx, .inl mN⟩ tk (fun y hy => ?_) (fun y hy C hC => ?_) hb fun y hy C a oe pn hC hz hfl => ?_
  · obtain ⟨b1, b2, _, _, e⟩ := his y hy
    rw [e]
    cases b1 <;> cases b2 <;> rfl
  · obtain ⟨C', N', e1, e2, e3, _⟩ := (hcat y hy).ex
    rw [hC] at e1; rw [mN] at e2
    cases e1; cases e2
    exact e3
  · obtain ⟨C', N', e1, e2, _, e4⟩ := (hcat y hy).ex
    obtain ⟨b1, b2, ⟨C2, N2, f1, f2, f3⟩, ⟨C3, N3, k1, k2, k3⟩, e⟩ := his y hy
    rw [hC] at e1 f1 k1
    cases e1; cases f1; cases k1
    rw [e]
    exact su_two (Y := X.suite a ((a, oe) :: pn)) rfl (pe_isE (m := n) e4 hz hfl hgi hmi hi1 hi2 hi3 hi4 hg1 f2 hd1 f3 hs1 hs2 hpl) (pe_isE (m := n) e4 hz hfl hgi hmi hi1 hi2 hi3 hi4 hg2 k2 hd2 k3 hs3 hs4 hpl2) n1 n2 hmt hgt hs5 hpl3
end
end DL
set_option Elab.async false
set_option linter.all false
set_option maxRecDepth 100000
namespace DL
open PySem PySem.Spec PyProof.Rows L2
/-! ### data in order -/
theorem alkB_ok {xs : List Da} (h : alkB xs = true) : PySem.W.AlikeAll xs ∧ PyData.depthAll xs ≤ 50 ∧ PyData.canLayAll0 xs = true := by
  unfold alkB at h
  simp only [Bool.and_eq_true, List.all_eq_true, decide_eq_true_eq] at h
  refine ⟨⟨fun x hx y hy => h.1 x hx y hy, fun x hx e => ?_⟩, h.2.2.1, h.2.2.2⟩
  have := h.2.1 x hx
  subst e
  cases this
theorem srtB_ok {xs : List Da} (h : srtB xs = true) : PySem.W.Sortable xs := by
  unfold srtB at h
  rcases Bool.or_eq_true_iff.mp h with h | h
  · refine .inl fun d hd => ?_
    have := List.all_eq_true.mp h d hd
    unfold tupD1 at this
    split at this
    · exact ⟨_, _, rfl⟩
    · cases this
  · refine .inr fun d hd => ?_
    have := List.all_eq_true.mp h d hd
    unfold othD1 at this
    split at this
    · cases this
    · cases this
    · rename_i n1 n2
      exact ⟨n1, fun xs => n2 xs⟩
theorem depth_mem {xs : List Da} {d : Da} (h : d ∈ xs) : d.depth ≤ PyData.depthAll xs := by
  induction xs with
  | nil => cases h
  | cons x xs ih =>
    simp only [PyData.depthAll]
    rcases List.mem_cons.mp h with e | h
    · subst e; omega
    · have := ih h; omega
theorem lay_mem {xs : List Da} {d : Da} (l : PyData.canLayAll0 xs = true) (h : d ∈ xs) : d.canLay0 = true := by
  induction xs with
  | nil => cases h
  | cons x xs ih =>
    simp only [PyData.canLayAll0, Bool.and_eq_true] at l
    rcases List.mem_cons.mp h with e | h
    · subst e; exact l.1
    · exact ih l.2 h
theorem minD_mem : ∀ (xs : List Da) (x : Da), PySem.W.minD x xs ∈ x :: xs
  | [], x => List.mem_cons_self
  | y :: xs, x => by
    show PySem.W.minD (if PySem.W.dataLt y x then y else x) xs ∈ _
    have := minD_mem xs (if PySem.W.dataLt y x then y else x)
    rcases List.mem_cons.mp this with e | h
    · rw [e]; split
      · exact List.mem_cons_of_mem _ List.mem_cons_self
      · exact List.mem_cons_self
    · exact List.mem_cons_of_mem _ (List.mem_cons_of_mem _ h)
theorem maxD_mem : ∀ (xs : List Da) (x : Da), PySem.W.maxD x xs ∈ x :: xs
  | [], x => List.mem_cons_self
  | y :: xs, x => by
    show PySem.W.maxD (if PySem.W.dataLt x y then y else x) xs ∈ _
    have := maxD_mem xs (if PySem.W.dataLt x y then y else x)
    rcases List.mem_cons.mp this with e | h
    · rw [e]; split
      · exact List.mem_cons_of_mem _ List.mem_cons_self
      · exact List.mem_cons_self
    · exact List.mem_cons_of_mem _ (List.mem_cons_of_mem _ h)
section
variable {X : Cx} {W : WX} {Γ : List Nat} {e : Expr} {fl : Fl} {se : SE} {pos p : Pos}
theorem Vals.at : ∀ {xs : List V} {us : List Value} {i : Nat} {u : Value}, Vals xs us → us[i]? = some u → ∃ x, xs[i]? = some x ∧ RelV x u
  | _, _, _, _, .nil, h => by simp at h
  | _, _, 0, _, .cons r t, h => by
    have := Option.some.inj h
    subst this
    exact ⟨_, rfl, r⟩
  | _, _, i + 1, _, .cons r t, h => by
    obtain ⟨x, a, b⟩ := Vals.at t (i := i) (by simpa using h)
    exact ⟨x, by simpa using a, b⟩
/-- min, max of a list or tuple of data: an item that reads so -/
def rBest (K : PySem.W.Frag) (f : Da → List Da → Da) : List V → Hp → VK → Prop := fun vs H Q => ∃ (a : Addr) (ws : List V) (x : Da) (xs : List Da), vs = [V.ref a] ∧ (SqL K H a ws ∨ SqT K H a ws) ∧ DpAll K H ws (x :: xs) ∧ alkB (x :: xs) = true ∧
  ∀ (i : Nat) (v : V), ws[i]? = some v → (x :: xs)[i]? = some (f x xs) → Q v H
theorem reads_at {h : Heap} {its : List Value} {ds : List Da} {as : List Addr} (lay : PyData.canLayAll0 ds = true) (r : ReadsAll h its ds as) {i : Nat} {v : Value} {d : Da} {bs : List Addr} (hv : its[i]? = some v) (hr : Reads h v d bs) (hd : d ∈ ds) : ds[i]? = some d := by
  have e1 := SeqAt.readsAll_map ds its as lay r
  have e2 : SeqAt.readOf h v = d := SeqAt.readOf_eq (lay_mem lay hd) hr
  rw [← e1, List.getElem?_map, hv, ← e2]
  rfl
theorem keepsAll {h h' : Heap} (k : ∀ b o, h.get? b = some o → h'.get? b = some o) : ∀ {its : List Value} {ds : List Da} {as : List Addr}, ReadsAll h its ds as → ReadsAll h' its ds as
  | _, _, _, .nil => .nil
  | _, _, _, .cons r t => .cons (PyProof.Rows.Reads.keeps k r) (keepsAll k t)
theorem cr_minG (hc : X.calm = true) (hu : X.A.units + 64 < cLine) : CallR X (.builtin "min") (rBest X.K PySem.W.minD) := by
  intro pins s σ H vs us Q I r h
  obtain ⟨a, ws, x, xs, rfl, hs, dp, ab, q⟩ := h
  obtain ⟨al, dep, lay⟩ := alkB_ok ab
  rw [Vals.ref1 r]
  rcases hs with hs | hs
  · obtain ⟨its, rv, hl, _⟩ := I.list hs
    obtain ⟨as, rd⟩ := Dp.readsAll I (x :: xs) ws its dp rv
    refine PySem.W.min_list_data (I.ok.hd hc) hl.isList rd al (by omega) fun i v h' tk bs hv hr hk => ?_
    have hv' : its[i]? = some v := by simpa using hv
    obtain ⟨w, hw, rw_⟩ := Vals.at rv hv'
    exact ⟨w, H, I.kept hk, rw_, q i w hw (reads_at lay (keepsAll hk rd) hv' hr (minD_mem xs x))⟩
  · obtain ⟨its, rv, hl, _⟩ := I.tuple hs
    obtain ⟨as, rd⟩ := Dp.readsAll I (x :: xs) ws its dp rv
    refine PySem.W.min_tuple_data (I.ok.hd hc) hl rd al (by omega) fun i v h' tk bs hv hr hk => ?_
    have hv' : its[i]? = some v := by simpa using hv
    obtain ⟨w, hw, rw_⟩ := Vals.at rv hv'
    exact ⟨w, H, I.kept hk, rw_, q i w hw (reads_at lay (keepsAll hk rd) hv' hr (minD_mem xs x))⟩
theorem cr_maxG (hc : X.calm = true) (hu : X.A.units + 64 < cLine) : CallR X (.builtin "max") (rBest X.K PySem.W.maxD) := by
  intro pins s σ H vs us Q I r h
  obtain ⟨a, ws, x, xs, rfl, hs, dp, ab, q⟩ := h
  obtain ⟨al, dep, lay⟩ := alkB_ok ab
  rw [Vals.ref1 r]
  rcases hs with hs | hs
  · obtain ⟨its, rv, hl, _⟩ := I.list hs
    obtain ⟨as, rd⟩ := Dp.readsAll I (x :: xs) ws its dp rv
    refine PySem.W.max_list_data (I.ok.hd hc) hl.isList rd al (by omega) fun i v h' tk bs hv hr hk => ?_
    have hv' : its[i]? = some v := by simpa using hv
    obtain ⟨w, hw, rw_⟩ := Vals.at rv hv'
    exact ⟨w, H, I.kept hk, rw_, q i w hw (reads_at lay (keepsAll hk rd) hv' hr (maxD_mem xs x))⟩
  · obtain ⟨its, rv, hl, _⟩ := I.tuple hs
    obtain ⟨as, rd⟩ := Dp.readsAll I (x :: xs) ws its dp rv
    refine PySem.W.max_tuple_data (I.ok.hd hc) hl rd al (by omega) fun i v h' tk bs hv hr hk => ?_
    have hv' : its[i]? = some v := by simpa using hv
    obtain ⟨w, hw, rw_⟩ := Vals.at rv hv'
    exact ⟨w, H, I.kept hk, rw_, q i w hw (reads_at lay (keepsAll hk rd) hv' hr (maxD_mem xs x))⟩
theorem best_s {mg : MG} {W : WX} {σ : L2.St} {O : List Addr} {H0 H : Hp} {fl : Fl} {v : V} {a : Da} {xs : List Da} {Q : VK} {f : Da → List Da → Da} {g : List Da → R Da} (hg0 : g [] = .bad) (hg : ∀ x xs, g (x :: xs) = if alkB (x :: xs) then .ok (f x xs) else .bad)
    (hx : Res X.K H0 H O fl v a) (ha : a = .list xs ∨ a = .tuple xs) (h : FinG mg W σ H (g xs) (PE_ X.K H O .sh Q)) : rBest X.K f [v] H Q := by
  cases xs with
  | nil => rw [hg0] at h; exact h.elim
  | cons x xs =>
    rw [hg] at h
    split at h
    · rename_i c
      have fin : ∀ {ws : List V}, RpAll X.K H O ws (x :: xs) → ∀ (i : Nat) (v : V), ws[i]? = some v → (x :: xs)[i]? = some (f x xs) → Q v H := fun r i v hv hd => by
        obtain ⟨d, e, rd⟩ := r.getV hv
        rw [hd] at e
        cases e
        exact PE_.now h rd
      rcases ha with rfl | rfl
      · obtain ⟨p, vs, rfl, s1, r1, n1⟩ := hx.list
        exact ⟨p, vs, x, xs, rfl, .inl s1, r1.dp, c, fin r1⟩
      · obtain ⟨p, vs, rfl, s1, r1, n1⟩ := hx.tuple
        exact ⟨p, vs, x, xs, rfl, .inr s1, r1.dp, c, fin r1⟩
    · exact h.elim
theorem cs_minG : CallS X (rBest X.K PySem.W.minD) .sh dMinG := by
  intro mg W σ O H0 H fls xs as Q nw hx h
  unfold dMinG at h
  split at h
  · cases hx with
    | cons h1 t => cases t; exact best_s rfl (fun _ _ => rfl) h1 (.inl rfl) h
  · cases hx with
    | cons h1 t => cases t; exact best_s rfl (fun _ _ => rfl) h1 (.inr rfl) h
  · exact h.elim
theorem cs_maxG : CallS X (rBest X.K PySem.W.maxD) .sh dMaxG := by
  intro mg W σ O H0 H fls xs as Q nw hx h
  unfold dMaxG at h
  split at h
  · cases hx with
    | cons h1 t => cases t; exact best_s rfl (fun _ _ => rfl) h1 (.inl rfl) h
  · cases hx with
    | cons h1 t => cases t; exact best_s rfl (fun _ _ => rfl) h1 (.inr rfl) h
  · exact h.elim
theorem de_minG (hc : X.calm = true) (hu : X.A.units + 64 < cLine) (m : X.mg "min" = none) (he : DE X W Γ e fl se) (hg : Gl X "min" := by show _ = _; kernel_rfl) (h1 : starEach [e] X.env = (false, eval e X.env) :: starEach [] X.env := by kernel_rfl) (h2 : (backTo pos (starEach [] X.env)).any (·.1) = false := by kernel_rfl) : DE X W Γ (.Call (.Name "min" p) [e] [] pos) .sh (eA dMinG (aCons se aNil)) :=
  de_callB (cr_minG hc hu) cs_minG hg m boot_min (da_cons he da_nil h1) (by decide) (by decide) h1 h2
theorem de_maxG (hc : X.calm = true) (hu : X.A.units + 64 < cLine) (m : X.mg "max" = none) (he : DE X W Γ e fl se) (hg : Gl X "max" := by show _ = _; kernel_rfl) (h1 : starEach [e] X.env = (false, eval e X.env) :: starEach [] X.env := by kernel_rfl) (h2 : (backTo pos (starEach [] X.env)).any (·.1) = false := by kernel_rfl) : DE X W Γ (.Call (.Name "max" p) [e] [] pos) .sh (eA dMaxG (aCons se aNil)) :=
  de_callB (cr_maxG hc hu) cs_maxG hg m boot_max (da_cons he da_nil h1) (by decide) (by decide) h1 h2
/-! sorted -/
def rSortG (K : PySem.W.Frag) : List V → Hp → VK → Prop := fun vs H Q => ∃ (a : Addr) (bs : List (V × Da)), vs = [V.ref a] ∧ SqL K H a (bs.map (·.1)) ∧ DpAll K H (bs.map (·.1)) (bs.map (·.2)) ∧ alkB (bs.map (·.2)) = true ∧ srtB (bs.map (·.2)) = true ∧
  ∀ p, H p = none → Q (.ref p) (upd H p (.lst ((bs.mergeSort (PySem.W.dataLe false (·.2))).map (·.1))))
theorem each_vals : ∀ {bs : List (V × Da)} {its : List Value}, Vals (bs.map (·.1)) its → PySem.W.EachIs (fun u b => RelV b.1 u) its bs
  | [], _, h => by cases h; exact .nil
  | b :: bs, _, h => by
    rw [List.map_cons] at h
    cases h with
    | cons r t => exact .cons r (each_vals t)
theorem vals_each : ∀ {bs : List (V × Da)} {its : List Value}, PySem.W.EachIs (fun u b => RelV b.1 u) its bs → Vals (bs.map (·.1)) its
  | _, _, .nil => .nil
  | _, _, .cons r t => .cons r (vals_each t)
theorem each_reads {h : Heap} : ∀ {bs : List (V × Da)} {its : List Value} {as : List Addr}, ReadsAll h its (bs.map (·.2)) as → PySem.W.EachIs (fun u b => ∃ as, Reads h u b.2 as) its bs
  | [], _, _, h => by cases h; exact .nil
  | b :: bs, _, _, h => by
    rw [List.map_cons] at h
    cases h with
    | cons r t => exact .cons ⟨_, r⟩ (each_reads t)
theorem cr_sortG (hu : X.A.units + 64 < cLine) : CallR X (.builtin "sorted") (rSortG X.K) := by
  intro pins s σ H vs us Q I r h
  obtain ⟨a, bs, rfl, hs, dp, ab, sb, q⟩ := h
  obtain ⟨al, dep, lay⟩ := alkB_ok ab
  rw [Vals.ref1 r]
  obtain ⟨its, rv, hl, hz⟩ := I.list hs
  obtain ⟨as, rd⟩ := Dp.readsAll I (bs.map (·.2)) _ its dp rv
  rw [List.length_map] at hz
  refine PySem.W.sorted_data (enc := fun b : V × Da => b.2) hl.isList (each_vals rv) (each_reads rd) (fun d hd d' hd' => al.1 d hd d' hd') (srtB_ok sb) hz (fun b hb => by
    have := depth_mem (List.mem_map.mpr ⟨b, hb, rfl⟩ : b.2 ∈ bs.map (·.2))
    omega) fun out ho eo => ?_
  obtain ⟨ep, he'⟩ := PyProof.Rows.sortedAll_at s.heap its out.toArray
  have hlen : ((bs.mergeSort (PySem.W.dataLe false (·.2))).map (·.1)).length ≤ sizeLine := by
    rw [List.length_map, List.length_mergeSort]
    exact hz
  exact ⟨.ref _, upd H (s.heap.objs.size + 1) (.lst ((bs.mergeSort (PySem.W.dataLe false (·.2))).map (·.1))), I.laid (t' := s.toks) (fun _ _ => PyProof.Rows.sortedAll_old) (Nat.le_succ _) ⟨hlen, out, ep, vals_each eo, he'⟩, rfl, q _ (I.hok.fresh (Nat.le_succ _))⟩
theorem RpAll.zip {K : PySem.W.Frag} {H : Hp} {O : List Addr} : ∀ {vs : List V} {ds : List Da}, RpAll K H O vs ds → ∃ bs : List (V × Da), vs = bs.map (·.1) ∧ ds = bs.map (·.2) ∧ ∀ b, b ∈ bs → Rp K H O b.1 b.2
  | _, _, .nil => ⟨[], rfl, rfl, fun _ h => nomatch h⟩
  | _, _, .cons (v := v) (d := d) h t => by
    obtain ⟨bs, e1, e2, e3⟩ := RpAll.zip t
    subst e1 e2
    exact ⟨(v, d) :: bs, rfl, rfl, fun b hb => by
      rcases List.mem_cons.mp hb with e | hb
      · subst e; exact h
      · exact e3 b hb⟩
theorem RpAll.unzip {K : PySem.W.Frag} {H : Hp} {O : List Addr} : ∀ {bs : List (V × Da)}, (∀ b, b ∈ bs → Rp K H O b.1 b.2) → RpAll K H O (bs.map (·.1)) (bs.map (·.2))
  | [], _ => .nil
  | b :: bs, h => .cons (h b List.mem_cons_self) (RpAll.unzip fun c hc => h c (List.mem_cons_of_mem _ hc))
theorem cs_sortG : CallS X (rSortG X.K) .fr dSortG := by
  intro mg W σ O H0 H fls xs as Q nw hx h
  unfold dSortG at h
  split at h
  · cases hx with
    | cons h1 t =>
      cases t
      obtain ⟨p, vs, rfl, s1, r1, n1⟩ := h1.list
      split at h
      · rename_i c
        obtain ⟨c1, c2⟩ := Bool.and_eq_true_iff.mp c
        obtain ⟨bs, e1, e2, e3⟩ := r1.zip
        subst e1 e2
        refine ⟨p, bs, rfl, s1, r1.dp, c1, c2, fun q hq => ?_⟩
        have em : (bs.mergeSort (PySem.W.dataLe false (·.2))).map (·.2) = (bs.map (·.2)).mergeSort (PySem.W.dataLe false id) := List.map_mergeSort fun a _ b _ => rfl
        have r2 : RpAll X.K H O ((bs.mergeSort (PySem.W.dataLe false (·.2))).map (·.1)) ((bs.map (·.2)).mergeSort (PySem.W.dataLe false id)) := by
          rw [← em]
          exact RpAll.unzip fun b hb => e3 b ((List.mergeSort_perm _ _).mem_iff.mp hb)
        exact PE_.newL h r2 (by rw [List.length_mergeSort]; exact n1) hq (nw q hq)
      · exact h.elim
  · exact h.elim
theorem de_sortG (hu : X.A.units + 64 < cLine) (m : X.mg "sorted" = none) (he : DE X W Γ e fl se) (hg : Gl X "sorted" := by show _ = _; kernel_rfl) (h1 : starEach [e] X.env = (false, eval e X.env) :: starEach [] X.env := by kernel_rfl) (h2 : (backTo pos (starEach [] X.env)).any (·.1) = false := by kernel_rfl) : DE X W Γ (.Call (.Name "sorted" p) [e] [] pos) .fr (eA dSortG (aCons se aNil)) :=
  de_callB (cr_sortG hu) cs_sortG hg m boot_sorted (da_cons he da_nil h1) (by decide) (by decide) h1 h2
/-! comparisons -/
def rCmpG (K : PySem.W.Frag) (f : Da → Da → Bool) : R2 := fun x y H Q => ∃ d e, Dp K H x d ∧ Dp K H y e ∧ alkB [d, e] = true ∧ Q (.bl (f d e)) H
theorem alk2 {a b : Da} (h : alkB [a, b] = true) : PySem.W.alike a b = true ∧ a ≠ .none ∧ min a.depth b.depth ≤ 50 := by
  obtain ⟨⟨h1, h2⟩, h3, _⟩ := alkB_ok h
  have := depth_mem (xs := [a, b]) (d := a) List.mem_cons_self
  exact ⟨h1 a List.mem_cons_self b (List.mem_cons_of_mem _ List.mem_cons_self), h2 a List.mem_cons_self, by omega⟩
theorem op_ltG (hu : X.A.units + 64 < cLine) : OpR X (compareOp .Lt) (rCmpG X.K fun a b => PySem.W.dataLt a b) := by
  intro pins s σ H x y v u Q I rx ry h
  obtain ⟨d, e, hd, he, ab, q⟩ := h
  obtain ⟨as, r1⟩ := Dp.reads I d x v hd rx
  obtain ⟨bs, r2⟩ := Dp.reads I e y u he ry
  obtain ⟨a1, a2, a3⟩ := alk2 ab
  exact PySem.W.lt_data r1 r2 a1 a2 (by omega) ⟨.bl _, H, I, rfl, q⟩
theorem op_gtG (hu : X.A.units + 64 < cLine) : OpR X (compareOp .Gt) (rCmpG X.K fun a b => PySem.W.dataLt b a) := by
  intro pins s σ H x y v u Q I rx ry h
  obtain ⟨d, e, hd, he, ab, q⟩ := h
  obtain ⟨as, r1⟩ := Dp.reads I d x v hd rx
  obtain ⟨bs, r2⟩ := Dp.reads I e y u he ry
  obtain ⟨a1, a2, a3⟩ := alk2 ab
  exact PySem.W.gt_data r1 r2 a1 a2 (by omega) ⟨.bl _, H, I, rfl, q⟩
theorem op_leG (hu : X.A.units + 64 < cLine) : OpR X (compareOp .LtE) (rCmpG X.K fun a b => !PySem.W.dataLt b a) := by
  intro pins s σ H x y v u Q I rx ry h
  obtain ⟨d, e, hd, he, ab, q⟩ := h
  obtain ⟨as, r1⟩ := Dp.reads I d x v hd rx
  obtain ⟨bs, r2⟩ := Dp.reads I e y u he ry
  obtain ⟨a1, a2, a3⟩ := alk2 ab
  exact PySem.W.le_data r1 r2 a1 a2 (by omega) ⟨.bl _, H, I, rfl, q⟩
theorem op_geG (hu : X.A.units + 64 < cLine) : OpR X (compareOp .GtE) (rCmpG X.K fun a b => !PySem.W.dataLt a b) := by
  intro pins s σ H x y v u Q I rx ry h
  obtain ⟨d, e, hd, he, ab, q⟩ := h
  obtain ⟨as, r1⟩ := Dp.reads I d x v hd rx
  obtain ⟨bs, r2⟩ := Dp.reads I e y u he ry
  obtain ⟨a1, a2, a3⟩ := alk2 ab
  exact PySem.W.ge_data r1 r2 a1 a2 (by omega) ⟨.bl _, H, I, rfl, q⟩
theorem os_cmpG {f : Da → Da → Bool} {g : Da → Da → R Da} (hg : ∀ a b, g a b = if alkB [a, b] then .ok (.bool (f a b)) else .bad) : OpS X (rCmpG X.K f) .fr g := by
  intro mg W σ O H0 H x y a b Q nw hx hy h
  rw [hg] at h
  split at h
  · rename_i c
    exact ⟨a, b, hx.dp, hy.dp, c, PE_.flat h (.bl _) rfl⟩
  · exact h.elim
theorem os_ltG : OpS X (rCmpG X.K fun a b => PySem.W.dataLt a b) .fr dLtG := os_cmpG fun _ _ => rfl
theorem os_gtG : OpS X (rCmpG X.K fun a b => PySem.W.dataLt b a) .fr dGtG := os_cmpG fun _ _ => rfl
theorem os_leG : OpS X (rCmpG X.K fun a b => !PySem.W.dataLt b a) .fr dLeG := os_cmpG fun _ _ => rfl
theorem os_geG : OpS X (rCmpG X.K fun a b => !PySem.W.dataLt a b) .fr dGeG := os_cmpG fun _ _ => rfl
theorem bl_G {f : Da → Da → Bool} {g : Da → Da → R Da} (hg : ∀ a b, g a b = if alkB [a, b] then .ok (.bool (f a b)) else .bad) (x y z : Da) (h : g x y = .ok z) : ∃ k, z = .bool k := by
  rw [hg] at h
  split at h
  · cases h; exact ⟨_, rfl⟩
  · cases h
theorem bl_ltG (x y z : Da) (h : dLtG x y = .ok z) : ∃ k, z = .bool k := bl_G (f := fun a b => PySem.W.dataLt a b) (g := dLtG) (fun _ _ => rfl) x y z h
theorem bl_gtG (x y z : Da) (h : dGtG x y = .ok z) : ∃ k, z = .bool k := bl_G (f := fun a b => PySem.W.dataLt b a) (g := dGtG) (fun _ _ => rfl) x y z h
theorem bl_leG (x y z : Da) (h : dLeG x y = .ok z) : ∃ k, z = .bool k := bl_G (f := fun a b => !PySem.W.dataLt b a) (g := dLeG) (fun _ _ => rfl) x y z h
theorem bl_geG (x y z : Da) (h : dGeG x y = .ok z) : ∃ k, z = .bool k := bl_G (f := fun a b => !PySem.W.dataLt a b) (g := dGeG) (fun _ _ => rfl) x y z h
end
end DL
set_option Elab.async false
set_option linter.all false
set_option maxRecDepth 100000
namespace DL
open PySem PySem.Spec PyProof.Rows L2
/-! ### e[::-1] -/
section
variable {prog : Program} {w : World} {A : Around} {E : Value → Shared → Prop} {s : Shared}
theorem adjust_back (n : Nat) : Builtin.Slice.sliceAdjust none none (-1) (n : Int) = ((n : Int) - 1, -1) := by
  first | rfl | simp [Builtin.Slice.sliceAdjust]
theorem places_back (n : Nat) : Builtin.Slice.slicePlaces ((n : Int) - 1) (-1) (-1) = n := by
  unfold Builtin.Slice.slicePlaces
  simp
  omega
theorem applied_back {sl : Addr} {t : Tok} {n : Nat} {Q : Int × Int × Nat → Shared → Prop} (hs : s.heap.IsSliceOf sl .none .none (.int (-1) t))
    (h : Q ((n : Int) - 1, -1, n) s) : wpAny (model prog w) A (Builtin.Slice.sliceApplied (.ref sl) (pure (n : Int))) Q E s := by
  obtain ⟨os, hos, hcs, hds⟩ := hs
  unfold Builtin.Slice.sliceApplied
  unfold Builtin.Slice.sliceFields
  refine wpAny_bind ?_
  refine wpAny_bind (wpAny_field hos hds (x := .none) rfl ?_)
  refine wpAny_bind (wpAny_field hos hds (x := .none) rfl ?_)
  refine wpAny_bind (wpAny_field hos hds (x := .int (-1) t) rfl (wpAny_pure ?_))
  refine wpAny_bind (slicePart_int ?_)
  show wpAny _ _ (if ((-1 : Int) == 0) = true then _ else _) _ _ s
  rw [if_neg (by decide)]
  refine wpAny_bind (slicePart_none (wpAny_bind (slicePart_none (wpAny_bind (wpAny_pure ?_)))))
  show wpAny _ _ (match Builtin.Slice.sliceAdjust none none (-1) (n : Int) with | (lo, hi) => pure (lo, (-1 : Int), Builtin.Slice.slicePlaces lo hi (-1))) _ _ s
  rw [adjust_back n]
  show wpAny _ _ (pure (((n : Int) - 1), (-1 : Int), Builtin.Slice.slicePlaces ((n : Int) - 1) (-1) (-1))) _ _ s
  rw [places_back]
  exact wpAny_pure h
theorem pick_back (xs : Array Value) : ((List.range xs.size).filterMap fun (m : Nat) => xs[(((xs.size : Int) - 1) + (m : Int) * -1).toNat]?).toArray = xs.toList.reverse.toArray := by
  have e : (List.range xs.size).filterMap (fun (m : Nat) => xs[(((xs.size : Int) - 1) + (m : Int) * -1).toNat]?) = ((List.range xs.size).map fun k => xs.size - 1 - k).filterMap (xs[·]?) := by
    rw [List.filterMap_map]
    congr 1
    funext m
    show xs[(((xs.size : Int) - 1) + (m : Int) * -1).toNat]? = xs[xs.size - 1 - m]?
    congr 1
    omega
  rw [e, PySem.W.krv_range, List.filterMap_reverse, PySem.W.krv_all]
theorem getItem_tuple_back {t sl : Addr} {items : Array Value} {tk : Tok} {Q : Value → Shared → Prop} (ht : IsTup s.heap t items) (hs : s.heap.IsSliceOf sl .none .none (.int (-1) tk))
    (h : Q (.ref s.heap.objs.size) { s with heap := s.heap.push { cls := .type "tuple", data := .seq items.toList.reverse.toArray } }) (hsz : items.size ≤ sizeLine) : wpAny (model prog w) A (getItem (.ref t) (.ref sl)) Q E s := by
  have hok : sizeOk (.seq items.toList.reverse.toArray) := by
    show items.toList.reverse.toArray.size ≤ sizeLine
    simpa using hsz
  obtain ⟨os, hos, hcs, hds⟩ := id hs
  have hT : s.TypeIs (.ref sl) "slice" := ⟨os, hos, hcs⟩
  unfold getItem
  try with_reducible refine wpAny_holding ?_
  first | refine wpAny_bind (wpAny_pure ?_) | skip
  refine wpAny_bind (wpAny_sequenceKey ht.typeIs (by decide) ?_)
  have se := PyProof.Rows.slot_tuple_getitem
  refine wpAny_bind (wpAny_callSpecial?_slot (name := Str.ofString "__getitem__") ht.typeIs se (wpAny_call_entry se ht.typeIs entry_tuple_getitem ?_ (args_tuple_getitem _ _)))
  show wpAny _ _ (Builtin.Tuple.tupleItemsOf (.ref t) >>= _) _ _ s
  refine wpAny_bind (tupleItemsOf_ ht (wpAny_bind (wpAny_typeOf hT ?_)))
  rw [if_pos (by decide)]
  refine wpAny_bind (applied_back hs ?_)
  show wpAny _ _ (if (((items.size : Int) - 1) == 0 && (-1 : Int) == 1 && items.size == items.size) = true then _ else _) _ _ s
  rw [if_neg (by simp), pick_back]
  first
    | exact wpAny_bind (m := Builtin.Tuple.tupleExact _) (wpAny_newObj_type (wpAny_pure ⟨_, rfl, wpAny_pure h⟩) hok)
    | exact wpAny_bind (m := Builtin.Tuple.tupleExact _) (wpAny_newObj_type (wpAny_bind (wpAny_pure (wpAny_pure ⟨_, rfl, wpAny_pure h⟩))) hok)
    | exact wpAny_bind (wpAny_bind (m := Builtin.Tuple.tupleExact _) (wpAny_newObj_type (wpAny_pure (wpAny_pure ⟨_, rfl, wpAny_pure h⟩)) hok))
    | exact wpAny_bind (wpAny_bind (m := Builtin.Tuple.tupleExact _) (wpAny_newObj_type (wpAny_pure ⟨_, rfl, wpAny_pure h⟩) hok))
end
section
variable {X : Cx} {W : WX} {Γ : List Nat} {e : Expr} {fl : Fl} {se : SE} {pos p p1 p2 p3 : Pos} {k : Nat}
/-- e[::-1], e a list or a tuple -/
def tRevA (K : PySem.W.Frag) (te : TE) : TE := fun σ H Q => te σ H fun x H1 => ∃ a xs, x = .ref a ∧
  ((SqL K H1 a xs ∧ ∀ q, H1 q = none → Q (.ref q) (upd H1 q (.lst xs.reverse))) ∨ (SqT K H1 a xs ∧ ∀ q, H1 q = none → Q (.ref q) (upd H1 q (.tup xs.reverse))))
theorem pe_revA {te : TE} (he : PE X e te) : PE X (.Subscript e (.Slice none none (some (.UnaryOp .USub (.Constant (.int 1) k p1) p2)) p3) pos) (tRevA X.K te) := by
  refine ⟨fun pins s σ H Q I h => Subscript_ (thn (he.run pins s σ H _ I h) fun v s1 ⟨x, H1, I1, r1, a, xs, ex, q⟩ => ?_)⟩
  subst ex
  cases r1
  have minus : PO X (some (.UnaryOp .USub (.Constant (.int 1) k p1) p2)) (tPart (tUn (rU fun i => .int (-i)) (tC (.int 1)))) := po_some (pe_un un_neg pe_int)
  have no1 := po_none.run pins s1 σ H1 (fun o H2 => o = none ∧ H2 = H1) I1 ⟨rfl, rfl⟩
  refine wpAny_Slice (thn no1 ?_)
  rintro vl s2 ⟨l, H2, I2, pl, rfl, rfl⟩
  have no2 := po_none.run pins s2 σ H2 (fun o H3 => o = none ∧ H3 = H2) I2 ⟨rfl, rfl⟩
  refine thn no2 ?_
  rintro vu s3 ⟨u, H3, I3, pu, rfl, rfl⟩
  have st := minus.run pins s3 σ H3 (fun o H4 => o = some (-1) ∧ H4 = H3) I3 ⟨1, rfl, -1, rfl, rfl, rfl⟩
  refine thn st ?_
  rintro vs s4 ⟨o, H4, I4, ps, rfl, rfl⟩
  have I5 : Inv X pins σ H4 { s4 with heap := s4.heap.push { cls := .type "slice", data := .fields #[vl, vu, vs] } } := I4.kept (t' := s4.toks) fun b ob q => Heap.get?_push_of_some _ q
  show wpAny (model X.prog X.w) X.A (subscriptTail e (.Slice none none (some (.UnaryOp .USub (.Constant (.int 1) k p1) p2)) p3) (.ref a) (.ref s4.heap.objs.size)) (EP X pins σ Q) X.xe { s4 with heap := s4.heap.push { cls := .type "slice", data := .fields #[vl, vu, vs] } }
  rcases q with ⟨hx, q⟩ | ⟨hx, q⟩
  · obtain ⟨its, r, ht, hz⟩ := I5.list hx
    have hlen := r.length
    refine tail_any (ops := [.ref a, .ref s4.heap.objs.size]) ht.isList.typeIs PySem.slot_list_getitem.lookup ?_ (by with_unfolding_all rfl)
    refine wpAny_getItem_list_slice ht.isList (Heap.IsSliceOf.new _ vl vu vs) pl pu ps (by decide) ?_ (by rw [List.size_toArray]; omega)
    rw [PySem.W.krv_pick]
    exact ⟨.ref _, _, I5.laid (t' := s4.toks) (o := .lst xs.reverse) (fun b ob q => Heap.get?_push_of_some _ q) (Nat.le_refl _) ⟨by rw [List.length_reverse]; exact hz, _, 0, r.reverse, Heap.get?_push_size _ rfl⟩, rfl, q _ (I5.hok.fresh (Nat.le_refl _))⟩
  · obtain ⟨its, r, ht, hz⟩ := I5.tuple hx
    have hlen := r.length
    cases pl
    cases pu
    cases ps
    refine tail_any (ops := [.ref a, .ref s4.heap.objs.size]) ht.typeIs PyProof.Rows.slot_tuple_getitem.lookup ?_ (by with_unfolding_all rfl)
    refine getItem_tuple_back ht (Heap.IsSliceOf.new _ _ _ _) ?_ (by rw [List.size_toArray]; omega)
    exact ⟨.ref _, _, I5.laid (t' := s4.toks) (o := .tup xs.reverse) (fun b ob q => Heap.get?_push_of_some _ q) (Nat.le_refl _) ⟨by rw [List.length_reverse]; exact hz, _, r.reverse, IsTup.new _ _⟩, rfl, q _ (I5.hok.fresh (Nat.le_refl _))⟩
theorem de_rev (he : DE X W Γ e fl se) : DE X W Γ (.Subscript e (.Slice none none (some (.UnaryOp .USub (.Constant (.int 1) k p1) p2)) p3) pos) .fr (e1 dRev se) :=
  pe_imp (pe_revA he) fun σ H Q h => by
    obtain ⟨ρ, F, GO, E, h⟩ := h
    refine at_e E h fun d v H1 s1 r1 E1 h1 => ?_
    cases d with
    | list ds =>
      obtain ⟨q, vs, rfl, sq, r, n⟩ := r1.list
      have h2 : FinG X.mg W σ H1 (R.ok (PyData.list ds.reverse)) (PE_ X.K H (Ads GO ++ F) .fr Q) := h1
      exact ⟨q, vs, rfl, .inl ⟨sq, fun t ht => PE_.newL (K := X.K) (Q := Q) (O := Ads GO ++ F) (PE_.mono s1 h2) r.reverse (by rw [List.length_reverse]; exact n) ht (E1.fresh t ht)⟩⟩
    | tuple ds =>
      obtain ⟨q, vs, rfl, sq, r, n⟩ := r1.tuple
      have h2 : FinG X.mg W σ H1 (R.ok (PyData.tuple ds.reverse)) (PE_ X.K H (Ads GO ++ F) .fr Q) := h1
      exact ⟨q, vs, rfl, .inr ⟨sq, fun t ht => PE_.newT (PE_.mono s1 h2) r.reverse (by rw [List.length_reverse]; exact n) ht⟩⟩
    | none => exact h1.elim
    | bool _ => exact h1.elim
    | int _ => exact h1.elim
    | str _ => exact h1.elim
    | dict _ => exact h1.elim
end
end DL
set_option Elab.async false
set_option linter.all false
set_option maxRecDepth 100000
namespace DL
open PySem PySem.Spec PyProof.Rows L2

/-- the own slots behind it -/
def oAdd (o : Bool) (i : Nat) (Γ : List Nat) : List Nat := match o with | true => i :: Γ | false => Γ
def flO (o : Bool) (fl : Fl) : Bool := match o, fl with | true, .fr => true | true, _ => false | false, .bo => false | false, _ => true

section
variable {X : Cx} {W : WX} {Γ Γ' : List Nat} {e1 e2 : Expr} {fa fb : Fl} {sa sb : SE}
theorem Own.perm {K : PySem.W.Frag} {H : Hp} {O O' : List Addr} {p : Addr} {d : Da} (hO : ∀ b, b ∈ O' → b ∈ O) (h : Own K H O p d) : Own K H O' p d := h.mono (.sub_ (.refl H) hO) List.not_mem_nil
/-- the first part is owned, the second runs above it -/
theorem par_s {oi oj : Bool} {i j : Nat} (hi : Γ.contains i = false) (hj : Γ.contains j = false) (hij : i ≠ j) (fa' : flO oi fa = true) (fb' : flO oj fb = true) {D : Ends} {σ : L2.St} {H : Hp}
    (h : tDS X.K X.mg W Γ (oAdd oj j (oAdd oi i Γ)) (sPr oi oj i j sa sb) D σ H) : tPar i j (tCons (tDE X.K X.mg W Γ fa sa) (tCons (tDE X.K X.mg W Γ fb sb) tNil)) D σ H := by
  obtain ⟨ρ, F, GO, E, h⟩ := h
  have hi' : i ∉ Γ := fun z => by rw [List.contains_iff_mem.mpr z] at hi; cases hi
  have hj' : j ∉ Γ := fun z => by rw [List.contains_iff_mem.mpr z] at hj; cases hj
  refine ⟨ρ, F, GO, E, FinG.imp (FinS.ofG h) fun d1 _ h1 v H1 s1 r1 => ?_⟩
  have E1 := E.mono s1
  cases oi with
  | true =>
    cases fa with
    | fr =>
      cases d1 with
      | list ds1 =>
        obtain ⟨p1, rfl, hp1, ho1⟩ := r1.2 ds1 rfl
        obtain ⟨o1, ho1', _⟩ := ho1.mut
        have EU := E.under hp1 s1 (by rw [ho1']; exact fun z => nomatch z)
        have h1 : FinS X.K X.mg W (oAdd oj j (i :: Γ)) F GO H ((sb ρ).bind fun y => (asO oj y).bind fun y => if i < ρ.length ∧ j < ρ.length then .ok (.nx ((ρ.set i (some (.list ds1))).set j (some y))) else .bad) D := h1
        have h1' := FinS.later (GO1 := GO) (.of_same s1) same_new h1
        refine ⟨ρ, p1 :: F, GO, EU, FinG.imp (FinS.ofG h1') fun d2 e2 _ w H2 s2 r2 => ⟨.ref p1, w, rfl, ?_⟩⟩
        have s12 := s1.trans s2
        have subs : ∀ b, b ∈ Ads ((i, p1) :: GO) ++ F → b ∈ Ads GO ++ (p1 :: F) := fun b hb => by
          rcases List.mem_cons.mp hb with e | hb
          · subst e; exact List.mem_append_right _ List.mem_cons_self
          · rcases List.mem_append.mp hb with hb | hb
            · exact List.mem_append_left _ hb
            · exact List.mem_append_right _ (List.mem_cons_of_mem _ hb)
        have hjΓ : j ∉ i :: Γ := fun z => by
          rcases List.mem_cons.mp z with e | z
          · exact hij e.symm
          · exact hj' z
        rw [e2] at h1
        cases oj with
        | true =>
          cases fb with
          | fr =>
            cases d2 with
            | list ds2 =>
              obtain ⟨p2, rfl, hp2, ho2⟩ := r2.2 ds2 rfl
              have h3 : FinS X.K X.mg W (j :: i :: Γ) F GO H (if i < ρ.length ∧ j < ρ.length then .ok (.nx ((ρ.set i (some (.list ds1))).set j (some (.list ds2)))) else .bad) D := h1
              split at h3
              · rename_i hl
                have EA := E.setO s1 hi' hl.1 hp1 ho1
                have EB := EA.setO s2 (i := j) (p := p2) (d := .list ds2) hjΓ (by rw [List.length_set]; exact hl.2) hp2 (ho2.perm fun b hb => by
                  rcases List.mem_cons.mp hb with e | hb
                  · subst e; exact List.mem_cons_self
                  · exact List.mem_cons_of_mem _ (subs b hb))
                exact h3 _ H2 _ EB (.of_same s12) (fun b hb => by
                  rcases List.mem_cons.mp hb with e | hb
                  · subst e; exact .inr (s1.free hp2)
                  · rcases List.mem_cons.mp hb with e | hb
                    · subst e; exact .inr hp1
                    · exact .inl hb)
              · exact h3.elim
            | _ => exact h1.elim
          | _ => cases fb'
        | false =>
          have rw' : Rp X.K H2 (Ads GO ++ (p1 :: F)) w d2 := by
            cases fb with
            | bo => cases fb'
            | sh => exact r2
            | fr => exact r2.1
          have h3 : FinS X.K X.mg W (i :: Γ) F GO H (if i < ρ.length ∧ j < ρ.length then .ok (.nx ((ρ.set i (some (.list ds1))).set j (some d2))) else .bad) D := h1
          split at h3
          · rename_i hl
            have EA := (E.setO s1 hi' hl.1 hp1 ho1).mono s2
            have EB := EA.setS (i := j) hjΓ (rw'.mono (.sub_ (.refl H2) subs))
            exact h3 _ H2 _ EB (.of_same s12) (fun b hb => by
              rcases List.mem_cons.mp hb with e | hb
              · subst e; exact .inr hp1
              · exact .inl hb)
          · exact h3.elim
      | _ => exact h1.elim
    | _ => cases fa'
  | false =>
    have rv : Rp X.K H1 (Ads GO ++ F) v d1 := by
      cases fa with
      | bo => cases fa'
      | sh => exact r1
      | fr => exact r1.1
    have h1 : FinS X.K X.mg W (oAdd oj j Γ) F GO H ((sb ρ).bind fun y => (asO oj y).bind fun y => if i < ρ.length ∧ j < ρ.length then .ok (.nx ((ρ.set i (some d1)).set j (some y))) else .bad) D := h1
    have h1' := FinS.later (GO1 := GO) (.of_same s1) same_new h1
    refine ⟨ρ, F, GO, E1, FinG.imp (FinS.ofG h1') fun d2 e2 _ w H2 s2 r2 => ⟨v, w, rfl, ?_⟩⟩
    have s12 := s1.trans s2
    rw [e2] at h1
    cases oj with
    | true =>
      cases fb with
      | fr =>
        cases d2 with
        | list ds2 =>
          obtain ⟨p2, rfl, hp2, ho2⟩ := r2.2 ds2 rfl
          have h3 : FinS X.K X.mg W (j :: Γ) F GO H (if i < ρ.length ∧ j < ρ.length then .ok (.nx ((ρ.set i (some d1)).set j (some (.list ds2)))) else .bad) D := h1
          split at h3
          · rename_i hl
            have EA := E1.setS hi' rv
            have EB := EA.setO s2 (i := j) (p := p2) (d := .list ds2) hj' (by rw [List.length_set]; exact hl.2) hp2 ho2
            exact h3 _ H2 _ EB (.of_same s12) (fun b hb => by
              rcases List.mem_cons.mp hb with e | hb
              · subst e; exact .inr (s1.free hp2)
              · exact .inl hb)
          · exact h3.elim
        | _ => exact h1.elim
      | _ => cases fb'
    | false =>
      have rw' : Rp X.K H2 (Ads GO ++ F) w d2 := by
        cases fb with
        | bo => cases fb'
        | sh => exact r2
        | fr => exact r2.1
      have h3 : FinS X.K X.mg W Γ F GO H (if i < ρ.length ∧ j < ρ.length then .ok (.nx ((ρ.set i (some d1)).set j (some d2))) else .bad) D := h1
      split at h3
      · exact h3 _ H2 _ ((E1.setS hi' rv).mono s2 |>.setS hj' rw') (.of_same s12) same_new
      · exact h3.elim
/-- a, b = x, y -/
theorem ds_par {oi oj : Bool} {i j : Nat} {x y : Str} {px py pt pos : Pos} {kt k2 pt2} (hc : X.calm = true) (hN : X.N.Nodup) (hxi : X.N[i]? = some x) (hyj : X.N[j]? = some y) (hij : i ≠ j)
    (hx : X.env.scope.names.lookup x = some .local) (hy : X.env.scope.names.lookup y = some .local) (hi : Γ.contains i = false) (hj : Γ.contains j = false)
    (ha : DE X W Γ e1 fa sa) (hb : DE X W Γ e2 fb sb) (fa' : flO oi fa = true) (fb' : flO oj fb = true)
    (hw : swappedStores [.Tuple [.Name x px, .Name y py] kt pt] (.Tuple [e1, e2] k2 pt2) X.env = pure (some [x, y]) := by kernel_rfl)
    (hs : swapsWithSole [.Tuple [.Name x px, .Name y py] kt pt] (.Tuple [e1, e2] k2 pt2) pos.line X.env = pure false := by kernel_rfl)
    (h1 : starEach [e1, e2] X.env = (false, eval e1 X.env) :: starEach [e2] X.env := by kernel_rfl) (h2 : starEach [e2] X.env = (false, eval e2 X.env) :: starEach [] X.env := by kernel_rfl) :
    DS X W Γ (.Assign [.Tuple [.Name x px, .Name y py] kt pt] (.Tuple [e1, e2] k2 pt2) pos) (oAdd oj j (oAdd oi i Γ)) (sPr oi oj i j sa sb) :=
  ps_imp (ps_par hc hN hxi hyj hij hx hy (pa_cons ha (pa_cons hb pa_nil h2) h1) hw hs) fun D σ H h => par_s hi hj hij fa' fb' h
end
end DL
set_option Elab.async false
set_option linter.all false
set_option maxRecDepth 100000
namespace DL
open PySem PySem.Spec PyProof.Rows L2

def locB (sc : Scope) (x : Str) : Bool := match sc.names.lookup x with
  | some .local => true
  | some .cell => true
  | _ => false
theorem locK {sc : Scope} {x : Str} (h : locB sc x = true) : Loc sc x := by
  unfold locB at h
  split at h
  · exact .inl (by assumption)
  · exact .inr (by assumption)
  · cases h
theorem glK {X : Cx} {x : Str} (h : X.env.kindOf x = some .globalImplicit) : Gl X x := h
def lclB (sc : Scope) (x : Str) : Bool := match sc.names.lookup x with
  | some .local => true
  | _ => false
theorem fnK {X : Cx} {x : Str} (h : (X.fn x || lclB X.env.scope x) = true) : X.fn x = true ∨ X.env.scope.names.lookup x = some .local := by
  rcases Bool.or_eq_true_iff.mp h with h | h
  · exact .inl h
  · refine .inr ?_
    unfold lclB at h
    split at h
    · assumption
    · cases h
theorem bt_int : bootBuiltins "int" = some (.type "int") := by decide +kernel
theorem bt_bool : bootBuiltins "bool" = some (.type "bool") := by decide +kernel
theorem bt_str : bootBuiltins "str" = some (.type "str") := by decide +kernel
theorem bt_tuple : bootBuiltins "tuple" = some (.type "tuple") := by decide +kernel
theorem bt_list : bootBuiltins "list" = some (.type "list") := by decide +kernel
theorem bt_dict : bootBuiltins "dict" = some (.type "dict") := by decide +kernel

section
variable {X : Cx} {W : WX} {Γ Γ' Γ1 : List Nat} {e a b c d : Expr} {es : List Expr} {fls : List Fl} {fl fa fb fc : Fl} {se sa sb sc : SE} {pos p p2 p3 : Pos}
section
variable {elt tg iter : Expr} {ifs : List Expr} {scope : Scope} {own : List (Str × Nat)} {si : SI} {is : List Nat} {g : STg} {ct : SE}
theorem ds_setLcS {i : Nat} {y : Str} {py : Pos} {spos : Pos} (hc : X.calm = true) (hN : X.N.Nodup) (hy : X.N[i]? = some y) (hyl : X.env.scope.names.lookup y = some .local) (hΓ : Γ.contains i = false)
    (hsw : swapsWith (.ListComp elt [⟨tg, iter, ifs, 0⟩] scope pos) (some (.Name y py)) spos.line X.env = pure true) (hi : DI X W Γ tg iter false si) (ok : BlkOk X.N X.env.scope scope own)
    (hown : (own.map (·.2)).all (fun i => !Γ.contains i) = true) (his : is.all (fun i => (own.map (·.2)).contains i) = true)
    (hg : ∀ (s : Shared) (H : Hp) (C : Addr) (cl : List (Str × Addr)) (fp : List Addr), DG (X.blk s H scope (compEnvC scope cl C X.env) fp) Γ tg is g)
    (ht : ∀ (s : Shared) (H : Hp) (C : Addr) (cl : List (Str × Addr)) (fp : List Addr), DTs (X.blk s H scope (compEnvC scope cl C X.env) fp) W0 Γ ifs ct)
    (he : ∀ (s : Shared) (H : Hp) (C : Addr) (cl : List (Str × Addr)) (fp : List Addr), DE (X.blk s H scope (compEnvC scope cl C X.env) fp) W0 Γ elt fl se) (hf : storable [fl] = true := by kernel_rfl)
    (hs : ∀ x, foldedSetIterable iter X.env x = pure x := by intro _; rfl) :
    DS X W Γ (.Assign [.Name y py] (.ListComp elt [⟨tg, iter, ifs, 0⟩] scope pos) spos) Γ (sAsg (gVar i) (eLc si g (own.map (·.2)) ct se)) :=
  ps_imp (ps_setLc (wi := tDI X.K X.mg W Γ false si) (g := tDG X.K Γ is g) (tt := tDT X.K X.mg W0 Γ ct) (te := tDE X.K X.mg W0 Γ fl se) hc hN hy hyl hsw hi ok (fun s H C cl fp => (hg s H C cl fp).1) ht he hs) fun D σ H h =>
    lc_s hown his hf (name_s (fl := .fr) hΓ rfl h)
end
end
theorem exn_of {K : PySem.W.Frag} {h : Heap} {mg : MG} {x : Str} (X : K.In h) (G : h.Ns mainGlobals mg) (c : (He.Fa.exc x).ok K = true) (c2 : (He.Fa.glo x).ok K = true) : Exn K mg x :=
  let ⟨a, b, d, e⟩ := He.exc_ok c
  ⟨_, He.glo_ok X G c2, a, b, d, e⟩

/-! ### the head's facts and one more Bool -/
abbrev AlE : Type := He.AlD × Bool
def SaysE (fa : List He.Fa) (fn : List He.DefD) (ex : PySem.W.Frag → Bool) (K : PySem.W.Frag) : Prop := He.SaysD fa fn K ∧ ex K = true
def obsEG (n : Nat) (fa : List He.Fa) (fn : List He.DefD) (ex : PySem.W.Frag → Bool) (g : Addr → Option Obj) : AlE := (He.obsD fa fn (He.frG g (He.asD g n)), ex (He.frG g (He.asD g n)))
def hookE (n : Nat) (fa : List He.Fa) (fn : List He.DefD) (ex : PySem.W.Frag → Bool) : PySem.W.Hook where
  α := AlE
  obs := fun s => obsEG n fa fn ex s.heap.get?
  val := fun _ => (He.valD fn, true)
  says := fun _ h => ∃ K : PySem.W.Frag, K.In h ∧ SaysE fa fn ex K
  of := fun _ _ e => ⟨_, He.frG_in, congrArg (fun z : AlE => z.1) e, congrArg (fun z : AlE => z.2) e⟩
  keeps := fun _ _ _ ⟨K, hK, c⟩ k => ⟨K, PySem.W.Frag.In.keeps hK k, c⟩
theorem obsEG_eq {n : Nat} {fa : List He.Fa} {fn : List He.DefD} {ex : PySem.W.Frag → Bool} {g : Addr → Option Obj} {s : Shared} (h : ∀ a, g a = s.heap.get? a) : obsEG n fa fn ex g = (hookE n fa fn ex).obs s := by
  have e : g = s.heap.get? := funext h
  rw [e] <;> rfl
theorem walk_ofX {l : PySem.W.OpenLaw} {n k : Nat} {q : Program} {loose : List Str} {XP : (Str → Option Value) → Heap → Prop} {YP : World → Heap → Prop} {d : DefRec} {x : Str}
    (hn : l.most = some n) (hn2 : n ≤ sizeLine) (hdf : d.params.defaults = []) (hr : Room k callerA)
    (F : ∀ (w : World) (mg : Str → Option Value) (fa : Addr) (h : Heap), YP w h → h.Ns mainGlobals mg → mg d.name = some (.ref fa) →
      ∃ (K : PySem.W.Frag) (fd : FuncData) (sp : Sp), K.In h ∧ (∀ (s : Shared) (u : Value), BindsTo s fd ⟨[u], []⟩ [(x, u)]) ∧
        (∀ (H : Hp) (a : Addr) (ns : List Int), ns.length ≤ n → Only H → SqL K H a (ns.map V.int) → sp [.ref a] H (fun v _ => v = .bl true) fun _ _ _ => False) ∧
        ∀ base : Heap, K.In base → base.Ns mainGlobals mg → FnOk l.prog w K mg base (L2.CX l.prog w) k fa fd [x] sp) :
    PySem.W.WalkO q loose XP YP l.row.toRowW d [] (fun f vs => PySem.call f vs) := by
  refine Att.attach_call hn hdf fun w s₀ s₁ mg mb fa o pm cd doc a vs ns G Y ho hd hcd hmg hobj hints hlen hg => ?_
  obtain ⟨K, fd, sp, KX, hb, hsp, hF⟩ := F w mg fa _ Y G.T.g hmg
  exact law_call KX G.T.g G.T.b G.T.builtins G.T.nolimit hg hobj hints (Nat.le_trans hlen hn2) hr hF hb (fun H hO hS => hsp H a ns hlen hO hS) fun H e s' ⟨_, _, _, _, _, _, _, _, _, _, _, _, hE⟩ => hE.elim
theorem law_sp {K : PySem.W.Frag} {mg : MG} {g : List Da → R Da} {n : Nat} (hn : n ≤ big) (hg : ∀ ns : List Int, ns.length ≤ n → g [.list (ns.map PyData.int)] = .ok (.bool true)) (H : Hp) (a : Addr) (ns : List Int) (hl : ns.length ≤ n) (hO : Only H) (hS : SqL K H a (ns.map V.int)) :
    spD K mg 1 g [.ref a] H (fun v _ => v = .bl true) fun _ _ _ => False := by
  refine ⟨rfl, [.list (ns.map PyData.int)], [], fun b hb => (List.not_mem_nil hb).elim, .cons (.lst (xs := ns.map V.int) ?_ (by rw [List.length_map]; omega) ?_) .nil, ?_⟩
  · rcases hS with h | h
    · exact .inl ⟨h, fun z => (List.not_mem_nil z).elim⟩
    · exact .inr h
  · clear hl hS
    induction ns with
    | nil => exact .nil
    | cons i ns ih => exact .cons (.int i) ih
  · rw [hg ns hl]
    intro v H' _ r
    cases r; rfl
end DL
set_option Elab.async false
set_option linter.all false
/-! Plain lemmas on the D semantics: loops, comprehensions, ranges. -/
namespace DL
open PySem

/-- the end of a def -/
def finO : Out → Da
  | .nx _ => .none
  | .rt d => d
@[simp] theorem finO_nx (ρ : Ev) : finO (.nx ρ) = .none := rfl
@[simp] theorem finO_rt (d : Da) : finO (.rt d) = d := rfl
theorem runDef_ (n : Nat) (body : SS) (ds : List Da) : runDef n body ds = (body (ds.map some ++ List.replicate (n - ds.length) none)).bind fun o => .ok (finO o) := by
  unfold runDef
  congr 1
  funext o
  cases o <;> rfl
/-! the operators at their kinds -/
def di (k : Nat) : Da := .int (k : Int)
@[simp] theorem dAdd_int (i j : Int) : dAdd (.int i) (.int j) = .ok (.int (i + j)) := rfl
@[simp] theorem addI_int (i j : Int) : addI (.int i) (.int j) = .ok (.int (i + j)) := rfl
@[simp] theorem dSub_int (i j : Int) : dSub (.int i) (.int j) = .ok (.int (i - j)) := rfl
theorem mulI_int (i j : Int) : mulI (.int i) (.int j) = if mulOk i j then .ok (.int (i * j)) else .bad := rfl
theorem mulI_l (i j : Int) (h1 : -(2 ^ 64) < i) (h2 : i < 2 ^ 64) : mulI (.int i) (.int j) = .ok (.int (i * j)) := by
  rw [mulI_int]
  have : mulOk i j = true := by unfold mulOk; simp; omega
  rw [if_pos this]
theorem mulI_r (i j : Int) (h1 : -(2 ^ 64) < j) (h2 : j < 2 ^ 64) : mulI (.int i) (.int j) = .ok (.int (i * j)) := by
  rw [mulI_int]
  have : mulOk i j = true := by unfold mulOk; simp; omega
  rw [if_pos this]
theorem mulI_big (i j : Int) (a b : Nat) (ha : i.natAbs < 2 ^ a) (hb : j.natAbs < 2 ^ b) (h0 : 0 < a) (h1 : 0 < b) (h : a + b ≤ 1000000) : mulI (.int i) (.int j) = .ok (.int (i * j)) := by
  have l1 : ∀ (x c : Nat), x < 2 ^ c → 0 < c → x.log2 < c := fun x c h h0 => by
    by_cases z : x = 0
    · subst z; simpa using h0
    · exact (Nat.log2_lt z).mpr h
  have g1 := l1 _ _ ha h0
  have g2 := l1 _ _ hb h1
  have : mulOk i j = true := by unfold mulOk; simp; omega
  rw [mulI_int, if_pos this]
theorem s64a (m : Int) (h : -1073741824 < m) : -(2 ^ 64) < m := by omega
theorem s64b (m : Int) (h : m < 1073741824) : m < 2 ^ 64 := by omega
/-- a small factor -/
theorem mulI_sr (i j : Int) (h1 : -1073741824 < j) (h2 : j < 1073741824) : mulI (.int i) (.int j) = .ok (.int (i * j)) := mulI_r i j (s64a _ h1) (s64b _ h2)
theorem mulI_sl (i j : Int) (h1 : -1073741824 < i) (h2 : i < 1073741824) : mulI (.int i) (.int j) = .ok (.int (i * j)) := mulI_l i j (s64a _ h1) (s64b _ h2)
theorem dDiv_int (i j : Int) : dDiv (.int i) (.int j) = if j ≠ 0 ∧ j.natAbs < 1073741824 then .ok (.int (i.fdiv j)) else .bad := rfl
theorem dMod_int (i j : Int) : dMod (.int i) (.int j) = if j ≠ 0 then .ok (.int (i.fmod j)) else .bad := rfl
theorem dDiv_pos (i j : Int) (h : 0 < j) (h2 : j < 1073741824) : dDiv (.int i) (.int j) = .ok (.int (i / j)) := by
  rw [dDiv_int, if_pos ⟨by omega, by omega⟩, Int.fdiv_eq_ediv_of_nonneg _ (by omega)]
theorem dMod_pos (i j : Int) (h : 0 < j) : dMod (.int i) (.int j) = .ok (.int (i % j)) := by
  rw [dMod_int, if_pos (by omega), Int.fmod_eq_emod_of_nonneg _ (by omega)]
theorem dDiv_nat (a b : Nat) (h : 0 < b) (h2 : b < 1073741824) : dDiv (di a) (di b) = .ok (di (a / b)) := by
  have h3 : (0 : Int) < (b : Int) := by omega
  have h4 : (b : Int) < 1073741824 := by omega
  exact (dDiv_pos a b h3 h4).trans (congrArg (fun z => R.ok (PyData.int z)) (Int.natCast_ediv a b).symm)
theorem dMod_nat (a b : Nat) (h : 0 < b) : dMod (di a) (di b) = .ok (di (a % b)) := by
  have h3 : (0 : Int) < (b : Int) := by omega
  exact (dMod_pos a b h3).trans (congrArg (fun z => R.ok (PyData.int z)) (Int.natCast_emod a b).symm)
theorem mulI_nat (a b : Nat) (h : b < 1073741824) : mulI (di a) (di b) = .ok (di (a * b)) := by
  have h3 : -1073741824 < (b : Int) := by omega
  have h4 : (b : Int) < 1073741824 := by omega
  exact (mulI_sr a b h3 h4).trans (congrArg (fun z => R.ok (PyData.int z)) (Int.natCast_mul a b).symm)
theorem dAdd_nat (a b : Nat) : dAdd (di a) (di b) = .ok (di (a + b)) := congrArg (fun z => R.ok (PyData.int z)) (Int.natCast_add a b).symm
theorem addI_nat (a b : Nat) : addI (di a) (di b) = .ok (di (a + b)) := congrArg (fun z => R.ok (PyData.int z)) (Int.natCast_add a b).symm
theorem dEq_nat (a b : Nat) : dEq (di a) (di b) = .ok (.bool (decide (a = b))) := by
  show R.ok (PyData.bool (decide ((a : Int) = b))) = _
  congr 2
  exact decide_eq_decide.mpr (by omega)
theorem dNe_nat (a b : Nat) : dNe (di a) (di b) = .ok (.bool (!decide (a = b))) := by
  unfold dNe
  rw [dEq_nat]
  rfl
theorem dLt_nat (a b : Nat) : dLt (di a) (di b) = .ok (.bool (decide (a < b))) := by
  show R.ok (PyData.bool (decide ((a : Int) < b))) = _
  congr 2
  exact decide_eq_decide.mpr (by omega)
theorem dLe_nat (a b : Nat) : dLe (di a) (di b) = .ok (.bool (decide (a ≤ b))) := by
  show R.ok (PyData.bool (decide ((a : Int) ≤ b))) = _
  congr 2
  exact decide_eq_decide.mpr (by omega)
theorem dGt_nat (a b : Nat) : dGt (di a) (di b) = .ok (.bool (decide (b < a))) := by
  show R.ok (PyData.bool (decide ((b : Int) < a))) = _
  congr 2
  exact decide_eq_decide.mpr (by omega)
theorem dGe_nat (a b : Nat) : dGe (di a) (di b) = .ok (.bool (decide (b ≤ a))) := by
  show R.ok (PyData.bool (decide ((b : Int) ≤ a))) = _
  congr 2
  exact decide_eq_decide.mpr (by omega)
theorem dSub_nat (a b : Nat) (h : b ≤ a) : dSub (di a) (di b) = .ok (di (a - b)) := congrArg (fun z => R.ok (PyData.int z)) (Int.natCast_sub h).symm
theorem dMin2_nat (a b : Nat) : dMin2 [di a, di b] = .ok (di (min b a)) := by
  show R.ok (PyData.int (if (b : Int) < a then (b : Int) else a)) = _
  congr 2
  split <;> omega
theorem dMax2_nat (a b : Nat) : dMax2 [di a, di b] = .ok (di (max b a)) := by
  show R.ok (PyData.int (if (b : Int) > a then (b : Int) else a)) = _
  congr 2
  split <;> omega
theorem dGcd_nat (a b : Nat) : dGcd [di a, di b] = .ok (di (Nat.gcd a b)) := rfl
@[simp] theorem dInt_nat (a : Nat) : dInt [di a] = .ok (di a) := rfl
theorem dIx_list_nat (xs : List Da) (n : Nat) : dIx (.list xs) (di n) = oR xs[n]? := by
  show oR (atD xs (n : Int)) = _
  unfold atD
  rw [if_pos (Int.natCast_nonneg n)]
  rfl
theorem dIx_tuple_nat (xs : List Da) (n : Nat) : dIx (.tuple xs) (di n) = oR xs[n]? := by
  show oR (atD xs (n : Int)) = _
  unfold atD
  rw [if_pos (Int.natCast_nonneg n)]
  rfl
theorem dLen_list_nat (xs : List Da) : dLen [.list xs] = .ok (di xs.length) := rfl
theorem dLen_tuple_nat (xs : List Da) : dLen [.tuple xs] = .ok (di xs.length) := rfl
@[simp] theorem tru_di (n : Nat) : tru (di n) = decide (n ≠ 0) := by
  show ((n : Int) != 0) = _
  cases n <;> simp
  omega
@[simp] theorem toI_di (n : Nat) : toI (di n) = .ok (n : Int) := rfl
@[simp] theorem isNone_di (i : Nat) : isNone (di i) = false := rfl
@[simp] theorem isTy_int_di (i : Nat) : isTy .int (di i) = true := rfl
@[simp] theorem isTy_bool_di (i : Nat) : isTy .bool (di i) = false := rfl
@[simp] theorem isTy_tuple_di (i : Nat) : isTy .tuple (di i) = false := rfl
@[simp] theorem dNeg_int (i : Int) : dNeg (.int i) = .ok (.int (-i)) := rfl
@[simp] theorem dCmp_int (p : Int → Int → Bool) (i j : Int) : dCmp p (.int i) (.int j) = .ok (.bool (p i j)) := rfl
@[simp] theorem dEq_int (i j : Int) : dEq (.int i) (.int j) = .ok (.bool (decide (i = j))) := rfl
@[simp] theorem dEq_bool (i j : Bool) : dEq (.bool i) (.bool j) = .ok (.bool (decide (i = j))) := rfl
@[simp] theorem dEq_str (i j : Str) : dEq (.str i) (.str j) = .ok (.bool (decide (i = j))) := rfl
@[simp] theorem dEq_none : dEq .none .none = .ok (.bool true) := rfl
@[simp] theorem dEq_none_int (i : Int) : dEq .none (.int i) = .ok (.bool false) := rfl
@[simp] theorem dEq_int_none (i : Int) : dEq (.int i) .none = .ok (.bool false) := rfl
@[simp] theorem rNot_bool (b : Bool) : rNot (.ok (.bool b)) = .ok (.bool (!b)) := rfl
@[simp] theorem dNe_int (i j : Int) : dNe (.int i) (.int j) = .ok (.bool (!decide (i = j))) := rfl
@[simp] theorem dNe_str (i j : Str) : dNe (.str i) (.str j) = .ok (.bool (!decide (i = j))) := rfl
@[simp] theorem dNe_none : dNe .none .none = .ok (.bool false) := rfl
@[simp] theorem dNe_none_int (i : Int) : dNe .none (.int i) = .ok (.bool true) := rfl
@[simp] theorem dNe_int_none (i : Int) : dNe (.int i) .none = .ok (.bool true) := rfl
@[simp] theorem isNone_none : isNone .none = true := rfl
@[simp] theorem isNone_int (i : Int) : isNone (.int i) = false := rfl
@[simp] theorem isNone_bool (i : Bool) : isNone (.bool i) = false := rfl
@[simp] theorem isNone_str (i : Str) : isNone (.str i) = false := rfl
@[simp] theorem isNone_tuple (i : List Da) : isNone (.tuple i) = false := rfl
@[simp] theorem isNone_list (i : List Da) : isNone (.list i) = false := rfl
@[simp] theorem dIsN_ (a : Da) : dIsN a = .ok (.bool (isNone a)) := rfl
@[simp] theorem dNotN_ (a : Da) : dNotN a = .ok (.bool (!isNone a)) := rfl
@[simp] theorem dNot_ (a : Da) : dNot a = .ok (.bool (!tru a)) := rfl
@[simp] theorem dIsB_bool (k b : Bool) : dIsB k (.bool b) = .ok (.bool (decide (b = k))) := rfl
@[simp] theorem dIsNotB_bool (k b : Bool) : dIsNotB k (.bool b) = .ok (.bool (!decide (b = k))) := rfl
theorem dIx_list (xs : List Da) (i : Int) : dIx (.list xs) (.int i) = oR (atD xs i) := rfl
theorem dIx_tuple (xs : List Da) (i : Int) : dIx (.tuple xs) (.int i) = oR (atD xs i) := rfl
theorem dLen_list (xs : List Da) : dLen [.list xs] = .ok (.int xs.length) := rfl
theorem dLen_tuple (xs : List Da) : dLen [.tuple xs] = .ok (.int xs.length) := rfl
theorem dAbs_int (i : Int) : dAbs [.int i] = .ok (.int (if i < 0 then -i else i)) := rfl
theorem dMax2_int (i j : Int) : dMax2 [.int i, .int j] = .ok (.int (if j > i then j else i)) := rfl
theorem dMin2_int (i j : Int) : dMin2 [.int i, .int j] = .ok (.int (if j < i then j else i)) := rfl
theorem dSumL_list (xs : List Da) : dSumL [.list xs] = (intsD xs).bind fun is => .ok (.int is.sum) := rfl
theorem dMinL_list (xs : List Da) : dMinL [.list xs] = (intsD xs).bind fun is => (minI is).bind fun m => .ok (.int m) := rfl
theorem dMaxL_list (xs : List Da) : dMaxL [.list xs] = (intsD xs).bind fun is => (maxI is).bind fun m => .ok (.int m) := rfl
@[simp] theorem dAll_list (xs : List Da) : dAll [.list xs] = (blsD xs).bind fun bs => .ok (.bool (bs.all id)) := rfl
@[simp] theorem dAny_list (xs : List Da) : dAny [.list xs] = (blsD xs).bind fun bs => .ok (.bool (bs.any id)) := rfl
@[simp] theorem dInt_int (i : Int) : dInt [.int i] = .ok (.int i) := rfl
@[simp] theorem dInt_bool (b : Bool) : dInt [.bool b] = .ok (.int (if b then 1 else 0)) := rfl
@[simp] theorem dTuple_list (xs : List Da) : dTuple [.list xs] = .ok (.tuple xs) := rfl
@[simp] theorem dTuple_tuple (xs : List Da) : dTuple [.tuple xs] = .ok (.tuple xs) := rfl
@[simp] theorem dList_list (xs : List Da) : dList [.list xs] = .ok (.list xs) := rfl
@[simp] theorem dList_tuple (xs : List Da) : dList [.tuple xs] = .ok (.list xs) := rfl
@[simp] theorem dGcd_int (i j : Int) : dGcd [.int i, .int j] = .ok (.int (Nat.gcd i.natAbs j.natAbs : Nat)) := rfl
@[simp] theorem isTy_int_int (i : Int) : isTy .int (.int i) = true := rfl
@[simp] theorem isTy_int_bool (i : Bool) : isTy .int (.bool i) = true := rfl
@[simp] theorem isTy_bool_int (i : Int) : isTy .bool (.int i) = false := rfl
@[simp] theorem isTy_bool_bool (i : Bool) : isTy .bool (.bool i) = true := rfl
@[simp] theorem isTy_tuple_tuple (i : List Da) : isTy .tuple (.tuple i) = true := rfl
@[simp] theorem isTy_list_list (i : List Da) : isTy .list (.list i) = true := rfl
@[simp] theorem isTy_tuple_list (i : List Da) : isTy .tuple (.list i) = false := rfl
@[simp] theorem isTy_list_tuple (i : List Da) : isTy .list (.tuple i) = false := rfl
@[simp] theorem isTy_tuple_int (i : Int) : isTy .tuple (.int i) = false := rfl
@[simp] theorem isTy_tuple_none : isTy .tuple .none = false := rfl
@[simp] theorem isTy_int_none : isTy .int .none = false := rfl
@[simp] theorem isTy_int_tuple (i : List Da) : isTy .int (.tuple i) = false := rfl
@[simp] theorem dIsi_ (t : Ty) (a : Da) : dIsi t a = .ok (.bool (isTy t a)) := rfl
@[simp] theorem atD_0 {α : Type} (x : α) (xs : List α) : atD (x :: xs) 0 = some x := rfl
@[simp] theorem atD_1 {α : Type} (x y : α) (xs : List α) : atD (x :: y :: xs) 1 = some y := rfl
@[simp] theorem atD_2 {α : Type} (x y z : α) (xs : List α) : atD (x :: y :: z :: xs) 2 = some z := rfl
@[simp] theorem atD_3 {α : Type} (x y z u : α) (xs : List α) : atD (x :: y :: z :: u :: xs) 3 = some u := rfl
@[simp] theorem atD_4 {α : Type} (x y z u v : α) (xs : List α) : atD (x :: y :: z :: u :: v :: xs) 4 = some v := rfl
theorem atD_nat {α : Type} (xs : List α) (n : Nat) : atD xs (n : Int) = xs[n]? := by
  unfold atD
  rw [if_pos (Int.natCast_nonneg n)]
  rfl
theorem atD_pos {α : Type} (xs : List α) (i : Int) (h : 0 ≤ i) : atD xs i = xs[i.toNat]? := by
  unfold atD
  rw [if_pos h]
@[simp] theorem appD_list (x : Da) (xs : List Da) : appD x (.list xs) = if xs.length < big then .ok (.list (xs ++ [x])) else .bad := rfl
@[simp] theorem dSl_list (lo hi : Option Int) (xs : List Da) : dSl lo hi (.list xs) = .ok (.list (cutD xs lo hi)) := rfl
@[simp] theorem dSl_tuple (lo hi : Option Int) (xs : List Da) : dSl lo hi (.tuple xs) = .ok (.tuple (cutD xs lo hi)) := rfl
theorem sIxD_some (l d n : Nat) : sIxD l d (some (n : Int)) = min n l := by
  show (if (n : Int) < 0 then ((n : Int) + (l : Int)).toNat else min (n : Int).toNat l) = _
  rw [if_neg (by omega)]
  rfl
theorem sIxD_none (l d : Nat) : sIxD l d none = d := rfl
theorem cutD_from {α : Type} (xs : List α) (n : Nat) : cutD xs (some (n : Int)) none = xs.drop n := by
  unfold cutD
  rw [sIxD_some, sIxD_none]
  by_cases h : n ≤ xs.length
  · rw [show min n xs.length = n by omega, List.take_of_length_le (by rw [List.length_drop]; exact Nat.le_refl _)]
  · rw [show min n xs.length = xs.length by omega, Nat.sub_self, List.take_zero, List.drop_of_length_le (by omega)]
theorem cutD_to {α : Type} (xs : List α) (n : Nat) : cutD xs none (some (n : Int)) = xs.take n := by
  unfold cutD
  rw [sIxD_some, sIxD_none, List.drop_zero, Nat.sub_zero]
  by_cases h : n ≤ xs.length
  · rw [show min n xs.length = n by omega]
  · rw [show min n xs.length = xs.length by omega, List.take_of_length_le (Nat.le_refl _), List.take_of_length_le (by omega)]
@[simp] theorem cutD_from1 {α : Type} (xs : List α) : cutD xs (some 1) none = xs.drop 1 := cutD_from xs 1
@[simp] theorem cutD_to1 {α : Type} (xs : List α) : cutD xs none (some 1) = xs.take 1 := cutD_to xs 1
theorem bls_map {α : Type} (p : α → Bool) : ∀ l : List α, blsD (l.map fun x => .bool (p x)) = .ok (l.map p)
  | [] => rfl
  | x :: l => by simp [blsD, bls_map p l]
theorem ints_map {α : Type} (p : α → Int) : ∀ l : List α, intsD (l.map fun x => .int (p x)) = .ok (l.map p)
  | [] => rfl
  | x :: l => by simp [intsD, ints_map p l]

theorem forL_nil (g : STg) (body : SS) (ρ : Ev) : forL g body [] ρ = .ok (.nx ρ) := rfl
theorem forL_cons (g : STg) (body : SS) (x : Da) (xs : List Da) (ρ : Ev) : forL g body (x :: xs) ρ = (g x ρ).bind fun ρ1 => (body ρ1).bind fun o => andThen o (forL g body xs) := rfl
theorem whileF_succ' (c : SE) (body : SS) (n : Nat) (ρ : Ev) : whileF c body (n + 1) ρ = (c ρ).bind fun x => if tru x then (body ρ).bind fun o => andThen o (whileF c body n) else .ok (.nx ρ) := rfl
/-- a loop that goes through: a fold -/
theorem forL_fold {α S : Type} (e : α → Da) (V : S → Ev) (step : S → α → S) (I : S → Prop) {g : STg} {body : SS} : ∀ (xs : List α) (s : S), I s → (∀ s x, x ∈ xs → I s → I (step s x) ∧ ((g (e x) (V s)).bind fun ρ1 => body ρ1) = .ok (.nx (V (step s x)))) →
    forL g body (xs.map e) (V s) = .ok (.nx (V (xs.foldl step s))) ∧ I (xs.foldl step s)
  | [], s, hs, _ => ⟨rfl, hs⟩
  | x :: xs, s, hs, h => by
    obtain ⟨h1, h2⟩ := h s x List.mem_cons_self hs
    obtain ⟨h3, h4⟩ := forL_fold e V step I xs (step s x) h1 fun s y hy => h s y (List.mem_cons_of_mem _ hy)
    refine ⟨?_, h4⟩
    show (g (e x) (V s)).bind (fun ρ1 => (body ρ1).bind fun o => andThen o (forL g body (xs.map e))) = _
    rw [← R.bind_assoc, h2]
    exact h3
/-- a loop that may hand back: the first that does -/
def retFold {α S : Type} (step : S → α → S ⊕ Da) : S → List α → S ⊕ Da
  | s, [] => .inl s
  | s, x :: xs => match step s x with
    | .inl s' => retFold step s' xs
    | .inr d => .inr d
/-- a loop by an invariant of what is done -/
theorem forL_inv {α S : Type} (e : α → Da) (V : S → Ev) (I : List α → S → Prop) {g : STg} {body : SS} : ∀ (xs don : List α) (s : S), I don s →
    (∀ (don' : List α) (x : α) (s : S), (∃ rest, don ++ xs = don' ++ x :: rest) → I don' s → ∃ s', I (don' ++ [x]) s' ∧ ((g (e x) (V s)).bind fun ρ1 => body ρ1) = .ok (.nx (V s'))) →
    ∃ s', I (don ++ xs) s' ∧ forL g body (xs.map e) (V s) = .ok (.nx (V s'))
  | [], don, s, hs, _ => ⟨s, by rw [List.append_nil]; exact hs, rfl⟩
  | x :: xs, don, s, hs, h => by
    obtain ⟨s1, h1, h2⟩ := h don x s ⟨xs, rfl⟩ hs
    have ea : don ++ x :: xs = (don ++ [x]) ++ xs := by rw [List.append_assoc]; rfl
    obtain ⟨s2, h3, h4⟩ := forL_inv e V I xs (don ++ [x]) s1 h1 fun d y s' hy => h d y s' (by rw [ea]; exact hy)
    refine ⟨s2, by rw [ea]; exact h3, ?_⟩
    show (g (e x) (V s)).bind (fun ρ1 => (body ρ1).bind fun o => andThen o (forL g body (xs.map e))) = _
    rw [← R.bind_assoc, h2]
    exact h4
theorem sWhile_inv {S : Type} (V : S → Ev) (go : S → Bool) (I : S → Prop) (m : S → Nat) {c : SE} {body : SS}
    (hc : ∀ s, I s → c (V s) = .ok (.bool (go s))) (hb : ∀ s, I s → go s = true → ∃ s', body (V s) = .ok (.nx (V s')) ∧ I s' ∧ m s' < m s) :
    ∀ (n : Nat) (s : S), I s → m s < n → ∃ s', I s' ∧ go s' = false ∧ whileF c body n (V s) = .ok (.nx (V s'))
  | 0, s, _, h => absurd h (Nat.not_lt_zero _)
  | n + 1, s, hs, h => by
    rw [whileF_succ', hc s hs]
    cases q : go s with
    | false => exact ⟨s, hs, q, rfl⟩
    | true =>
      obtain ⟨s1, h1, h2, h3⟩ := hb s hs q
      obtain ⟨s', g1, g2, g3⟩ := sWhile_inv V go I m hc hb n s1 h2 (by omega)
      refine ⟨s', g1, g2, ?_⟩
      show (if tru (.bool true) then (body (V s)).bind (fun o => andThen o (whileF c body n)) else .ok (.nx (V s))) = _
      rw [tru_bool, if_pos rfl, h1]
      exact g3
theorem forL_ret {α S : Type} (e : α → Da) (V : S → Ev) (step : S → α → S ⊕ Da) (I : S → Prop) {g : STg} {body : SS} : ∀ (xs : List α) (s : S), I s →
    (∀ s x, x ∈ xs → I s → ((g (e x) (V s)).bind fun ρ1 => body ρ1) = .ok (match step s x with
      | .inl s' => .nx (V s')
      | .inr d => .rt d) ∧ ∀ s', step s x = .inl s' → I s') →
    forL g body (xs.map e) (V s) = .ok (match retFold step s xs with
      | .inl s' => .nx (V s')
      | .inr d => .rt d)
  | [], s, hs, _ => rfl
  | x :: xs, s, hs, h => by
    obtain ⟨h1, h2⟩ := h s x List.mem_cons_self hs
    show (g (e x) (V s)).bind (fun ρ1 => (body ρ1).bind fun o => andThen o (forL g body (xs.map e))) = _
    rw [← R.bind_assoc, h1]
    unfold retFold
    cases q : step s x with
    | inl s' => exact forL_ret e V step I xs s' (h2 s' q) fun s y hy => h s y (List.mem_cons_of_mem _ hy)
    | inr d => rfl
/-- .. with nothing carried: the first place where it hands back -/
def foundO {α : Type} (o : Option α) (r : α → Da) (ρ : Ev) : Out := match o with
  | some x => .rt (r x)
  | none => .nx ρ
@[simp] theorem foundO_some {α : Type} (x : α) (r : α → Da) (ρ : Ev) : foundO (some x) r ρ = .rt (r x) := rfl
@[simp] theorem foundO_none {α : Type} (r : α → Da) (ρ : Ev) : foundO (none : Option α) r ρ = .nx ρ := rfl
theorem forL_find {α : Type} (e : α → Da) (p : α → Bool) (r : α → Da) {g : STg} {body : SS} {ρ : Ev} : ∀ (xs : List α),
    (∀ x, x ∈ xs → ((g (e x) ρ).bind fun ρ1 => body ρ1) = .ok (if p x then .rt (r x) else .nx ρ)) →
    forL g body (xs.map e) ρ = .ok (foundO (xs.find? p) r ρ)
  | [], _ => rfl
  | x :: xs, h => by
    show (g (e x) ρ).bind (fun ρ1 => (body ρ1).bind fun o => andThen o (forL g body (xs.map e))) = _
    rw [← R.bind_assoc, h x List.mem_cons_self, List.find?_cons]
    cases q : p x with
    | true => rfl
    | false => exact forL_find e p r xs fun y hy => h y (List.mem_cons_of_mem _ hy)
theorem forL_same {α : Type} (e : α → Da) {g : STg} {body : SS} {ρ : Ev} : ∀ (xs : List α), (∀ x, x ∈ xs → ((g (e x) ρ).bind fun ρ1 => body ρ1) = .ok (.nx ρ)) → forL g body (xs.map e) ρ = .ok (.nx ρ)
  | [], _ => rfl
  | x :: xs, h => by
    show (g (e x) ρ).bind (fun ρ1 => (body ρ1).bind fun o => andThen o (forL g body (xs.map e))) = _
    rw [← R.bind_assoc, h x List.mem_cons_self]
    exact forL_same e xs fun y hy => h y (List.mem_cons_of_mem _ hy)
/-! while -/
theorem whileF_succ (c : SE) (body : SS) (n : Nat) (ρ : Ev) : whileF c body (n + 1) ρ = (c ρ).bind fun x => if tru x then (body ρ).bind fun o => andThen o (whileF c body n) else .ok (.nx ρ) := rfl
theorem sWhile_run {S : Type} (V : S → Ev) (go : S → Bool) (step : S → S) (I : S → Prop) (m : S → Nat) {c : SE} {body : SS}
    (hc : ∀ s, I s → c (V s) = .ok (.bool (go s))) (hb : ∀ s, I s → go s = true → body (V s) = .ok (.nx (V (step s))) ∧ I (step s) ∧ m (step s) < m s) :
    ∀ (n : Nat) (s : S), I s → m s < n → ∃ s', I s' ∧ go s' = false ∧ whileF c body n (V s) = .ok (.nx (V s')) ∧ ∃ k, s' = (Nat.repeat step k s)
  | 0, s, _, h => absurd h (Nat.not_lt_zero _)
  | n + 1, s, hs, h => by
    rw [whileF_succ, hc s hs]
    cases q : go s with
    | false => exact ⟨s, hs, q, rfl, 0, rfl⟩
    | true =>
      obtain ⟨h1, h2, h3⟩ := hb s hs q
      obtain ⟨s', g1, g2, g3, k, g4⟩ := sWhile_run V go step I m hc hb n (step s) h2 (by omega)
      refine ⟨s', g1, g2, ?_, k + 1, ?_⟩
      · show (if tru (.bool true) then (body (V s)).bind (fun o => andThen o (whileF c body n)) else .ok (.nx (V s))) = _
        rw [tru_bool, if_pos rfl, h1]
        exact g3
      · rw [g4]
        clear g1 g2 g3 g4 h1 h2 h3
        induction k with
        | zero => rfl
        | succ k ih => exact congrArg step ih
/-! comprehensions -/
theorem lcL_fm {α : Type} (e : α → Da) (h : α → Option Da) {f : Da → R (Option Da)} : ∀ (xs : List α), (∀ x, x ∈ xs → f (e x) = .ok (h x)) → lcL f (xs.map e) = .ok (xs.filterMap h)
  | [], _ => rfl
  | x :: xs, w => by
    have i := lcL_fm e h xs fun y hy => w y (List.mem_cons_of_mem _ hy)
    show (match f (e x) with
      | .ok y => (match lcL f (xs.map e) with
        | .ok ys => R.ok (match y with
          | none => ys
          | some v => v :: ys)
        | _ => .bad)
      | _ => .bad) = _
    rw [w x List.mem_cons_self, i, List.filterMap_cons]
    cases h x <;> rfl
theorem lcL_map {α : Type} (e : α → Da) (h : α → Da) {f : Da → R (Option Da)} (xs : List α) (w : ∀ x, x ∈ xs → f (e x) = .ok (some (h x))) : lcL f (xs.map e) = .ok (xs.map h) := by
  rw [lcL_fm e (fun x => some (h x)) xs w, List.filterMap_eq_map']
theorem lcL_filter {α : Type} (e : α → Da) (p : α → Bool) (h : α → Da) {f : Da → R (Option Da)} (xs : List α) (w : ∀ x, x ∈ xs → f (e x) = .ok (if p x then some (h x) else none)) : lcL f (xs.map e) = .ok ((xs.filter p).map h) := by
  rw [lcL_fm e (fun x => if p x then some (h x) else none) xs w]
  congr 1
  induction xs with
  | nil => rfl
  | cons x xs ih =>
    rw [List.filterMap_cons, List.filter_cons]
    cases p x with
    | true => simp [ih fun y hy => w y (List.mem_cons_of_mem _ hy)]
    | false => simp [ih fun y hy => w y (List.mem_cons_of_mem _ hy)]
/-! ranges, enumerations -/
theorem rngD_0 (n : Nat) : rngD 0 n = (List.range n).map di := by
  unfold rngD
  refine List.map_congr_left fun k _ => ?_
  show PyData.int (0 + (k : Int)) = .int (k : Int)
  rw [Int.zero_add]
theorem rngD_at (a n : Nat) : rngD (a : Int) n = (List.range' a n).map di := by
  unfold rngD
  rw [List.range'_eq_map_range, List.map_map]
  refine List.map_congr_left fun k _ => ?_
  show PyData.int ((a : Int) + (k : Int)) = .int ((a + k : Nat) : Int)
  rw [Int.natCast_add]
theorem dRng_0 (n : Nat) (h : n ≤ big) : dRng 0 (n : Int) = .ok ((List.range n).map di) := by
  unfold dRng
  have e : ((n : Int) - 0).toNat = n := by omega
  unfold big at h ⊢
  rw [if_pos ⟨by decide, by omega, by omega⟩, e, rngD_0]
theorem dRng_at (a b : Nat) (h0 : a ≤ b) (h : b ≤ big) : dRng (a : Int) (b : Int) = .ok ((List.range' a (b - a)).map di) := by
  unfold dRng
  unfold big at h ⊢
  have e : ((b : Int) - (a : Int)).toNat = b - a := by omega
  rw [if_pos ⟨by omega, by omega, by omega⟩, e, rngD_at]
theorem atD_mr {α : Type} (n : Nat) (f : Nat → α) (i : Int) (h0 : 0 ≤ i) (h : i < n) : atD ((List.range n).map f) i = some (f i.toNat) := by
  rw [atD_pos _ _ h0, List.getElem?_map, List.getElem?_range (by omega)]
  rfl
theorem atD_map {α β : Type} (f : α → β) (l : List α) (i : Nat) (h : i < l.length) : atD (l.map f) (i : Int) = some (f l[i]) := by
  rw [atD_nat, List.getElem?_map, List.getElem?_eq_getElem h]
  rfl
/-! numbers -/
theorem bezout (a b : Nat) : ∃ x y : Int, (Nat.gcd a b : Int) = x * a + y * b := by
  induction a, b using Nat.gcd.induction with
  | H0 n => exact ⟨0, 1, by simp⟩
  | H1 m n hm ih =>
    obtain ⟨x, y, e⟩ := ih
    refine ⟨y - x * ((n / m : Nat) : Int), x, ?_⟩
    rw [Nat.gcd_rec m n, e]
    have q : ((n % m : Nat) : Int) = n - m * ((n / m : Nat) : Int) := by
      have := Nat.div_add_mod n m
      omega
    rw [q]
    grind
/-- a common number's common part: gcd goes over lcm -/
theorem gcd_lcm_dvd {m n k : Nat} {z : Int} (hm : 0 < m) (h1 : ((Nat.gcd m k : Nat) : Int) ∣ z) (h2 : ((Nat.gcd n k : Nat) : Int) ∣ z) : ((Nat.gcd (Nat.lcm m n) k : Nat) : Int) ∣ z := by
  obtain ⟨u, v, e⟩ := bezout m n
  have hg : 0 < Nat.gcd m n := Nat.gcd_pos_of_pos_left _ hm
  obtain ⟨m', em⟩ := Nat.gcd_dvd_left m n
  obtain ⟨n', en⟩ := Nat.gcd_dvd_right m n
  have e1 : u * m' + v * n' = 1 := by
    have : (Nat.gcd m n : Int) * (u * m' + v * n') = Nat.gcd m n * 1 := by
      have em' : (m : Int) = (Nat.gcd m n : Int) * m' := by exact_mod_cast em
      have en' : (n : Int) = (Nat.gcd m n : Int) * n' := by exact_mod_cast en
      have e' : (Nat.gcd m n : Int) = u * ((Nat.gcd m n : Int) * m') + v * ((Nat.gcd m n : Int) * n') := by
        rw [← em', ← en']; exact e
      grind
    exact Int.eq_of_mul_eq_mul_left (by omega) this
  have l1 : m * n' = Nat.lcm m n := by
    have := Nat.gcd_mul_lcm m n
    have h3 : Nat.gcd m n * (m * n') = Nat.gcd m n * Nat.lcm m n := by rw [this, ← Nat.mul_assoc, Nat.mul_comm (Nat.gcd m n) m, Nat.mul_assoc, ← en]
    exact Nat.eq_of_mul_eq_mul_left hg h3
  have l2 : n * m' = Nat.lcm m n := by
    have := Nat.gcd_mul_lcm m n
    have h3 : Nat.gcd m n * (n * m') = Nat.gcd m n * Nat.lcm m n := by rw [this, ← Nat.mul_assoc, Nat.mul_comm (Nat.gcd m n) n, Nat.mul_assoc, ← em, Nat.mul_comm]
    exact Nat.eq_of_mul_eq_mul_left hg h3
  have key : ∀ (m n' : Nat), m * n' = Nat.lcm m' n' ∨ True → ((Nat.gcd m k : Nat) : Int) ∣ z → ((Nat.gcd (m * n') k : Nat) : Int) ∣ z * n' := fun m n' _ h => by
    obtain ⟨t, ht⟩ := h
    obtain ⟨x, y, ex⟩ := bezout m k
    have d1 : ((Nat.gcd (m * n') k : Nat) : Int) ∣ ((m * n' : Nat) : Int) := Int.natCast_dvd_natCast.mpr (Nat.gcd_dvd_left _ _)
    have d2 : ((Nat.gcd (m * n') k : Nat) : Int) ∣ (k : Int) := Int.natCast_dvd_natCast.mpr (Nat.gcd_dvd_right _ _)
    have : z * n' = ((m * n' : Nat) : Int) * (x * t) + (k : Int) * (y * t * n') := by
      rw [ht, ex]
      push_cast
      grind
    rw [this]
    exact Int.dvd_add (Int.dvd_mul_of_dvd_left d1) (Int.dvd_mul_of_dvd_left d2)
  have k1 := key m n' (.inr trivial) h1
  have k2 := key n m' (.inr trivial) h2
  rw [l1] at k1
  rw [l2] at k2
  have : z = z * n' * v + z * m' * u := by
    have : z * (u * m' + v * n') = z * 1 := by rw [e1]
    grind
  rw [this]
  exact Int.dvd_add (Int.dvd_mul_of_dvd_left k1) (Int.dvd_mul_of_dvd_left k2)
/-! plain data: no dict, not deep -/
mutual
def plD : Nat → Da → Bool
  | _, .none => true
  | _, .bool _ => true
  | _, .int _ => true
  | _, .str x => PyData.canLay0 (.str x)
  | 0, .list _ => false
  | n + 1, .list xs => plL n xs
  | 0, .tuple _ => false
  | n + 1, .tuple xs => plL n xs
  | _, .dict _ => false
def plL : Nat → List Da → Bool
  | _, [] => true
  | n, x :: xs => plD n x && plL n xs
end
mutual
theorem plD_can : ∀ {n : Nat} {d : Da}, plD n d = true → PyData.canLay0 d = true ∧ d.depth ≤ n + 1
  | n, .none, _ => by simp [PyData.canLay0, PyData.depth]
  | n, .bool _, _ => by simp [PyData.canLay0, PyData.depth]
  | n, .int _, _ => by simp [PyData.canLay0, PyData.depth]
  | n, .str x, h => by
    refine ⟨by simpa [plD] using h, by simp [PyData.depth]⟩
  | 0, .list xs, h => by simp [plD] at h
  | n + 1, .list xs, h => by
    have := plL_can (n := n) (xs := xs) (by simpa [plD] using h)
    simp [PyData.canLay0, PyData.depth, this.1]
    omega
  | 0, .tuple xs, h => by simp [plD] at h
  | n + 1, .tuple xs, h => by
    have := plL_can (n := n) (xs := xs) (by simpa [plD] using h)
    simp [PyData.canLay0, PyData.depth, this.1]
    omega
  | n, .dict _, h => by simp [plD] at h
theorem plL_can : ∀ {n : Nat} {xs : List Da}, plL n xs = true → PyData.canLayAll0 xs = true ∧ PyData.depthAll xs ≤ n + 1
  | n, [], _ => by simp [PyData.canLayAll0, PyData.depthAll]
  | n, x :: xs, h => by
    simp only [plL, Bool.and_eq_true] at h
    have h1 := plD_can h.1
    have h2 := plL_can h.2
    simp [PyData.canLayAll0, PyData.depthAll, h1.1, h2.1]
    omega
end
theorem shaped_pl {d : Da} (n : Nat) (hn : n ≤ 60) (h : plD n d = true) : SeqAt.shaped d = true := by
  have := plD_can h
  unfold SeqAt.shaped
  simp [this.1]
  omega
theorem plL_all {n : Nat} {xs : List Da} (h : ∀ x, x ∈ xs → plD n x = true) : plL n xs = true := by
  induction xs with
  | nil => simp [plL]
  | cons x xs ih => simp [plL, h x List.mem_cons_self, ih fun y hy => h y (List.mem_cons_of_mem _ hy)]
theorem plL_map {α : Type} {e : α → Da} {n : Nat} (h : ∀ x, plD n (e x) = true) (l : List α) : plL n (l.map e) = true := plL_all fun y hy => by
  obtain ⟨x, _, rfl⟩ := List.mem_map.mp hy
  exact h x
mutual
theorem eqv_refl : ∀ {n : Nat} {d : Da}, plD n d = true → PyData.eqv d d = true
  | n, .none, _ => by simp [PyData.eqv]
  | n, .bool _, _ => by simp [PyData.eqv]
  | n, .int _, _ => by simp [PyData.eqv]
  | n, .str x, h => by simp [PyData.eqv]
  | 0, .list xs, h => by simp [plD] at h
  | n + 1, .list xs, h => by
    simp only [PyData.eqv]
    exact eqvAll_refl (n := n) (by simpa [plD] using h)
  | 0, .tuple xs, h => by simp [plD] at h
  | n + 1, .tuple xs, h => by
    simp only [PyData.eqv]
    exact eqvAll_refl (n := n) (by simpa [plD] using h)
  | n, .dict _, h => by simp [plD] at h
theorem eqvAll_refl : ∀ {n : Nat} {xs : List Da}, plL n xs = true → PyData.eqvAll xs xs = true
  | n, [], _ => by simp [PyData.eqvAll]
  | n, x :: xs, h => by
    simp only [plL, Bool.and_eq_true] at h
    simp [PyData.eqvAll, eqv_refl h.1, eqvAll_refl h.2]
end
theorem dEq_eqv {a b : Da} (ha : SeqAt.shaped a = true) (hb : SeqAt.shaped b = true) : dEq a b = .ok (.bool (PyData.eqv a b)) := by
  have g : (eqD a b).bind (fun k => R.ok (PyData.bool k)) = .ok (.bool (PyData.eqv a b)) := by
    unfold eqD
    rw [ha, hb]
    simp
  unfold dEq
  split <;> first | exact g | (simp [PyData.eqv]; try rfl)
theorem dEq_refl {a : Da} (n : Nat) (hn : n ≤ 60) (h : plD n a = true) : dEq a a = .ok (.bool true) := by
  rw [dEq_eqv (shaped_pl n hn h) (shaped_pl n hn h), eqv_refl h]
theorem dNe_refl {a : Da} (n : Nat) (hn : n ≤ 60) (h : plD n a = true) : dNe a a = .ok (.bool false) := by
  unfold dNe
  rw [dEq_refl n hn h]
  rfl
/-- an encoding whose == tells unlike values apart -/
structure EqE {α : Type} [DecidableEq α] (n : Nat) (e : α → Da) : Prop where
  pl : ∀ x, plD n (e x) = true
  eq : ∀ x y, PyData.eqv (e x) (e y) = decide (x = y)
theorem EqE.di {n : Nat} : EqE n di := ⟨fun x => by simp [DL.di, plD], fun x y => by
  simp only [DL.di, PyData.eqv]
  by_cases h : x = y
  · subst h; simp
  · have : ¬ (x : Int) = y := by omega
    simp [h, this]⟩
theorem EqE.int {n : Nat} : EqE n PyData.int := ⟨fun x => by simp [plD], fun x y => by
  simp only [PyData.eqv]
  by_cases h : x = y
  · subst h; simp
  · simp [h]⟩
theorem eqvAll_map {α : Type} [DecidableEq α] {n : Nat} {e : α → Da} (h : EqE n e) : ∀ l m : List α, PyData.eqvAll (l.map e) (m.map e) = decide (l = m)
  | [], [] => by simp [PyData.eqvAll]
  | [], y :: m => by simp [PyData.eqvAll]
  | x :: l, [] => by simp [PyData.eqvAll]
  | x :: l, y :: m => by
    simp only [List.map_cons, PyData.eqvAll, h.eq, eqvAll_map h l m, List.cons.injEq]
    by_cases h1 : x = y <;> by_cases h2 : l = m <;> simp [h1, h2]
theorem EqE.tup {α : Type} [DecidableEq α] {n : Nat} {e : α → Da} (h : EqE n e) : EqE (n + 1) fun l : List α => .tuple (l.map e) :=
  ⟨fun l => by simp only [plD]; exact plL_map h.pl l, fun l m => by simp only [PyData.eqv]; exact eqvAll_map h l m⟩
theorem EqE.lst {α : Type} [DecidableEq α] {n : Nat} {e : α → Da} (h : EqE n e) : EqE (n + 1) fun l : List α => .list (l.map e) :=
  ⟨fun l => by simp only [plD]; exact plL_map h.pl l, fun l m => by simp only [PyData.eqv]; exact eqvAll_map h l m⟩
theorem EqE.pair {α β : Type} [DecidableEq α] [DecidableEq β] {n : Nat} {e : α → Da} {f : β → Da} (h : EqE n e) (g : EqE n f) : EqE (n + 1) fun p : α × β => .tuple [e p.1, f p.2] :=
  ⟨fun p => by simp [plD, plL, h.pl, g.pl], fun p q => by
    obtain ⟨a, b⟩ := p
    obtain ⟨c, d⟩ := q
    simp only [PyData.eqv, PyData.eqvAll, h.eq, g.eq, Prod.mk.injEq]
    by_cases h1 : a = c <;> by_cases h2 : b = d <;> simp [h1, h2]⟩
theorem EqE.dEq {α : Type} [DecidableEq α] {n : Nat} {e : α → Da} (h : EqE n e) (hn : n ≤ 60) (x y : α) : dEq (e x) (e y) = .ok (.bool (decide (x = y))) := by
  rw [dEq_eqv (shaped_pl n hn (h.pl x)) (shaped_pl n hn (h.pl y)), h.eq]
theorem EqE.dNe {α : Type} [DecidableEq α] {n : Nat} {e : α → Da} (h : EqE n e) (hn : n ≤ 60) (x y : α) : dNe (e x) (e y) = .ok (.bool (!decide (x = y))) := by
  unfold DL.dNe
  rw [h.dEq hn]
  rfl
/-! literals as numbers -/
theorem int_lit (n : Nat) : PyData.int (no_index (OfNat.ofNat n)) = di (OfNat.ofNat n) := rfl
theorem dIx_list_map {α : Type} (e : α → Da) (d : α) (l : List α) (k : Nat) (h : k < l.length) : dIx (.list (l.map e)) (di k) = .ok (e (l.getD k d)) := by
  rw [dIx_list_nat, List.getElem?_map, List.getElem?_eq_getElem h]
  simp [h]
theorem dIx_tuple_map {α : Type} (e : α → Da) (d : α) (l : List α) (k : Nat) (h : k < l.length) : dIx (.tuple (l.map e)) (di k) = .ok (e (l.getD k d)) := by
  rw [dIx_tuple_nat, List.getElem?_map, List.getElem?_eq_getElem h]
  simp [h]
theorem enumD_map' {α : Type} (e : α → Da) (d : α) : ∀ (l : List α) (k : Nat), enumD k (l.map e) = (List.range l.length).map fun i => .tuple [di (k + i), e (l.getD i d)]
  | [], k => rfl
  | x :: l, k => by
    rw [List.map_cons, enumD, enumD_map' e d l (k + 1), List.length_cons, List.range_succ_eq_map, List.map_cons, List.map_map]
    congr 1
    refine List.map_congr_left fun i _ => ?_
    simp [Nat.add_assoc, Nat.add_comm 1 i]
theorem EqE.dIn {α : Type} [DecidableEq α] {n : Nat} {e : α → Da} (h : EqE n e) (hn : n < 60) (x : α) (l : List α) : DL.dIn (e x) (.list (l.map e)) = .ok (.bool (decide (x ∈ l))) := by
  have s1 := shaped_pl n (by omega) (h.pl x)
  have s2 : SeqAt.shaped (.list (l.map e)) = true := shaped_pl (n + 1) (by omega) (by simp only [plD]; exact plL_map h.pl l)
  show (inD (e x) (l.map e)).bind _ = _
  unfold inD
  rw [s1, s2]
  simp only [Bool.and_self, if_true, R.bind_ok]
  congr 2
  rw [List.any_map]
  induction l with
  | nil => rfl
  | cons y l ih =>
    rw [List.any_cons, ih (shaped_pl (n + 1) (by omega) (by simp only [plD]; exact plL_map h.pl l))]
    simp only [Function.comp, h.eq, List.mem_cons]
    by_cases q1 : y = x
    · subst q1; simp
    · have : ¬ x = y := fun z => q1 z.symm
      simp [q1, this]
theorem EqE.dInT {α : Type} [DecidableEq α] {n : Nat} {e : α → Da} (h : EqE n e) (hn : n < 60) (x : α) (l : List α) : DL.dIn (e x) (.tuple (l.map e)) = .ok (.bool (decide (x ∈ l))) := h.dIn hn x l
theorem EqE.dNotIn {α : Type} [DecidableEq α] {n : Nat} {e : α → Da} (h : EqE n e) (hn : n < 60) (x : α) (l : List α) : DL.dNotIn (e x) (.list (l.map e)) = .ok (.bool (!decide (x ∈ l))) := by
  unfold DL.dNotIn
  rw [h.dIn hn]
  rfl
theorem EqE.dNotInT {α : Type} [DecidableEq α] {n : Nat} {e : α → Da} (h : EqE n e) (hn : n < 60) (x : α) (l : List α) : DL.dNotIn (e x) (.tuple (l.map e)) = .ok (.bool (!decide (x ∈ l))) := by
  unfold DL.dNotIn
  rw [h.dInT hn]
  rfl
/-! sorting whole numbers -/
def insN (x : Nat) : List Nat → List Nat
  | [] => [x]
  | y :: ys => if x ≤ y then x :: y :: ys else y :: insN x ys
def sortN (l : List Nat) : List Nat := l.foldr insN []
theorem insI_cast (x : Nat) : ∀ l : List Nat, insI (x : Int) (l.map fun n : Nat => (n : Int)) = (insN x l).map fun n : Nat => (n : Int)
  | [] => rfl
  | y :: l => by
    rw [List.map_cons, insI, insN]
    by_cases q : x ≤ y
    · rw [if_pos q, if_pos (by omega)]; rfl
    · rw [if_neg q, if_neg (by omega), insI_cast x l]; rfl
theorem sortI_cast : ∀ l : List Nat, sortI (l.map fun n : Nat => (n : Int)) = (sortN l).map fun n : Nat => (n : Int)
  | [] => rfl
  | x :: l => by
    show insI (x : Int) (sortI (l.map fun n : Nat => (n : Int))) = (insN x (sortN l)).map _
    rw [sortI_cast l, insI_cast]
theorem dSorted_di (l : List Nat) : dSorted [.list (l.map di)] = .ok (.list ((sortN l).map di)) := by
  have e : intsD (l.map di) = .ok (l.map fun n : Nat => (n : Int)) := ints_map (fun n : Nat => (n : Int)) l
  show (intsD (l.map di)).bind _ = _
  rw [e]
  show R.ok (PyData.list ((sortI _).map PyData.int)) = _
  rw [sortI_cast, List.map_map]
  rfl
theorem insN_perm (x : Nat) : ∀ l : List Nat, (insN x l).Perm (x :: l)
  | [] => List.Perm.refl _
  | y :: l => by
    unfold insN
    split
    · exact List.Perm.refl _
    · exact ((insN_perm x l).cons y).trans (List.Perm.swap x y l)
theorem insN_sorted (x : Nat) : ∀ l : List Nat, l.Pairwise (· ≤ ·) → (insN x l).Pairwise (· ≤ ·)
  | [], _ => List.pairwise_singleton _ _
  | y :: l, h => by
    unfold insN
    obtain ⟨h1, h2⟩ := List.pairwise_cons.mp h
    split
    · rename_i q
      exact List.pairwise_cons.mpr ⟨fun z hz => by
        rcases List.mem_cons.mp hz with e | hz
        · subst e; exact q
        · have := h1 z hz; omega, h⟩
    · rename_i q
      exact List.pairwise_cons.mpr ⟨fun z hz => by
        rcases List.mem_cons.mp ((insN_perm x l).mem_iff.mp hz) with e | hz
        · subst e; omega
        · exact h1 z hz, insN_sorted x l h2⟩
theorem sortN_perm : ∀ l : List Nat, (sortN l).Perm l
  | [] => List.Perm.refl _
  | x :: l => (insN_perm x (sortN l)).trans ((sortN_perm l).cons x)
theorem sortN_sorted : ∀ l : List Nat, (sortN l).Pairwise (· ≤ ·)
  | [] => List.Pairwise.nil
  | x :: l => insN_sorted x _ (sortN_sorted l)
theorem sortN_lt {l : List Nat} (h : l.Nodup) : (sortN l).Pairwise (· < ·) := by
  have h1 := sortN_sorted l
  have h2 : (sortN l).Nodup := (sortN_perm l).nodup_iff.mpr h
  exact (h1.and h2).imp fun ⟨a, b⟩ => Nat.lt_of_le_of_ne a b
end DL
set_option Elab.async false
set_option linter.all false
/-! Rows of numbers as data; the operators on numbers in one statement. -/
namespace DL
open PySem
/-! statements one behind another -/
theorem seq_nx {a b : SS} {ρ ρ' : Ev} {r : R Out} (h : a ρ = .ok (.nx ρ')) (k : b ρ' = r) : sSeq a b ρ = r := by
  show (a ρ).bind (fun o => andThen o b) = r
  rw [h]
  exact k
theorem seq_assoc (a b c : SS) : sSeq a (sSeq b c) = sSeq (sSeq a b) c := by
  funext ρ
  show (a ρ).bind (fun o => andThen o (sSeq b c)) = ((a ρ).bind fun o => andThen o b).bind fun o => andThen o c
  cases a ρ with
  | ok o => cases o <;> simp
  | exc _ => simp
  | bad => simp
theorem run_rt {n : Nat} {body : SS} {ds : List Da} {d : Da} (h : body (ds.map some ++ List.replicate (n - ds.length) none) = .ok (.rt d)) : runDef n body ds = .ok d := by
  rw [runDef_, h]
  rfl
/-- a row of numbers -/
def nl (l : List Nat) : List Da := l.map di
/-- a row of integers -/
def il (l : List Int) : List Da := l.map PyData.int
/-- a row of flags -/
def bl (l : List Bool) : List Da := l.map PyData.bool
@[simp] theorem nl_nil : nl [] = [] := rfl
@[simp] theorem nl_cons (x : Nat) (l : List Nat) : nl (x :: l) = di x :: nl l := rfl
@[simp] theorem nl_append (l m : List Nat) : nl (l ++ m) = nl l ++ nl m := by simp [nl]
@[simp] theorem nl_length (l : List Nat) : (nl l).length = l.length := by simp [nl]
@[simp] theorem nl_isEmpty (l : List Nat) : (nl l).isEmpty = l.isEmpty := by cases l <;> rfl
@[simp] theorem il_isEmpty (l : List Int) : (il l).isEmpty = l.isEmpty := by cases l <;> rfl
theorem nl_reverse (l : List Nat) : (nl l).reverse = nl l.reverse := by simp [nl, List.map_reverse]
theorem il_reverse (l : List Int) : (il l).reverse = il l.reverse := by simp [il, List.map_reverse]
theorem nl_take (l : List Nat) (n : Nat) : (nl l).take n = nl (l.take n) := by simp [nl, List.map_take]
theorem nl_drop (l : List Nat) (n : Nat) : (nl l).drop n = nl (l.drop n) := by simp [nl, List.map_drop]
theorem nl_set (l : List Nat) (n x : Nat) : (nl l).set n (di x) = nl (l.set n x) := by simp [nl, List.map_set]
@[simp] theorem il_nil : il [] = [] := rfl
@[simp] theorem il_cons (x : Int) (l : List Int) : il (x :: l) = .int x :: il l := rfl
@[simp] theorem il_append (l m : List Int) : il (l ++ m) = il l ++ il m := by simp [il]
@[simp] theorem il_length (l : List Int) : (il l).length = l.length := by simp [il]
theorem nl_il (l : List Nat) : nl l = il (l.map fun n : Nat => (n : Int)) := by
  unfold nl il
  rw [List.map_map]
  rfl
theorem getD_nl (l : List Nat) (k : Nat) (h : k < l.length) : (nl l)[k]? = some (di (l.getD k 0)) := by
  unfold nl
  rw [List.getElem?_map, List.getElem?_eq_getElem h]
  simp [h]
theorem getD_il (l : List Int) (k : Nat) (h : k < l.length) : (il l)[k]? = some (.int (l.getD k 0)) := by
  unfold il
  rw [List.getElem?_map, List.getElem?_eq_getElem h]
  simp [h]
@[simp] theorem bls_bl (l : List Bool) : blsD (bl l) = .ok l := by
  induction l with
  | nil => rfl
  | cons b l ih =>
    show (blsD (bl l)).bind _ = _
    rw [ih]
    rfl
@[simp] theorem ints_il (l : List Int) : intsD (il l) = .ok l := by
  have := ints_map (fun i : Int => i) l
  rw [List.map_id'] at this
  exact this
@[simp] theorem ints_nl (l : List Nat) : intsD (nl l) = .ok (l.map fun n : Nat => (n : Int)) := ints_map (fun n : Nat => (n : Int)) l
def sumN (l : List Nat) : Nat := l.foldr (· + ·) 0
@[simp] theorem sumN_nil : sumN [] = 0 := rfl
@[simp] theorem sumN_cons (x : Nat) (l : List Nat) : sumN (x :: l) = x + sumN l := rfl
theorem sumN_append : ∀ l m : List Nat, sumN (l ++ m) = sumN l + sumN m
  | [], m => by simp
  | x :: l, m => by rw [List.cons_append, sumN_cons, sumN_cons, sumN_append l m]; omega
theorem sumN_cast : ∀ l : List Nat, (l.map fun n : Nat => (n : Int)).sum = ((sumN l : Nat) : Int)
  | [] => rfl
  | x :: l => by
    rw [List.map_cons, List.sum_cons, sumN_cast l]
    simp
theorem int_cast (n : Nat) : PyData.int (n : Int) = di n := rfl
theorem dAbs_sub (a b : Nat) : dAbs [.int ((a : Int) - b)] = .ok (di ((a - b) + (b - a))) := by
  show R.ok (PyData.int _) = R.ok (PyData.int _)
  congr 2
  split <;> omega
theorem dSub_cast (a b : Nat) : dSub (di a) (di b) = .ok (.int ((a : Int) - b)) := rfl
/-- the operators on numbers -/
theorem dn : (∀ a b : Nat, dAdd (di a) (di b) = .ok (di (a + b))) ∧ (∀ a b : Nat, addI (di a) (di b) = .ok (di (a + b))) ∧
    (∀ a b : Nat, dEq (di a) (di b) = .ok (.bool (decide (a = b)))) ∧ (∀ a b : Nat, dNe (di a) (di b) = .ok (.bool (!decide (a = b)))) ∧
    (∀ a b : Nat, dLt (di a) (di b) = .ok (.bool (decide (a < b)))) ∧ (∀ a b : Nat, dLe (di a) (di b) = .ok (.bool (decide (a ≤ b)))) ∧
    (∀ a b : Nat, dGt (di a) (di b) = .ok (.bool (decide (b < a)))) ∧ (∀ a b : Nat, dGe (di a) (di b) = .ok (.bool (decide (b ≤ a)))) ∧
    (∀ a b : Nat, b ≤ a → dSub (di a) (di b) = .ok (di (a - b))) ∧
    (∀ a b : Nat, 0 < b → dMod (di a) (di b) = .ok (di (a % b))) ∧ (∀ a b : Nat, 0 < b → b < 1073741824 → dDiv (di a) (di b) = .ok (di (a / b))) ∧
    (∀ a b : Nat, b < 1073741824 → mulI (di a) (di b) = .ok (di (a * b))) ∧
    (∀ a b : Nat, dMin2 [di a, di b] = .ok (di (min b a))) ∧ (∀ a b : Nat, dMax2 [di a, di b] = .ok (di (max b a))) ∧
    (∀ a : Nat, dAbs [di a] = .ok (di a)) ∧ (∀ n : Nat, PyData.int (n : Int) = di n) :=
  ⟨dAdd_nat, addI_nat, dEq_nat, dNe_nat, dLt_nat, dLe_nat, dGt_nat, dGe_nat, dSub_nat, dMod_nat, dDiv_nat, mulI_nat, dMin2_nat, dMax2_nat, fun a => by
    show R.ok (PyData.int (if (a : Int) < 0 then -(a : Int) else a)) = _
    rw [if_neg (by omega)]; rfl, fun _ => rfl⟩
/-- rows of numbers: places, lengths -/
theorem dl : (∀ (l : List Nat) (k : Nat), k < l.length → dIx (.list (nl l)) (di k) = .ok (di (l.getD k 0))) ∧
    (∀ (l : List Nat) (k : Nat), k < l.length → dIx (.tuple (nl l)) (di k) = .ok (di (l.getD k 0))) ∧
    (∀ (l : List Int) (k : Nat), k < l.length → dIx (.list (il l)) (di k) = .ok (.int (l.getD k 0))) ∧
    (∀ (l : List Int) (k : Nat), k < l.length → dIx (.tuple (il l)) (di k) = .ok (.int (l.getD k 0))) ∧
    (∀ (l : List Nat), dLen [.list (nl l)] = .ok (di l.length)) ∧ (∀ (l : List Nat), dLen [.tuple (nl l)] = .ok (di l.length)) ∧
    (∀ (l : List Int), dLen [.list (il l)] = .ok (di l.length)) ∧ (∀ (l : List Int), dLen [.tuple (il l)] = .ok (di l.length)) ∧
    (∀ (l : List Nat), dSumL [.list (nl l)] = .ok (di (sumN l))) ∧ (∀ (l : List Nat), dSumL [.tuple (nl l)] = .ok (di (sumN l))) := by
  refine ⟨fun l k h => ?_, fun l k h => ?_, fun l k h => ?_, fun l k h => ?_, fun l => ?_, fun l => ?_, fun l => ?_, fun l => ?_, fun l => ?_, fun l => ?_⟩
  · rw [dIx_list_nat, getD_nl l k h]; rfl
  · rw [dIx_tuple_nat, getD_nl l k h]; rfl
  · rw [dIx_list_nat, getD_il l k h]; rfl
  · rw [dIx_tuple_nat, getD_il l k h]; rfl
  · rw [dLen_list_nat, nl_length]
  · rw [dLen_tuple_nat, nl_length]
  · rw [dLen_list_nat, il_length]
  · rw [dLen_tuple_nat, il_length]
  · rw [dSumL_list, ints_nl, R.bind_ok, sumN_cast]; rfl
  · show (intsD (nl l)).bind _ = _
    rw [ints_nl, R.bind_ok, sumN_cast]; rfl
/-- a comprehension over numbers -/
theorem lc_nl {f : Da → R (Option Da)} (g : Nat → Nat) (l : List Nat) (w : ∀ x, x ∈ l → f (di x) = .ok (some (di (g x)))) : lcL f (nl l) = .ok (nl (l.map g)) := by
  unfold nl
  rw [lcL_map di (fun x => di (g x)) l w, List.map_map]
  rfl
theorem lc_nlI {f : Da → R (Option Da)} (g : Nat → Int) (l : List Nat) (w : ∀ x, x ∈ l → f (di x) = .ok (some (.int (g x)))) : lcL f (nl l) = .ok (il (l.map g)) := by
  unfold nl il
  rw [lcL_map di (fun x => .int (g x)) l w, List.map_map]
  rfl
theorem lc_nlB {f : Da → R (Option Da)} (p : Nat → Bool) (l : List Nat) (w : ∀ x, x ∈ l → f (di x) = .ok (some (.bool (p x)))) : lcL f (nl l) = .ok (bl (l.map p)) := by
  unfold nl bl
  rw [lcL_map di (fun x => .bool (p x)) l w, List.map_map]
  rfl
theorem lc_nlF {f : Da → R (Option Da)} (p : Nat → Bool) (g : Nat → Nat) (l : List Nat) (w : ∀ x, x ∈ l → f (di x) = .ok (if p x then some (di (g x)) else none)) : lcL f (nl l) = .ok (nl ((l.filter p).map g)) := by
  unfold nl
  rw [lcL_filter di p (fun x => di (g x)) l w, List.map_map]
  rfl
theorem lc_nlFB {f : Da → R (Option Da)} (p q : Nat → Bool) (l : List Nat) (w : ∀ x, x ∈ l → f (di x) = .ok (if p x then some (.bool (q x)) else none)) : lcL f (nl l) = .ok (bl ((l.filter p).map q)) := by
  unfold nl bl
  rw [lcL_filter di p (fun x => .bool (q x)) l w, List.map_map]
  rfl
theorem rng_nl (n : Nat) (h : n ≤ big) : dRng 0 (n : Int) = .ok (nl (List.range n)) := dRng_0 n h
theorem rng_nl2 (a b : Nat) (ha : a ≤ big) (hb : b ≤ big) : dRng (a : Int) (b : Int) = .ok (nl (List.range' a (b - a))) := by
  by_cases h : a ≤ b
  · exact dRng_at a b h hb
  · unfold dRng
    unfold big at ha hb ⊢
    have e : ((b : Int) - (a : Int)).toNat = 0 := by omega
    have e2 : b - a = 0 := by omega
    rw [if_pos ⟨by omega, by omega, by omega⟩, e, e2]
    rfl
theorem dAbs_na (i : Int) : dAbs [.int i] = .ok (di i.natAbs) := by
  show R.ok (PyData.int _) = R.ok (PyData.int _)
  congr 2
  split <;> omega
theorem zipD_nl : ∀ B H : List Nat, zipD (nl B) (nl H) = (List.range (min B.length H.length)).map fun k => .tuple [di (B.getD k 0), di (H.getD k 0)]
  | [], _ => by simp [zipD]
  | _ :: _, [] => by simp [zipD]
  | b :: B, h :: H => by
    have e : min (b :: B).length (h :: H).length = min B.length H.length + 1 := by simp
    rw [e, List.range_succ_eq_map, List.map_cons, List.map_map, nl_cons, nl_cons]
    show PyData.tuple [di b, di h] :: zipD (nl B) (nl H) = _
    rw [zipD_nl B H]
    rfl
/-- pairs of integers -/
def p2 (z : Int × Int) : Da := .tuple [.int z.1, .int z.2]
theorem alike_p2 (x y : Int × Int) : PySem.W.alike (p2 x) (p2 y) = true := by simp [p2, PySem.W.alike, PySem.W.alikeAll]
theorem depth_p2 (x : Int × Int) : (p2 x).depth = 1 := by simp [p2, PyData.depth, PyData.depthAll]
theorem lay_p2 (x : Int × Int) : (p2 x).canLay0 = true := by simp [p2, PyData.canLay0, PyData.canLayAll0]
theorem alkB_map {α : Type} (e : α → Da) (n : Nat) (hn : n ≤ 50) (h1 : ∀ x y, PySem.W.alike (e x) (e y) = true) (h2 : ∀ x, (e x).depth ≤ n) (h3 : ∀ x, (e x).canLay0 = true) (h4 : ∀ x, someD (e x) = true) (l : List α) : alkB (l.map e) = true := by
  have d : PyData.depthAll (l.map e) ≤ n := by
    induction l with
    | nil => simp [PyData.depthAll]
    | cons x l ih => simp only [List.map_cons, PyData.depthAll]; have := h2 x; omega
  have c : PyData.canLayAll0 (l.map e) = true := by
    induction l with
    | nil => simp [PyData.canLayAll0]
    | cons x l ih =>
      simp only [List.map_cons, PyData.canLayAll0, h3, Bool.true_and]
      exact ih (by simp only [List.map_cons, PyData.depthAll] at d; omega)
  unfold alkB
  simp only [Bool.and_eq_true, List.all_eq_true, decide_eq_true_eq]
  refine ⟨fun x hx y hy => ?_, fun x hx => ?_, by omega, c⟩
  · obtain ⟨a, _, rfl⟩ := List.mem_map.mp hx
    obtain ⟨b, _, rfl⟩ := List.mem_map.mp hy
    exact h1 a b
  · obtain ⟨a, _, rfl⟩ := List.mem_map.mp hx
    exact h4 a
theorem alk_p2 (l : List (Int × Int)) : alkB (l.map p2) = true := alkB_map p2 1 (by decide) alike_p2 (fun x => by rw [depth_p2]; exact Nat.le_refl _) lay_p2 (fun _ => rfl) l
theorem srt_p2 (l : List (Int × Int)) : srtB (l.map p2) = true := by
  unfold srtB
  have : (l.map p2).all tupD1 = true := by
    rw [List.all_eq_true]
    intro x hx
    obtain ⟨a, _, rfl⟩ := List.mem_map.mp hx
    rfl
  rw [this]
  rfl
theorem lt_p2 (x y : Int × Int) : PySem.W.dataLt (p2 x) (p2 y) = decide (x.1 < y.1 ∨ (x.1 = y.1 ∧ x.2 < y.2)) := PySem.W.dataLt_ii _ _ _ _
/-- the first of the least -/
def mn2 (z : Int × Int) (l : List (Int × Int)) : Int × Int := l.foldl (fun a y => if decide (y.1 < a.1 ∨ (y.1 = a.1 ∧ y.2 < a.2)) then y else a) z
theorem minD_p2 : ∀ (l : List (Int × Int)) (z : Int × Int), PySem.W.minD (p2 z) (l.map p2) = p2 (mn2 z l)
  | [], z => rfl
  | y :: l, z => by
    show PySem.W.minD (if PySem.W.dataLt (p2 y) (p2 z) then p2 y else p2 z) (l.map p2) = p2 (mn2 (if decide (y.1 < z.1 ∨ (y.1 = z.1 ∧ y.2 < z.2)) then y else z) l)
    rw [lt_p2, ← minD_p2 l]
    split <;> rfl
theorem mn2_le : ∀ (l : List (Int × Int)) (z : Int × Int), mn2 z l ∈ z :: l ∧ ∀ y, y ∈ z :: l → (mn2 z l).1 < y.1 ∨ ((mn2 z l).1 = y.1 ∧ (mn2 z l).2 ≤ y.2)
  | [], z => ⟨List.mem_cons_self, fun y hy => by
    rw [List.mem_singleton] at hy; subst hy
    exact .inr ⟨rfl, Int.le_refl _⟩⟩
  | x :: l, z => by
    have e : mn2 z (x :: l) = mn2 (if decide (x.1 < z.1 ∨ (x.1 = z.1 ∧ x.2 < z.2)) then x else z) l := rfl
    obtain ⟨h1, h2⟩ := mn2_le l (if decide (x.1 < z.1 ∨ (x.1 = z.1 ∧ x.2 < z.2)) then x else z)
    rw [e]
    generalize hc : (if decide (x.1 < z.1 ∨ (x.1 = z.1 ∧ x.2 < z.2)) then x else z) = c at h1 h2
    have hcz : (c = x ∧ (x.1 < z.1 ∨ (x.1 = z.1 ∧ x.2 < z.2))) ∨ (c = z ∧ ¬(x.1 < z.1 ∨ (x.1 = z.1 ∧ x.2 < z.2))) := by
      by_cases q : x.1 < z.1 ∨ (x.1 = z.1 ∧ x.2 < z.2)
      · rw [decide_eq_true q, if_pos rfl] at hc
        exact .inl ⟨hc.symm, q⟩
      · rw [decide_eq_false q, if_neg Bool.false_ne_true] at hc
        exact .inr ⟨hc.symm, q⟩
    have hm := h2 c List.mem_cons_self
    refine ⟨?_, fun y hy => ?_⟩
    · rcases List.mem_cons.mp h1 with q | q
      · rw [q]
        rcases hcz with ⟨e1, _⟩ | ⟨e1, _⟩
        · rw [e1]; exact List.mem_cons_of_mem _ List.mem_cons_self
        · rw [e1]; exact List.mem_cons_self
      · exact List.mem_cons_of_mem _ (List.mem_cons_of_mem _ q)
    · rcases List.mem_cons.mp hy with q | hy
      · subst q
        rcases hcz with ⟨e1, e2⟩ | ⟨e1, e2⟩
        · subst e1; omega
        · subst e1; exact hm
      · rcases List.mem_cons.mp hy with q | hy
        · subst q
          rcases hcz with ⟨e1, e2⟩ | ⟨e1, e2⟩
          · subst e1; exact hm
          · subst e1; omega
        · exact h2 y (List.mem_cons_of_mem _ hy)
theorem minG_p2 (z : Int × Int) (l : List (Int × Int)) : minG (p2 z :: l.map p2) = .ok (p2 (mn2 z l)) := by
  have a : alkB (p2 z :: l.map p2) = true := alk_p2 (z :: l)
  show (if alkB (p2 z :: l.map p2) then R.ok (PySem.W.minD (p2 z) (l.map p2)) else .bad) = _
  rw [if_pos a, minD_p2]
theorem ltG_p2 (x y : Int × Int) : dLtG (p2 x) (p2 y) = .ok (.bool (decide (x.1 < y.1 ∨ (x.1 = y.1 ∧ x.2 < y.2)))) := by
  have a : alkB [p2 x, p2 y] = true := alk_p2 [x, y]
  unfold dLtG
  rw [if_pos a, lt_p2]
theorem eqE_p2 {n : Nat} : EqE (n + 1) p2 := EqE.pair EqE.int EqE.int
theorem maxI_cast : ∀ (xs : List Nat) (x : Nat), (xs.map fun n : Nat => (n : Int)).foldl max (x : Int) = ((xs.foldl max x : Nat) : Int)
  | [], x => rfl
  | y :: xs, x => by
    rw [List.map_cons, List.foldl_cons, List.foldl_cons, ← maxI_cast xs (max x y)]
    congr 1
    omega
theorem minI_castN : ∀ (xs : List Nat) (x : Nat), (xs.map fun n : Nat => (n : Int)).foldl min (x : Int) = ((xs.foldl min x : Nat) : Int)
  | [], x => rfl
  | y :: xs, x => by
    rw [List.map_cons, List.foldl_cons, List.foldl_cons, ← minI_castN xs (min x y)]
    congr 1
    omega
theorem dMaxL_nl (x : Nat) (l : List Nat) : dMaxL [.list (nl (x :: l))] = .ok (di (l.foldl max x)) := by
  rw [dMaxL_list, ints_nl, R.bind_ok]
  show R.ok (PyData.int _) = _
  rw [maxI_cast]
  rfl
theorem dMinL_nl (x : Nat) (l : List Nat) : dMinL [.list (nl (x :: l))] = .ok (di (l.foldl min x)) := by
  rw [dMinL_list, ints_nl, R.bind_ok]
  show R.ok (PyData.int _) = _
  rw [minI_castN]
  rfl
theorem foldl_max_leN : ∀ (l : List Nat) (x b : Nat), x ≤ b → (∀ y, y ∈ l → y ≤ b) → l.foldl max x ≤ b
  | [], _, _, h, _ => h
  | y :: l, x, b, h, h2 => foldl_max_leN l (max x y) b (by have := h2 y List.mem_cons_self; omega) fun z hz => h2 z (List.mem_cons_of_mem _ hz)
theorem foldl_max_geN : ∀ (l : List Nat) (x : Nat), ∀ y, y ∈ x :: l → y ≤ l.foldl max x
  | [], x, y, h => by rw [List.mem_singleton] at h; subst h; exact Nat.le_refl _
  | z :: l, x, y, h => by
    have g := foldl_max_geN l (max x z)
    rw [List.foldl_cons]
    rcases List.mem_cons.mp h with e | h
    · subst e
      have := g (max y z) List.mem_cons_self
      omega
    · rcases List.mem_cons.mp h with e | h
      · subst e
        have := g (max x y) List.mem_cons_self
        omega
      · exact g y (List.mem_cons_of_mem _ h)
theorem le_foldl_minN : ∀ (l : List Nat) (x b : Nat), b ≤ x → (∀ y, y ∈ l → b ≤ y) → b ≤ l.foldl min x
  | [], _, _, h, _ => h
  | y :: l, x, b, h, h2 => le_foldl_minN l (min x y) b (by have := h2 y List.mem_cons_self; omega) fun z hz => h2 z (List.mem_cons_of_mem _ hz)
theorem all_map_id {α : Type} (p : α → Bool) (l : List α) : (l.map p).all id = l.all p := by simp [List.all_map]
end DL
set_option Elab.async false
set_option linter.all false
set_option maxRecDepth 100000
/-! What the defs of the row compute, printed by gen.py. -/
namespace K76
open PySem DL
def b_is_integer : SS :=
    (sRet (eAnd (e1 (dIsi .int) (eVar 0)) (e1 dNot (e1 (dIsi .bool) (eVar 0)))))
def f_is_integer (ds : List Da) : R Da := runDef 1 b_is_integer ds

def b_is_between : SS :=
    (sRet (eAnd (eA f_is_integer (aCons (eVar 0) aNil)) (eChain dLe dLe (eVar 1) (eVar 0) (eVar 2))))
def f_is_between (ds : List Da) : R Da := runDef 3 b_is_between ds

def b_is_under : SS :=
    (sRet (eAnd (eA f_is_integer (aCons (eVar 0) aNil)) (eChain dLe dLt (eC (.int 0)) (eVar 0) (eVar 1))))
def f_is_under (ds : List Da) : R Da := runDef 2 b_is_under ds

def b_is_tuple_of : SS :=
    (sRet (eAnd (e1 (dIsi .tuple) (eVar 0)) (e2 dEq (eA dLen (aCons (eVar 0) aNil)) (eVar 1))))
def f_is_tuple_of (ds : List Da) : R Da := runDef 2 b_is_tuple_of ds

def b_are_under : SS :=
    (sRet (eAnd (e1 (dIsi .tuple) (eVar 0)) (eA dAll (aCons (eLc (iL (eVar 0)) (gVar 2) [2] eYes (eA f_is_under (aCons (eVar 2) (aCons (eVar 1) aNil)))) aNil))))
def f_are_under (ds : List Da) : R Da := runDef 3 b_are_under ds

def b_is_lot : SS :=
    (sRet (eAnd (eA f_are_under (aCons (eVar 0) (aCons (eVar 1) aNil))) (eA dAll (aCons (eLc (iRng2 (eC (.int 1)) (eA dLen (aCons (eVar 0) aNil))) (gVar 2) [2] eYes (e2 dLt (e2 dIx (eVar 0) (e2 dSub (eVar 2) (eC (.int 1)))) (e2 dIx (eVar 0) (eVar 2)))) aNil))))
def f_is_lot (ds : List Da) : R Da := runDef 3 b_is_lot ds

def b_are_bodies : SS :=
    (sSeq (sIf (eOr (e1 dNot (e1 (dIsi .tuple) (eVar 0))) (e2 dGt (eA dLen (aCons (eVar 0) aNil)) (eC (.int 12)))) (sRet (eC (.bool false))) sNx)
    (sSeq (sIf (e1 dNot (eA dAll (aCons (eLc (iL (eVar 0)) (gVar 2) [2] eYes (eA f_is_between (aCons (eVar 2) (aCons (eC (.int 0)) (aCons (eC (.int 200)) aNil))))) aNil))) (sRet (eC (.bool false))) sNx)
    (sRet (eA dAll (aCons (eLc (iRng2 (eC (.int 1)) (eA dLen (aCons (eVar 0) aNil))) (gVar 1) [1] eYes (e2 dLe (e2 dIx (eVar 0) (e2 dSub (eVar 1) (eC (.int 1)))) (e2 dIx (eVar 0) (eVar 1)))) aNil)))))
def f_are_bodies (ds : List Da) : R Da := runDef 3 b_are_bodies ds

def b_need_bodies : SS :=
    (sSeq (sIf (e1 dNot (eA f_are_bodies (aCons (eVar 0) aNil))) (sRaise "NoSizes") sNx)
    (sIf (e1 dNot (eA f_is_between (aCons (eVar 1) (aCons (eC (.int 0)) (aCons (eC (.int 50)) aNil))))) (sRaise "NoNumber") sNx))
def f_need_bodies (ds : List Da) : R Da := runDef 2 b_need_bodies ds

def b_fits : SS :=
    (sRet (e2 dLe (eA dAbs (aCons (e2 dSub (eVar 0) (eVar 1)) aNil)) (eVar 2)))
def f_fits (ds : List Da) : R Da := runDef 3 b_fits ds

def l_cover_of_0 : SS :=
    (sPost [4, 5] (sIf (e1 dNot (eA dAny (aCons (eLc (iL (eVar 2)) (gVar 6) [6] eYes (eA f_fits (aCons (eVar 6) (aCons (eVar 5) (aCons (eVar 1) aNil))))) aNil))) (sSeq (sAppend 2 (e2 dAdd (eVar 5) (eVar 1)))
    (sAppend 3 (eVar 4))) sNx))
def b_cover_of : SS :=
    (sSeq (sPr true true 2 3 (eLst aNil) (eLst aNil))
    (sSeq (sWk [4, 5] (sNox (sFor (iEnum (eVar 0)) (gTupD [(gVar 4), (gVar 5)]) l_cover_of_0)))
    (sRet (eTup (aCons (eA dTuple (aCons (eVar 2) aNil)) (aCons (eA dTuple (aCons (eVar 3) aNil)) aNil))))))
def f_cover_of (ds : List Da) : R Da := runDef 7 b_cover_of ds

def b_size_cover : SS :=
    (sSeq (sExpr (eA f_need_bodies (aCons (eVar 0) (aCons (eVar 1) aNil))))
    (sRet (eA f_cover_of (aCons (eVar 0) (aCons (eVar 1) aNil)))))
def f_size_cover (ds : List Da) : R Da := runDef 2 b_size_cover ds

def b_do_cover : SS :=
    (sSeq (sIf (eOr (e1 dNot (e1 (dIsi .tuple) (eVar 2))) (e1 dNot (eA dAll (aCons (eLc (iL (eVar 2)) (gVar 5) [5] eYes (eA f_is_between (aCons (eVar 5) (aCons (eC (.int 0)) (aCons (e2 dAdd (eC (.int 200)) (eC (.int 50))) aNil))))) aNil)))) (sRet (eC (.bool false))) sNx)
    (sSeq (sIf (e1 dNot (eA dAll (aCons (eLc (iRng2 (eC (.int 1)) (eA dLen (aCons (eVar 2) aNil))) (gVar 4) [4] eYes (e2 dLt (e2 dIx (eVar 2) (e2 dSub (eVar 4) (eC (.int 1)))) (e2 dIx (eVar 2) (eVar 4)))) aNil))) (sRet (eC (.bool false))) sNx)
    (sRet (eA dAll (aCons (eLc (iL (eVar 0)) (gVar 3) [3] eYes (eA dAny (aCons (eLc (iL (eVar 2)) (gVar 6) [6] eYes (eA f_fits (aCons (eVar 6) (aCons (eVar 3) (aCons (eVar 1) aNil))))) aNil))) aNil)))))
def f_do_cover (ds : List Da) : R Da := runDef 7 b_do_cover ds

def b_are_apart : SS :=
    (sSeq (sIf (e1 dNot (eA f_is_lot (aCons (eVar 2) (aCons (eA dLen (aCons (eVar 0) aNil)) aNil)))) (sRet (eC (.bool false))) sNx)
    (sRet (eA dAll (aCons (eLc (iRng2 (eC (.int 1)) (eA dLen (aCons (eVar 2) aNil))) (gVar 3) [3] eYes (e2 dGt (e2 dSub (e2 dIx (eVar 0) (e2 dIx (eVar 2) (eVar 3))) (e2 dIx (eVar 0) (e2 dIx (eVar 2) (e2 dSub (eVar 3) (eC (.int 1)))))) (e2 mulI (eC (.int 2)) (eVar 1)))) aNil))))
def f_are_apart (ds : List Da) : R Da := runDef 4 b_are_apart ds

def b_is_size_cover : SS :=
    (sSeq (sExpr (eA f_need_bodies (aCons (eVar 0) (aCons (eVar 1) aNil))))
    (sSeq (sIf (eOr (e1 dNot (eA f_is_tuple_of (aCons (eVar 2) (aCons (eC (.int 2)) aNil)))) (eOr (e1 dNot (eA f_do_cover (aCons (eVar 0) (aCons (eVar 1) (aCons (e2 dIx (eVar 2) (eC (.int 0))) aNil))))) (e1 dNot (eA f_are_apart (aCons (eVar 0) (aCons (eVar 1) (aCons (e2 dIx (eVar 2) (eC (.int 1))) aNil))))))) (sRet (eC (.bool false))) sNx)
    (sRet (e2 dEq (eA dLen (aCons (e2 dIx (eVar 2) (eC (.int 0))) aNil)) (eA dLen (aCons (e2 dIx (eVar 2) (eC (.int 1))) aNil))))))
def f_is_size_cover (ds : List Da) : R Da := runDef 3 b_is_size_cover ds

def b_size_fewest : SS :=
    (sSeq (sExpr (eA f_need_bodies (aCons (eVar 0) (aCons (eVar 1) aNil))))
    (sRet (eA dLen (aCons (e2 dIx (eA f_cover_of (aCons (eVar 0) (aCons (eVar 1) aNil))) (eC (.int 0))) aNil))))
def f_size_fewest (ds : List Da) : R Da := runDef 2 b_size_fewest ds

def l_size_ease_0 : SS :=
    (sPost [2] (sIf (e2 dLe (eA dLen (aCons (e2 dIx (eA f_cover_of (aCons (eVar 0) (aCons (eVar 2) aNil))) (eC (.int 0))) aNil)) (eVar 1)) (sRet (eVar 2)) sNx))
def b_size_ease : SS :=
    (sSeq (sExpr (eA f_need_bodies (aCons (eVar 0) (aCons (eC (.int 0)) aNil))))
    (sSeq (sIf (e1 dNot (eA f_is_between (aCons (eVar 1) (aCons (eC (.int 1)) (aCons (eC (.int 10)) aNil))))) (sRaise "NoNumber") sNx)
    (sSeq (sWk [2] (sNox (sFor (iRng1 (e2 dAdd (eC (.int 200)) (eC (.int 1)))) (gVar 2) l_size_ease_0)))
    (sRet (eC .none)))))
def f_size_ease (ds : List Da) : R Da := runDef 3 b_size_ease ds

def b__law_mixed : SS :=
    (sSeq (sAsg (gVar 2) (e2 dAdd (e2 dAdd (e2 mulI (eA dInt (aCons (eVar 0) aNil)) (eC (.int 48271))) (e2 mulI (eVar 1) (eC (.int 69621)))) (eC (.int 11))))
    (sRet (e2 dMod (eA dInt (aCons (e2 dAdd (e2 mulI (eVar 2) (eC (.int 16807))) (e2 dDiv (eVar 2) (eC (.int 8191)))) aNil)) (eC (.int 2147483647)))))
def f__law_mixed (ds : List Da) : R Da := runDef 3 b__law_mixed ds

def l__law_row_0 : SS :=
    (sPost [6] (sIf (eVar 5) (sSeq (sAppend 3 (e2 dMod (eA dInt (aCons (eVar 4) aNil)) (eVar 2)))
    (sAsg (gVar 4) (e2 dDiv (eVar 4) (eVar 2)))) (sAppend 3 (e2 dMod (e2 dDiv (eA f__law_mixed (aCons (eVar 0) (aCons (eVar 6) aNil))) (eC (.int 7))) (eVar 2)))))
def b__law_row : SS :=
    (sSeq (sOwn 3 (eLst aNil))
    (sSeq (sAsg (gVar 4) (eA dInt (aCons (eVar 0) aNil)))
    (sSeq (sAsg (gVar 5) (e2 dGe (eVar 4) (eC (.int 1000000000000000000))))
    (sSeq (sWk [6] (sNox (sFor (iRng1 (eVar 1)) (gVar 6) l__law_row_0)))
    (sRet (eVar 3))))))
def f__law_row (ds : List Da) : R Da := runDef 7 b__law_row ds

def b__law_bodies : SS :=
    (sSeq (sAsg (gVar 2) (eA f__law_row (aCons (eVar 0) (aCons (e2 dAdd (eVar 1) (eC (.int 3))) (aCons (eC (.int 1000)) aNil)))))
    (sSeq (sAsg (gVar 3) (e2 dIx (eLst (aCons (eC (.int 10)) (aCons (eC (.int 60)) (aCons (eC (.int 201)) aNil)))) (e2 dMod (e2 dIx (eVar 2) (eC (.int 1))) (eC (.int 3)))))
    (sSeq (sAsg (gVar 4) (eA dTuple (aCons (eA dSorted (aCons (eLc (iRng1 (e2 dMod (e2 dIx (eVar 2) (eC (.int 0))) (e2 dAdd (eVar 1) (eC (.int 1))))) (gVar 5) [5] eYes (e2 dMod (e2 dIx (eVar 2) (e2 dAdd (eC (.int 3)) (eVar 5))) (eVar 3))) aNil)) aNil)))
    (sRet (eTup (aCons (eVar 4) (aCons (e2 dMod (e2 dIx (eVar 2) (eC (.int 2))) (e2 dIx (eLst (aCons (eC (.int 4)) (aCons (eC (.int 12)) (aCons (eC (.int 51)) aNil)))) (e2 dMod (e2 dIx (eVar 2) (eC (.int 1))) (eC (.int 3))))) aNil)))))))
def f__law_bodies (ds : List Da) : R Da := runDef 6 b__law_bodies ds

def b__law_fits : SS :=
    (sRet (e2 dLe (eA dAbs (aCons (e2 dSub (eVar 0) (eVar 1)) aNil)) (eVar 2)))
def f__law_fits (ds : List Da) : R Da := runDef 3 b__law_fits ds

def b__law_whole : SS :=
    (sRet (eAnd (e1 (dIsi .int) (eVar 0)) (e1 dNot (e1 (dIsi .bool) (eVar 0)))))
def f__law_whole (ds : List Da) : R Da := runDef 1 b__law_whole ds

def b__law_do_cover : SS :=
    (sSeq (sIf (eOr (e1 dNot (e1 (dIsi .tuple) (eVar 2))) (e1 dNot (eA dAll (aCons (eLc (iL (eVar 2)) (gVar 5) [5] eYes (eAnd (eA f__law_whole (aCons (eVar 5) aNil)) (eChain dLe dLe (eC (.int 0)) (eVar 5) (eC (.int 250))))) aNil)))) (sRet (eC (.bool false))) sNx)
    (sSeq (sIf (eA dAny (aCons (eLc (iRng2 (eC (.int 1)) (eA dLen (aCons (eVar 2) aNil))) (gVar 3) [3] eYes (e2 dGe (e2 dIx (eVar 2) (e2 dSub (eVar 3) (eC (.int 1)))) (e2 dIx (eVar 2) (eVar 3)))) aNil)) (sRet (eC (.bool false))) sNx)
    (sRet (eA dAll (aCons (eLc (iL (eVar 0)) (gVar 4) [4] eYes (eA dAny (aCons (eLc (iL (eVar 2)) (gVar 6) [6] eYes (eA f__law_fits (aCons (eVar 6) (aCons (eVar 4) (aCons (eVar 1) aNil))))) aNil))) aNil)))))
def f__law_do_cover (ds : List Da) : R Da := runDef 7 b__law_do_cover ds

def b__law_apart_bodies : SS :=
    (sSeq (sIf (eOr (e1 dNot (e1 (dIsi .tuple) (eVar 2))) (e1 dNot (eA dAll (aCons (eLc (iL (eVar 2)) (gVar 4) [4] eYes (eAnd (eA f__law_whole (aCons (eVar 4) aNil)) (eChain dLe dLt (eC (.int 0)) (eVar 4) (eA dLen (aCons (eVar 0) aNil))))) aNil)))) (sRet (eC (.bool false))) sNx)
    (sRet (eA dAll (aCons (eLc (iRng2 (eC (.int 1)) (eA dLen (aCons (eVar 2) aNil))) (gVar 3) [3] eYes (eAnd (e2 dLt (e2 dIx (eVar 2) (e2 dSub (eVar 3) (eC (.int 1)))) (e2 dIx (eVar 2) (eVar 3))) (e2 dGt (e2 dSub (e2 dIx (eVar 0) (e2 dIx (eVar 2) (eVar 3))) (e2 dIx (eVar 0) (e2 dIx (eVar 2) (e2 dSub (eVar 3) (eC (.int 1)))))) (e2 mulI (eC (.int 2)) (eVar 1))))) aNil))))
def f__law_apart_bodies (ds : List Da) : R Da := runDef 5 b__law_apart_bodies ds

def b__law_at : SS :=
    (sSeq (sIf (e2 dLt (eVar 1) (eA dLen (aCons (eVar 0) aNil))) (sRet (eA dInt (aCons (e2 dIx (eVar 0) (eVar 1)) aNil))) sNx)
    (sRet (e2 dAdd (eC (.int 5)) (e2 mulI (eC (.int 3)) (eVar 1)))))
def f__law_at (ds : List Da) : R Da := runDef 2 b__law_at ds

def b__law_lot : SS :=
    (sSeq (sAsg (gVar 2) (eA f__law_row (aCons (eVar 0) (aCons (eVar 1) (aCons (eC (.int 2)) aNil)))))
    (sRet (eA dTuple (aCons (eLc (iRng1 (eVar 1)) (gVar 3) [3] (e2 dEq (e2 dIx (eVar 2) (eVar 3)) (eC (.int 1))) (eVar 3)) aNil))))
def f__law_lot (ds : List Da) : R Da := runDef 4 b__law_lot ds

def l__law_lots_0 : SS :=
    (sPost [2] (sAsg (gVar 1) (e2 dAdd (eVar 1) (eLc (iL (eVar 1)) (gVar 3) [3] eYes (e2 dAdd (eVar 3) (eTup (aCons (eVar 2) aNil)))))))
def b__law_lots : SS :=
    (sSeq (sAsg (gVar 1) (eLst (aCons (eTup aNil) aNil)))
    (sSeq (sWk [2] (sNox (sFor (iRng1 (eVar 0)) (gVar 2) l__law_lots_0)))
    (sRet (eVar 1))))
def f__law_lots (ds : List Da) : R Da := runDef 4 b__law_lots ds

def b__law_flag : SS :=
    (sSeq (sIf (eVar 1) (sRet (e1 (dIsB true) (eVar 0))) sNx)
    (sRet (e1 (dIsB false) (eVar 0))))
def f__law_flag (ds : List Da) : R Da := runDef 2 b__law_flag ds

def b__law_word : SS :=
    (sSeq (sTry (sIf (e2 dEq (eVar 0) (eC (.str "fewest"))) (sExpr (eA f_size_fewest (aCons (eVar 1) (aCons (eVar 2) aNil)))) (sExpr (eA f_size_ease (aCons (eVar 1) (aCons (eVar 2) aNil))))) ["NoSizes", "NoNumber"] (fun c => if c = ("NoSizes" : Str) then .str "sizes" else .str "number"))
    (sRet (eC (.str "let"))))
def f__law_word (ds : List Da) : R Da := runDef 4 b__law_word ds

def l__law_many_0 : SS :=
    (sPost [4] (sIf (eOr (e1 dIsN (eVar 3)) (e2 dGt (eVar 4) (e2 dAdd (eVar 3) (e2 mulI (eC (.int 2)) (eVar 1))))) (sSeq (sAsg (gVar 3) (eVar 4))
    (sAsg (gVar 2) (e2 dAdd (eVar 2) (eC (.int 1))))) sNx))
def b__law_many : SS :=
    (sSeq (sAsg (gVar 2) (eC (.int 0)))
    (sSeq (sAsg (gVar 3) (eC .none))
    (sSeq (sWk [4] (sNox (sFor (iL (eVar 0)) (gVar 4) l__law_many_0)))
    (sRet (eVar 2)))))
def f__law_many (ds : List Da) : R Da := runDef 5 b__law_many ds

def t_law_0 : SS :=
    (sAsg (gTupD [(gVar 1), (gVar 2)]) (eA f__law_bodies (aCons (eA f__law_at (aCons (eVar 0) (aCons (eC (.int 0)) aNil))) (aCons (e2 dIx (eLst (aCons (eC (.int 8)) (aCons (eC (.int 12)) aNil))) (e2 dIx (eA f__law_row (aCons (eA f__law_at (aCons (eVar 0) (aCons (eC (.int 1)) aNil))) (aCons (eC (.int 1)) (aCons (eC (.int 2)) aNil)))) (eC (.int 0)))) aNil))))
def t_law_2 : SS :=
    (sAsg (gVar 4) (eA f__law_many (aCons (eVar 1) (aCons (eVar 2) aNil))))
def t_law_3 : SS :=
    (sAsg (gVar 5) (eA f_size_cover (aCons (eVar 1) (aCons (eVar 2) aNil))))
def t_law_4 : SS :=
    (sIf (eOr (e1 dNot (e1 (dIsi .tuple) (eVar 5))) (eOr (e2 dNe (eA dLen (aCons (eVar 5) aNil)) (eC (.int 2))) (e1 dNot (eA f__law_do_cover (aCons (eVar 1) (aCons (eVar 2) (aCons (e2 dIx (eVar 5) (eC (.int 0))) aNil))))))) (sRet (eC (.bool false))) sNx)
def t_law_5 : SS :=
    (sIf (eOr (e1 dNot (eA f__law_apart_bodies (aCons (eVar 1) (aCons (eVar 2) (aCons (e2 dIx (eVar 5) (eC (.int 1))) aNil))))) (eOr (e2 dNe (eA dLen (aCons (e2 dIx (eVar 5) (eC (.int 0))) aNil)) (eVar 4)) (e2 dNe (eA dLen (aCons (e2 dIx (eVar 5) (eC (.int 1))) aNil)) (eVar 4)))) (sRet (eC (.bool false))) sNx)
def t_law_6 : SS :=
    (sIf (eOr (e2 dNe (eA f_size_fewest (aCons (eVar 1) (aCons (eVar 2) aNil))) (eVar 4)) (e1 (dIsNotB true) (eA f_is_size_cover (aCons (eVar 1) (aCons (eVar 2) (aCons (eVar 5) aNil)))))) (sRet (eC (.bool false))) sNx)
def t_law_7 : SS :=
    (sIf (eOr (e1 (dIsNotB false) (eA f_is_size_cover (aCons (eVar 1) (aCons (eVar 2) (aCons (eA dList (aCons (eVar 5) aNil)) aNil))))) (e1 (dIsNotB false) (eA f_is_size_cover (aCons (eVar 1) (aCons (eVar 2) (aCons (eC .none) aNil)))))) (sRet (eC (.bool false))) sNx)
def l_law_0 : SS :=
    (sPost [6, 7, 8, 9, 10, 11, 12, 13, 14, 15, 16, 17] (sIf (eAnd (e2 dLt (eA dLen (aCons (eVar 6) aNil)) (eVar 4)) (eA dAll (aCons (eLc (iL (eVar 1)) (gVar 19) [19] eYes (eA dAny (aCons (eLc (iL (eVar 6)) (gVar 20) [20] eYes (eA f__law_fits (aCons (e2 dAdd (e2 dIx (eVar 1) (eVar 20)) (eVar 2)) (aCons (eVar 19) (aCons (eVar 2) aNil))))) aNil))) aNil))) (sRet (eC (.bool false))) sNx))
def t_law_8 : SS :=
    (sIf (e2 dLe (eVar 3) (eC (.int 8))) (sWk [6, 7, 8, 9, 10, 11, 12, 13, 14, 15, 16, 17] (sNox (sFor (iL (eA f__law_lots (aCons (eVar 3) aNil))) (gVar 6) l_law_0))) sNx)
def t_law_9 : SS :=
    (sAsg (gVar 6) (eA f__law_lot (aCons (eA f__law_at (aCons (eVar 0) (aCons (eC (.int 2)) aNil))) (aCons (eVar 3) aNil))))
def t_law_10 : SS :=
    (sAsg (gVar 7) (eA f__law_row (aCons (eA f__law_at (aCons (eVar 0) (aCons (eC (.int 3)) aNil))) (aCons (e2 dAdd (eVar 4) (eC (.int 2))) (aCons (eC (.int 260)) aNil)))))
def t_law_11 : SS :=
    (sAsg (gVar 8) (eA dTuple (aCons (eA dSorted (aCons (eLc (iL (eSl (eVar 7) oNone (oSome (eVar 4)))) (gVar 18) [18] eYes (e2 dMod (eVar 18) (eC (.int 251)))) aNil)) aNil)))
def t_law_12 : SS :=
    (sAsg (gVar 9) (eA dTuple (aCons (eLc (iL (e2 dIx (eVar 5) (eC (.int 0)))) (gVar 18) [18] eYes (e2 dSub (eVar 18) (e2 dMod (e2 dIx (eVar 7) (eVar 4)) (e2 dAdd (eVar 2) (eC (.int 1)))))) aNil)))
def l_law_1 : SS :=
    (sPost [0, 3, 8, 9, 11, 12, 13, 14, 15, 16, 17] (sSeq (sAsg (gVar 12) (eAnd (eA f__law_do_cover (aCons (eVar 1) (aCons (eVar 2) (aCons (eVar 10) aNil)))) (eAnd (eA f__law_apart_bodies (aCons (eVar 1) (aCons (eVar 2) (aCons (eVar 11) aNil)))) (e2 dEq (eA dLen (aCons (eVar 10) aNil)) (eA dLen (aCons (eVar 11) aNil))))))
    (sIf (e1 dNot (eA f__law_flag (aCons (eA f_is_size_cover (aCons (eVar 1) (aCons (eVar 2) (aCons (eTup (aCons (eVar 10) (aCons (eVar 11) aNil))) aNil)))) (aCons (eVar 12) aNil)))) (sRet (eC (.bool false))) sNx)))
def l_law_2 : SS :=
    (sPost [0, 3, 10, 11, 12, 13, 14, 15, 16, 17] (sWk [0, 3, 8, 9, 11, 12, 13, 14, 15, 16, 17] (sFor (iL (eLst (aCons (e2 dIx (eVar 5) (eC (.int 1))) (aCons (eVar 6) aNil)))) (gVar 11) l_law_1)))
def t_law_13 : SS :=
    (sWk [0, 3, 10, 11, 12, 13, 14, 15, 16, 17] (sNox (sFor (iL (eLst (aCons (e2 dIx (eVar 5) (eC (.int 0))) (aCons (eVar 8) (aCons (eVar 9) (aCons (eSl (e2 dIx (eVar 5) (eC (.int 0))) (oSome (eC (.int 1))) oNone) aNil)))))) (gVar 10) l_law_2)))
def t_law_14 : SS :=
    (sAsg (gVar 13) (e2 dAdd (eC (.int 1)) (e2 dMod (e2 dIx (eVar 7) (e2 dAdd (eVar 4) (eC (.int 1)))) (eC (.int 10)))))
def t_law_15 : SS :=
    (sAsg (gVar 14) (eA f_size_ease (aCons (eVar 1) (aCons (eVar 13) aNil))))
def t_law_16 : SS :=
    (sIf (eOr (e1 dNot (eA f__law_whole (aCons (eVar 14) aNil))) (eOr (e2 dGt (eA f__law_many (aCons (eVar 1) (aCons (eVar 14) aNil))) (eVar 13)) (eAnd (e2 dGt (eVar 14) (eC (.int 0))) (e2 dLe (eA f__law_many (aCons (eVar 1) (aCons (e2 dSub (eVar 14) (eC (.int 1))) aNil))) (eVar 13))))) (sRet (eC (.bool false))) sNx)
def t_law_17 : SS :=
    (sAsg (gVar 15) (eA dTuple (aCons (eLc (iL (e1 dRev (eVar 1))) (gVar 18) [18] eYes (e2 dSub (eC (.int 200)) (eVar 18))) aNil)))
def t_law_18 : SS :=
    (sIf (e2 dNe (eA f_size_fewest (aCons (eVar 15) (aCons (eVar 2) aNil))) (eVar 4)) (sRet (eC (.bool false))) sNx)
def l_law_3 : SS :=
    (sPost [0, 2, 3, 4, 5, 6, 7, 8, 9, 10, 11, 12, 13, 14, 15, 16, 17] (sIf (e2 dNe (eA f__law_word (aCons (eC (.str "fewest")) (aCons (eVar 1) (aCons (eVar 16) aNil)))) (eC (.str "number"))) (sRet (eC (.bool false))) sNx))
def t_law_19 : SS :=
    (sWk [0, 2, 3, 4, 5, 6, 7, 8, 9, 10, 11, 12, 13, 14, 15, 16, 17] (sNox (sFor (iL (eLst (aCons (eC .none) (aCons (e2 dSub (eC (.int 0)) (eC (.int 1))) (aCons (eC (.int 51)) (aCons (eC (.bool true)) (aCons (eC (.str "1")) aNil))))))) (gVar 16) l_law_3)))
def l_law_4 : SS :=
    (sPost [0, 2, 3, 4, 5, 6, 7, 8, 9, 10, 11, 12, 13, 14, 15, 16, 17] (sIf (e2 dNe (eA f__law_word (aCons (eC (.str "ease")) (aCons (eVar 1) (aCons (eVar 16) aNil)))) (eC (.str "number"))) (sRet (eC (.bool false))) sNx))
def t_law_20 : SS :=
    (sWk [0, 2, 3, 4, 5, 6, 7, 8, 9, 10, 11, 12, 13, 14, 15, 16, 17] (sNox (sFor (iL (eLst (aCons (eC .none) (aCons (eC (.int 0)) (aCons (eC (.int 11)) (aCons (eC (.bool true)) aNil)))))) (gVar 16) l_law_4)))
def t_law_21 : SS :=
    (sAsg (gVar 17) (eLst (aCons (eC .none) (aCons (eA dList (aCons (eVar 1) aNil)) (aCons (eTup (aCons (e2 dSub (eC (.int 0)) (eC (.int 1))) aNil)) (aCons (eTup (aCons (eC (.int 201)) aNil)) (aCons (eTup (aCons (eC (.int 2)) (aCons (eC (.int 1)) aNil))) (aCons (eTup (aCons (eC (.bool true)) aNil)) (aCons (e2 repT (eTup (aCons (eC (.int 1)) aNil)) (eC (.int 13))) (aCons (eC (.str "?")) aNil))))))))))
def t_law_22 : SS :=
    (sRet (eA dAll (aCons (eLc (iL (eVar 17)) (gVar 16) [16] eYes (eAnd (e2 dEq (eA f__law_word (aCons (eC (.str "fewest")) (aCons (eVar 16) (aCons (eC .none) aNil)))) (eC (.str "sizes"))) (e2 dEq (eA f__law_word (aCons (eC (.str "ease")) (aCons (eVar 16) (aCons (eC .none) aNil)))) (eC (.str "sizes"))))) aNil)))
def b_law : SS :=
    (sSeq t_law_0
    (sSeq (sAsg (gVar 3) (eA dLen (aCons (eVar 1) aNil)))
    (sSeq t_law_2
    (sSeq t_law_3
    (sSeq t_law_4
    (sSeq t_law_5
    (sSeq t_law_6
    (sSeq t_law_7
    (sSeq t_law_8
    (sSeq t_law_9
    (sSeq t_law_10
    (sSeq t_law_11
    (sSeq t_law_12
    (sSeq t_law_13
    (sSeq t_law_14
    (sSeq t_law_15
    (sSeq t_law_16
    (sSeq t_law_17
    (sSeq t_law_18
    (sSeq t_law_19
    (sSeq t_law_20
    (sSeq t_law_21
    t_law_22))))))))))))))))))))))
def f_law (ds : List Da) : R Da := runDef 21 b_law ds
end K76
set_option Elab.async false
set_option linter.all false
set_option maxRecDepth 10000
namespace K76
open PySem DL
/-! the defs that all laws share -/
theorem is_integer (i : Int) : f_is_integer [.int i] = .ok (.bool true) := by
  simp [f_is_integer, runDef, b_is_integer]
theorem is_between (i a b : Int) : f_is_between [.int i, .int a, .int b] = .ok (.bool (decide (a ≤ i) && decide (i ≤ b))) := by
  simp [f_is_between, runDef, b_is_between, is_integer]
  by_cases h : a ≤ i <;> simp [h]
theorem law_at' (ns : List Int) (k : Nat) : ∃ c : Int, f__law_at [.list (ns.map PyData.int), di k] = .ok (.int c) := by
  by_cases h : k < ns.length
  · have h1 : (k : Int) < (ns.length : Int) := by omega
    have e : dIx (.list (ns.map PyData.int)) (di k) = .ok (.int ns[k]) := by
      rw [dIx_list_nat, List.getElem?_map, List.getElem?_eq_getElem h]
      rfl
    have e2 : dLt (di k) (.int ns.length) = .ok (.bool true) := by simp [di, h]
    exact ⟨ns[k], by simp [f__law_at, runDef_, b__law_at, e, e2, dLen_list]⟩
  · have e2 : dLt (di k) (.int ns.length) = .ok (.bool false) := by simp [di]; omega
    have e3 : mulI (.int 3) (di k) = .ok (.int (3 * k)) := mulI_sl 3 k (by decide) (by decide)
    exact ⟨5 + 3 * k, by simp [f__law_at, runDef_, b__law_at, e2, e3, dLen_list]⟩
theorem law_at (ns : List Int) (k : Nat) : ∃ c : Int, f__law_at [.list (il ns), di k] = .ok (.int c) := law_at' ns k
theorem law_mixed (c : Int) (k : Nat) : ∃ v : Int, f__law_mixed [.int c, di k] = .ok (.int v) := by
  have m1 : mulI (.int c) (.int 48271) = .ok (.int (c * 48271)) := mulI_sr _ _ (by decide) (by decide)
  have m2 : mulI (di k) (.int 69621) = .ok (.int (k * 69621)) := mulI_sr _ _ (by decide) (by decide)
  have m3 : mulI (.int (c * 48271 + k * 69621 + 11)) (.int 16807) = .ok (.int ((c * 48271 + k * 69621 + 11) * 16807)) := mulI_sr _ _ (by decide) (by decide)
  have d1 := dDiv_pos (c * 48271 + k * 69621 + 11) 8191 (by decide) (by decide)
  have d2 := dMod_pos ((c * 48271 + k * 69621 + 11) * 16807 + (c * 48271 + k * 69621 + 11) / 8191) 2147483647 (by decide)
  refine ⟨((c * 48271 + k * 69621 + 11) * 16807 + (c * 48271 + k * 69621 + 11) / 8191) % 2147483647, ?_⟩
  simp [f__law_mixed, runDef_, b__law_mixed, m1, m2]
  simp [m3, d1]
  rw [d2]
  simp
/-- a script's number gives so many digits below top -/
theorem law_row' (c : Int) (many top : Nat) (hm : many ≤ big) (h0 : 0 < top) (h1 : top < 1073741824) : ∃ ds : List Nat, ds.length = many ∧ (∀ d, d ∈ ds → d < top) ∧ f__law_row [.int c, di many, di top] = .ok (.list (ds.map di)) := by
  let great : Bool := decide ((1000000000000000000 : Int) ≤ c)
  have t0 : (0 : Int) < top := by omega
  have t1 : (top : Int) < 1073741824 := by omega
  have dig : ∀ z : Int, ∃ d : Nat, d < top ∧ z % (top : Int) = d := fun z => by
    have a := Int.emod_nonneg z (show (top : Int) ≠ 0 by omega)
    have b := Int.emod_lt_of_pos z t0
    exact ⟨(z % (top : Int)).toNat, by omega, by omega⟩
  have key := forL_inv (g := gVar 6) (body := l__law_row_0) di (fun s : List Nat × Int => [some (.int c), some (di many), some (di top), some (.list (s.1.map di)), some (.int s.2), some (.bool great), none])
    (fun don s => s.1.length = don.length ∧ ∀ d, d ∈ s.1 → d < top) (List.range many) [] ([], c) ⟨rfl, fun _ h => nomatch h⟩ ?_
  · obtain ⟨s, ⟨e1, e2⟩, k⟩ := key
    refine ⟨s.1, by simpa using e1, e2, ?_⟩
    have g1 : dGe (.int c) (.int 1000000000000000000) = .ok (.bool great) := rfl
    have r := dRng_0 many hm
    simp [f__law_row, runDef_, b__law_row, g1]
    rw [r]
    simp
    simp at k
    rw [k]
    simp
  · rintro don x ⟨ds, left⟩ ⟨rest, er⟩ ⟨e1, e2⟩
    have lx : don.length < many := by
      have := congrArg List.length er
      simp at this
      omega
    have la : ds.length < big := by
      have : ds.length = don.length := e1
      omega
    cases hg : great with
    | true =>
      obtain ⟨d, hd, ed⟩ := dig left
      have q1 : dMod (.int left) (di top) = .ok (di d) := (dMod_pos left top t0).trans (by rw [ed]; rfl)
      have q2 : dDiv (.int left) (di top) = .ok (.int (left / top)) := dDiv_pos left top t0 t1
      refine ⟨(ds ++ [d], left / top), ⟨by simp; exact e1, fun y hy => ?_⟩, ?_⟩
      · rcases List.mem_append.mp hy with hy | hy
        · exact e2 y hy
        · rw [List.mem_singleton] at hy; subst hy; exact hd
      · simp [l__law_row_0, q1, q2, updE, la]
    | false =>
      obtain ⟨v, hv⟩ := law_mixed c x
      obtain ⟨d, hd, ed⟩ := dig (v / 7)
      have q1 : dDiv (.int v) (.int 7) = .ok (.int (v / 7)) := dDiv_pos v 7 (by decide) (by decide)
      have q2 : dMod (.int (v / 7)) (di top) = .ok (di d) := (dMod_pos (v / 7) top t0).trans (by rw [ed]; rfl)
      refine ⟨(ds ++ [d], left), ⟨by simp; exact e1, fun y hy => ?_⟩, ?_⟩
      · rcases List.mem_append.mp hy with hy | hy
        · exact e2 y hy
        · rw [List.mem_singleton] at hy; subst hy; exact hd
      · simp [l__law_row_0, hv, q1, q2, updE, la]
theorem law_row (c : Int) (many top : Nat) (hm : many ≤ big) (h0 : 0 < top) (h1 : top < 1073741824) : ∃ ds : List Nat, ds.length = many ∧ (∀ d, d ∈ ds → d < top) ∧ f__law_row [.int c, di many, di top] = .ok (.list (nl ds)) := law_row' c many top hm h0 h1
/-! sizes: plain -/
def fit (s b e : Nat) : Bool := decide ((s - b) + (b - s) ≤ e)
theorem fit_iff {s b e : Nat} : fit s b e = true ↔ s ≤ b + e ∧ b ≤ s + e := by unfold fit; rw [decide_eq_true_iff]; omega
/-- the bodies chosen among the first so many: (number, body) -/
def pks (e : Nat) (B : List Nat) : Nat → List (Nat × Nat)
  | 0 => []
  | n + 1 => if (pks e B n).any (fun p => fit (p.2 + e) (B.getD n 0) e) then pks e B n else pks e B n ++ [(n, B.getD n 0)]
theorem pks_at (e : Nat) (B : List Nat) : ∀ n p, p ∈ pks e B n → p.1 < n ∧ p.2 = B.getD p.1 0
  | 0, p, h => nomatch h
  | n + 1, p, h => by
    unfold pks at h
    split at h
    · have := pks_at e B n p h; omega
    · rcases List.mem_append.mp h with h | h
      · have := pks_at e B n p h; omega
      · rw [List.mem_singleton] at h; subst h; exact ⟨by show n < n + 1; omega, rfl⟩
theorem pks_apart (e : Nat) {B : List Nat} (hB : B.Pairwise (· ≤ ·)) : ∀ n, n ≤ B.length → (pks e B n).Pairwise fun p q => p.1 < q.1 ∧ p.2 + 2 * e < q.2
  | 0, _ => List.Pairwise.nil
  | n + 1, hn => by
    unfold pks
    have ih := pks_apart e hB n (by omega)
    split
    · exact ih
    · rename_i hq
      refine List.pairwise_append.mpr ⟨ih, List.pairwise_singleton _ _, fun p hp q hq' => ?_⟩
      rw [List.mem_singleton] at hq'
      subst hq'
      obtain ⟨h1, h2⟩ := pks_at e B n p hp
      refine ⟨h1, ?_⟩
      have nf : ¬ fit (p.2 + e) (B.getD n 0) e = true := fun z => hq (List.any_eq_true.mpr ⟨p, hp, z⟩)
      rw [fit_iff] at nf
      have le : B.getD p.1 0 ≤ B.getD n 0 := by
        have := List.pairwise_iff_getElem.mp hB p.1 n (by omega) (by omega) h1
        have g1 : p.1 < B.length := by omega
        have g2 : n < B.length := by omega
        simpa [g1, g2] using this
      show p.2 + 2 * e < B.getD n 0
      omega
theorem pks_fit (e : Nat) (B : List Nat) : ∀ n k, k < n → ∃ p, p ∈ pks e B n ∧ fit (p.2 + e) (B.getD k 0) e = true
  | 0, k, h => absurd h (Nat.not_lt_zero _)
  | n + 1, k, h => by
    unfold pks
    split
    · rename_i hq
      by_cases hk : k = n
      · subst hk
        obtain ⟨p, hp, hf⟩ := List.any_eq_true.mp hq
        exact ⟨p, hp, hf⟩
      · exact pks_fit e B n k (by omega)
    · by_cases hk : k = n
      · subst hk
        exact ⟨_, List.mem_append_right _ (List.mem_singleton.mpr rfl), fit_iff.mpr ⟨Nat.le_refl _, by show B.getD k 0 ≤ B.getD k 0 + e + e; omega⟩⟩
      · obtain ⟨p, hp, hf⟩ := pks_fit e B n k (by omega)
        exact ⟨p, List.mem_append_left _ hp, hf⟩
theorem pks_len (e : Nat) (B : List Nat) : ∀ n, (pks e B n).length ≤ n
  | 0 => Nat.le_refl _
  | n + 1 => by
    have := pks_len e B n
    unfold pks
    split
    · omega
    · simp; omega
def cnt (e : Nat) (B : List Nat) : Nat := (pks e B B.length).length
def szs (e : Nat) (B : List Nat) : List Nat := (pks e B B.length).map fun p => p.2 + e
def aps (e : Nat) (B : List Nat) : List Nat := (pks e B B.length).map fun p => p.1
theorem szs_len (e : Nat) (B : List Nat) : (szs e B).length = cnt e B := by simp [szs, cnt]
theorem aps_len (e : Nat) (B : List Nat) : (aps e B).length = cnt e B := by simp [aps, cnt]
/-- so many apart need as many sizes -/
theorem apart_le {e : Nat} : ∀ (X L : List Nat), X.Pairwise (fun x y => x + 2 * e < y) → (∀ x, x ∈ X → ∃ s, s ∈ L ∧ fit s x e = true) → X.length ≤ L.length
  | [], L, _, _ => Nat.zero_le _
  | x :: X, L, h, w => by
    obtain ⟨s, hs, hf⟩ := w x List.mem_cons_self
    obtain ⟨h1, h2⟩ := List.pairwise_cons.mp h
    have := apart_le X (L.erase s) h2 fun y hy => by
      obtain ⟨t, ht, hg⟩ := w y (List.mem_cons_of_mem _ hy)
      have := h1 y hy
      rw [fit_iff] at hf hg
      refine ⟨t, (List.mem_erase_of_ne ?_).mpr ht, fit_iff.mpr hg⟩
      omega
    have l := List.length_erase_of_mem hs
    have l0 : 0 < L.length := List.length_pos_of_mem hs
    rw [List.length_cons]
    omega
theorem cnt_le {e : Nat} {B L : List Nat} (hB : B.Pairwise (· ≤ ·)) (w : ∀ k, k < B.length → ∃ s, s ∈ L ∧ fit s (B.getD k 0) e = true) : cnt e B ≤ L.length := by
  have h := pks_apart e hB B.length (Nat.le_refl _)
  have := apart_le ((pks e B B.length).map (·.2)) L (List.pairwise_map.mpr (h.imp fun h => h.2)) fun x hx => by
    obtain ⟨p, hp, rfl⟩ := List.mem_map.mp hx
    obtain ⟨h1, h2⟩ := pks_at e B _ p hp
    rw [h2]
    exact w _ h1
  simpa [cnt] using this
theorem szs_fit (e : Nat) (B : List Nat) (k : Nat) (hk : k < B.length) : ∃ s, s ∈ szs e B ∧ fit s (B.getD k 0) e = true := by
  obtain ⟨p, hp, hf⟩ := pks_fit e B B.length k hk
  exact ⟨_, List.mem_map.mpr ⟨p, hp, rfl⟩, hf⟩
/-! bodies -/
structure Bo (l : List Nat) (b : Nat) : Prop where
  len : l.length ≤ b
  bd : ∀ x, x ∈ l → x ≤ 200
  srt : l.Pairwise (· ≤ ·)
theorem btwN (n a b : Nat) : f_is_between [di n, di a, di b] = .ok (.bool (decide (a ≤ n) && decide (n ≤ b))) := by
  have q := is_between n a b
  have e1 : decide ((a : Int) ≤ n) = decide (a ≤ n) := decide_eq_decide.mpr (by omega)
  have e2 : decide ((n : Int) ≤ b) = decide (n ≤ b) := decide_eq_decide.mpr (by omega)
  rw [e1, e2] at q
  exact q
theorem isT_nl (l : List Nat) : isTy .tuple (.tuple (nl l)) = true := rfl
theorem are_bodies {l : List Nat} (h : Bo l 12) : f_are_bodies [.tuple (nl l)] = .ok (.bool true) := by
  have hl := h.len
  have h1 : ¬ 12 < l.length := by omega
  simp [f_are_bodies, runDef_, b_are_bodies, int_lit, dl, dn, h1, eLc]
  rw [lc_nlB (fun _ => true) l fun x hx => by
    have := h.bd x hx
    simp [lcF, int_lit, btwN, this]]
  have rg := rng_nl2 1 l.length (by decide) (by unfold big; omega)
  have i1 : ((1 : Nat) : Int) = 1 := rfl
  rw [i1] at rg
  have al : (List.map (fun _ : Nat => true) l).all id = true := by simp
  simp [al, rg, eLc, dl, int_lit]
  rw [lc_nlB (fun _ => true) _ fun k hk => by
    have hk' := List.mem_range'_1.mp hk
    have lt := List.pairwise_iff_getElem.mp h.srt (k - 1) k (by omega) (by omega) (by omega)
    have g1 : k - 1 < l.length := by omega
    have g2 : k < l.length := by omega
    have d1 : dSub (di k) (di 1) = .ok (di (k - 1)) := dSub_nat k 1 (by omega)
    simp [lcF, int_lit, d1, dl, dn, g1, g2, lt]]
  simp
theorem need_bodies {l : List Nat} (h : Bo l 12) {e : Nat} (he : e ≤ 50) : f_need_bodies [.tuple (nl l), di e] = .ok .none := by
  simp [f_need_bodies, runDef_, b_need_bodies, int_lit, are_bodies h, btwN, he]
theorem fits (s b e : Nat) : f_fits [di s, di b, di e] = .ok (.bool (fit s b e)) := by
  have d1 := dSub_cast s b
  have d2 := dAbs_sub s b
  simp [f_fits, runDef_, b_fits, d1, d2, dn, fit]
theorem enum_nl (H : List Nat) : enumD 0 (nl H) = (List.range H.length).map fun i => .tuple [di i, di (H.getD i 0)] := by
  have := enumD_map' di 0 H 0
  rw [show nl H = H.map di from rfl, this]
  refine List.map_congr_left fun i _ => ?_
  rw [Nat.zero_add]
theorem range_split {n : Nat} {don rest : List Nat} {x : Nat} (h : List.range n = don ++ x :: rest) : x = don.length ∧ don.length < n := by
  have hl := congrArg List.length h
  simp at hl
  have hx := congrArg (fun l => l[don.length]?) h
  simp at hx
  have lt : don.length < n := by omega
  rw [List.getElem?_range lt] at hx
  simp at hx
  omega
end K76
set_option Elab.async false
set_option linter.all false
set_option maxRecDepth 10000
namespace K76
open PySem DL
theorem cover_of {B : List Nat} (hB : B.length ≤ 12) (e : Nat) : f_cover_of [.tuple (nl B), di e] = .ok (.tuple [.tuple (nl (szs e B)), .tuple (nl (aps e B))]) := by
  have en := enum_nl B
  obtain ⟨C, hC, lp⟩ := forL_inv (g := gTupD [(gVar 4), (gVar 5)]) (body := l_cover_of_0) (fun i : Nat => PyData.tuple [di i, di (B.getD i 0)])
    (fun C : List (Nat × Nat) => [some (.tuple (nl B)), some (di e), some (.list (nl (C.map fun p => p.2 + e))), some (.list (nl (C.map fun p => p.1))), none, none, none])
    (fun don C => C = pks e B don.length) (List.range B.length) [] [] rfl (by
      rintro don x C ⟨rest, er⟩ rfl
      obtain ⟨hx, hlt⟩ := range_split er
      rw [hx]
      have lb : (pks e B don.length).length < big := by
        have := pks_len e B don.length
        unfold big; omega
      refine ⟨_, by rw [List.length_append], ?_⟩
      have lc : lcL (lcF (gVar 6) [6] eYes (eA f_fits (aCons (eVar 6) (aCons (eVar 5) (aCons (eVar 1) aNil)))) [some (.tuple (nl B)), some (di e), some (.list (nl ((pks e B don.length).map fun p => p.2 + e))), some (.list (nl ((pks e B don.length).map fun p => p.1))), some (di don.length), some (di (B.getD don.length 0)), none]) (nl ((pks e B don.length).map fun p => p.2 + e)) = .ok (bl (((pks e B don.length).map fun p => p.2 + e).map fun s => fit s (B.getD don.length 0) e)) :=
        lc_nlB _ _ fun s _ => by simp [lcF, fits]
      have an : (pks e B don.length).any ((fun s => fit s (B.getD don.length 0) e) ∘ fun p => p.2 + e) = (pks e B don.length).any (fun p => fit (p.2 + e) (B.getD don.length 0) e) := rfl
      cases q : (pks e B don.length).any (fun p => fit (p.2 + e) (B.getD don.length 0) e) with
      | true =>
        rw [q] at an
        have p1 : pks e B (don.length + 1) = pks e B don.length := by
          show (if _ then _ else _) = _
          rw [q, if_pos rfl]
        simp only [List.length_singleton, p1]
        generalize pks e B don.length = C at *
        simp [l_cover_of_0, eLc, lc, an, -List.getD_eq_getElem?_getD]
      | false =>
        rw [q] at an
        have p1 : pks e B (don.length + 1) = pks e B don.length ++ [(don.length, B.getD don.length 0)] := by
          show (if _ then _ else _) = _
          rw [q]; rfl
        simp only [List.length_singleton, p1]
        generalize pks e B don.length = C at *
        simp [l_cover_of_0, eLc, lc, an, updE, lb, dn, -List.getD_eq_getElem?_getD])
  have hC' : C = pks e B B.length := by rw [hC]; simp
  subst hC'
  simp at lp
  simp [f_cover_of, runDef_, b_cover_of, en, lp, szs, aps]
theorem size_cover {B : List Nat} (h : Bo B 12) {e : Nat} (he : e ≤ 50) : f_size_cover [.tuple (nl B), di e] = .ok (.tuple [.tuple (nl (szs e B)), .tuple (nl (aps e B))]) := by
  have c := cover_of h.len e
  simp [f_size_cover, runDef_, b_size_cover, need_bodies h he, c]
theorem size_fewest {B : List Nat} (h : Bo B 12) {e : Nat} (he : e ≤ 50) : f_size_fewest [.tuple (nl B), di e] = .ok (di (cnt e B)) := by
  have c := cover_of h.len e
  have ix : dIx (.tuple [.tuple (nl (szs e B)), .tuple (nl (aps e B))]) (di 0) = .ok (.tuple (nl (szs e B))) := rfl
  simp [f_size_fewest, runDef_, b_size_fewest, need_bodies h he, c, int_lit, ix, dl, szs_len]
end K76
set_option Elab.async false
set_option linter.all false
set_option maxRecDepth 10000
namespace K76
open PySem DL
/-! covers and lots judged -/
theorem dGt_i (a b : Int) : dGt (.int a) (.int b) = .ok (.bool (decide (a > b))) := rfl
theorem gt_cast (a b c : Nat) : dGt (.int ((a : Int) - b)) (di c) = .ok (.bool (decide (b + c < a))) := by
  show R.ok (PyData.bool (decide ((a : Int) - b > (c : Int)))) = _
  rw [show decide ((a : Int) - b > (c : Int)) = decide (b + c < a) from decide_eq_decide.mpr (by omega)]
theorem is_underN (a b : Nat) : f_is_under [di a, di b] = .ok (.bool (decide (a < b))) := by
  have ii := is_integer a
  have ii' : f_is_integer [di a] = .ok (.bool true) := ii
  have l1 : dLe (di 0) (di a) = .ok (.bool true) := by rw [dLe_nat]; simp
  simp [f_is_under, runDef_, b_is_under, ii', int_lit, l1, dLt_nat]
def rising (S : List Nat) : Bool := (List.range' 1 (S.length - 1)).all fun k => decide (S.getD (k - 1) 0 < S.getD k 0)
theorem rising_pw {S : List Nat} (h : S.Pairwise (· < ·)) : rising S = true := by
  refine List.all_eq_true.mpr fun k hk => decide_eq_true ?_
  have := List.mem_range'_1.mp hk
  have g1 : k - 1 < S.length := by omega
  have g2 : k < S.length := by omega
  have := List.pairwise_iff_getElem.mp h (k - 1) k (by omega) (by omega) (by omega)
  simpa [g1, g2] using this
theorem rng1 (n : Nat) (h : n ≤ big) : dRng 1 (n : Int) = .ok (nl (List.range' 1 (n - 1))) := rng_nl2 1 n (by decide) h
/-- [S[at - 1] < S[at] ..] -/
theorem lc_rise {S : List Nat} {ρ : Ev} {g : STg} {own : List Nat} {se : SE} (h : ∀ k, 1 ≤ k → k < S.length → lcF g own eYes se ρ (di k) = .ok (some (.bool (decide (S.getD (k - 1) 0 < S.getD k 0))))) : lcL (lcF g own eYes se ρ) (nl (List.range' 1 (S.length - 1))) = .ok (bl ((List.range' 1 (S.length - 1)).map fun k => decide (S.getD (k - 1) 0 < S.getD k 0))) :=
  lc_nlB _ _ fun k hk => by
    have := List.mem_range'_1.mp hk
    exact h k (by omega) (by omega)
theorem sub1 (k : Nat) (h : 1 ≤ k) : dSub (di k) (di 1) = .ok (di (k - 1)) := dSub_nat k 1 h
theorem are_under (A : List Nat) (n : Nat) : f_are_under [.tuple (nl A), di n] = .ok (.bool (A.all fun k => decide (k < n))) := by
  have lc : lcL (lcF (gVar 2) [2] eYes (eA f_is_under (aCons (eVar 2) (aCons (eVar 1) aNil))) [some (.tuple (nl A)), some (di n), none]) (nl A) = .ok (bl (A.map fun k => decide (k < n))) := lc_nlB _ A fun k _ => by simp [lcF, is_underN]
  simp [f_are_under, runDef_, b_are_under, eLc, lc, List.all_map]
theorem is_lot {A : List Nat} (hA : A.length ≤ big) (n : Nat) : f_is_lot [.tuple (nl A), di n] = .ok (.bool ((A.all fun k => decide (k < n)) && rising A)) := by
  have rg := rng1 A.length hA
  have lc : lcL (lcF (gVar 2) [2] eYes (e2 dLt (e2 dIx (eVar 0) (e2 dSub (eVar 2) (eC (di 1)))) (e2 dIx (eVar 0) (eVar 2))) [some (.tuple (nl A)), some (di n), none]) (nl (List.range' 1 (A.length - 1))) = .ok (bl ((List.range' 1 (A.length - 1)).map fun k => decide (A.getD (k - 1) 0 < A.getD k 0))) :=
    lc_rise fun k h1 h2 => by
      have g : k - 1 < A.length := by omega
      simp [lcF, sub1 k h1, dl.2.1 A _ g, dl.2.1 A _ h2, dn, -List.getD_eq_getElem?_getD]
  have au := are_under A n
  cases q : A.all fun k => decide (k < n) with
  | false =>
    rw [q] at au
    simp [f_is_lot, runDef_, b_is_lot, au]
  | true =>
    rw [q] at au
    simp [f_is_lot, runDef_, b_is_lot, au, int_lit, dl, rg, eLc, lc, rising, List.all_map, -List.getD_eq_getElem?_getD]
def covers (B : List Nat) (e : Nat) (S : List Nat) : Bool := B.all fun b => S.any fun s => fit s b e
def docov (B : List Nat) (e : Nat) (S : List Nat) : Bool := (S.all fun s => decide (s ≤ 250)) && (rising S && covers B e S)
theorem do_cover {S : List Nat} (hS : S.length ≤ big) (B : List Nat) (e : Nat) : f_do_cover [.tuple (nl B), di e, .tuple (nl S)] = .ok (.bool (docov B e S)) := by
  have rg := rng1 S.length hS
  have l1 : lcL (lcF (gVar 5) [5] eYes (eA f_is_between (aCons (eVar 5) (aCons (eC (di 0)) (aCons (e2 dAdd (eC (di 200)) (eC (di 50))) aNil)))) [some (.tuple (nl B)), some (di e), some (.tuple (nl S)), none, none, none, none]) (nl S) = .ok (bl (S.map fun s => decide (s ≤ 250))) := lc_nlB _ S fun s _ => by simp [lcF, dn, btwN]
  have l2 : lcL (lcF (gVar 4) [4] eYes (e2 dLt (e2 dIx (eVar 2) (e2 dSub (eVar 4) (eC (di 1)))) (e2 dIx (eVar 2) (eVar 4))) [some (.tuple (nl B)), some (di e), some (.tuple (nl S)), none, none, none, none]) (nl (List.range' 1 (S.length - 1))) = .ok (bl ((List.range' 1 (S.length - 1)).map fun k => decide (S.getD (k - 1) 0 < S.getD k 0))) :=
    lc_rise fun k h1 h2 => by
      have g : k - 1 < S.length := by omega
      simp [lcF, sub1 k h1, dl.2.1 S _ g, dl.2.1 S _ h2, dn, -List.getD_eq_getElem?_getD]
  have l3 : lcL (lcF (gVar 3) [3] eYes (eA dAny (aCons (eLc (iL (eVar 2)) (gVar 6) [6] eYes (eA f_fits (aCons (eVar 6) (aCons (eVar 3) (aCons (eVar 1) aNil))))) aNil)) [some (.tuple (nl B)), some (di e), some (.tuple (nl S)), none, none, none, none]) (nl B) = .ok (bl (B.map fun b => S.any fun s => fit s b e)) := lc_nlB _ B fun b _ => by
    have l4 : lcL (lcF (gVar 6) [6] eYes (eA f_fits (aCons (eVar 6) (aCons (eVar 3) (aCons (eVar 1) aNil)))) [some (.tuple (nl B)), some (di e), some (.tuple (nl S)), some (di b), none, none, none]) (nl S) = .ok (bl (S.map fun s => fit s b e)) := lc_nlB _ S fun s _ => by simp [lcF, fits]
    simp [lcF, eLc, l4, List.any_map]
  have a1 : (S.map fun s => decide (s ≤ 250)).all id = S.all fun s => decide (s ≤ 250) := all_map_id _ _
  have a2 : ((List.range' 1 (S.length - 1)).map fun k => decide (S.getD (k - 1) 0 < S.getD k 0)).all id = rising S := all_map_id _ _
  have a3 : (B.map fun b => S.any fun s => fit s b e).all id = covers B e S := all_map_id _ _
  have dA1 : dAll [.list (bl (S.map fun s => decide (s ≤ 250)))] = .ok (.bool (S.all fun s => decide (s ≤ 250))) := by
    rw [← a1]; simp
  have dA2 : dAll [.list (bl ((List.range' 1 (S.length - 1)).map fun k => decide (S.getD (k - 1) 0 < S.getD k 0)))] = .ok (.bool (rising S)) := by
    rw [← a2]; simp
  have dA3 : dAll [.list (bl (B.map fun b => S.any fun s => fit s b e))] = .ok (.bool (covers B e S)) := by
    rw [← a3]; simp
  unfold docov
  cases q1 : S.all fun s => decide (s ≤ 250) with
  | false =>
    rw [q1] at dA1
    simp only [f_do_cover, runDef_, b_do_cover, int_lit]
    simp [eLc, l1, dA1, -dAll_list, -List.getD_eq_getElem?_getD]
  | true =>
    rw [q1] at dA1
    cases q2 : rising S with
    | false =>
      rw [q2] at dA2
      simp only [f_do_cover, runDef_, b_do_cover, int_lit]
      simp [eLc, l1, dA1, dl, rg, l2, dA2, -dAll_list, -List.getD_eq_getElem?_getD]
    | true =>
      rw [q2] at dA2
      simp only [f_do_cover, runDef_, b_do_cover, int_lit]
      simp [eLc, l1, dA1, dl, rg, l2, dA2, l3, dA3, -dAll_list, -List.getD_eq_getElem?_getD]
end K76
set_option Elab.async false
set_option linter.all false
set_option maxRecDepth 10000
namespace K76
open PySem DL
def apartB (B : List Nat) (e : Nat) (A : List Nat) : Bool := (List.range' 1 (A.length - 1)).all fun k => decide (B.getD (A.getD (k - 1) 0) 0 + 2 * e < B.getD (A.getD k 0) 0)
def apar (B : List Nat) (e : Nat) (A : List Nat) : Bool := (A.all fun k => decide (k < B.length)) && (rising A && apartB B e A)
theorem dAll_bl (l : List Bool) : dAll [.list (bl l)] = .ok (.bool (l.all id)) := by simp
theorem getD_mem {A : List Nat} {k : Nat} (h : k < A.length) : A.getD k 0 ∈ A := by simp [h]
theorem apart_gt {B A : List Nat} {n : Nat} (e : Nat) (hn : n = B.length) (hA : (A.all fun k => decide (k < n)) = true) {ρ : Ev} {k : Nat} (h1 : 1 ≤ k) (h2 : k < A.length) {vB vA vk ve : Nat} (hB : eVar vB ρ = .ok (.tuple (nl B))) (hA' : eVar vA ρ = .ok (.tuple (nl A))) (hk : eVar vk ρ = .ok (di k)) (he : eVar ve ρ = .ok (di e)) (he2 : e < 1000) :
    e2 dGt (e2 dSub (e2 dIx (eVar vB) (e2 dIx (eVar vA) (eVar vk))) (e2 dIx (eVar vB) (e2 dIx (eVar vA) (e2 dSub (eVar vk) (eC (di 1)))))) (e2 mulI (eC (di 2)) (eVar ve)) ρ = .ok (.bool (decide (B.getD (A.getD (k - 1) 0) 0 + 2 * e < B.getD (A.getD k 0) 0))) := by
  subst hn
  have g : k - 1 < A.length := by omega
  have b1 : A.getD k 0 < B.length := of_decide_eq_true (List.all_eq_true.mp hA _ (getD_mem h2))
  have b2 : A.getD (k - 1) 0 < B.length := of_decide_eq_true (List.all_eq_true.mp hA _ (getD_mem g))
  have x1 := dl.2.1 A _ g
  have x2 := dl.2.1 A _ h2
  have y1 := dl.2.1 B _ b1
  have y2 := dl.2.1 B _ b2
  have s1 := sub1 k h1
  have m := mulI_nat 2 e (by omega)
  simp only [e2, eC, hB, hA', hk, he, R.bind_ok, x1, x2, y1, y2, s1, m, dSub_cast, gt_cast]
theorem are_apart {A : List Nat} (hA : A.length ≤ big) (B : List Nat) {e : Nat} (he : e < 1000) : f_are_apart [.tuple (nl B), di e, .tuple (nl A)] = .ok (.bool (apar B e A)) := by
  have il := is_lot hA B.length
  have rg := rng1 A.length hA
  unfold apar
  cases q1 : A.all fun k => decide (k < B.length) with
  | false =>
    rw [q1] at il
    simp [f_are_apart, runDef_, b_are_apart, il, dl]
  | true =>
    cases q2 : rising A with
    | false =>
      rw [q1, q2] at il
      simp [f_are_apart, runDef_, b_are_apart, il, dl]
    | true =>
      rw [q1, q2] at il
      have lc : lcL (lcF (gVar 3) [3] eYes (e2 dGt (e2 dSub (e2 dIx (eVar 0) (e2 dIx (eVar 2) (eVar 3))) (e2 dIx (eVar 0) (e2 dIx (eVar 2) (e2 dSub (eVar 3) (eC (di 1)))))) (e2 mulI (eC (di 2)) (eVar 1))) [some (.tuple (nl B)), some (di e), some (.tuple (nl A)), none]) (nl (List.range' 1 (A.length - 1))) = .ok (bl ((List.range' 1 (A.length - 1)).map fun k => decide (B.getD (A.getD (k - 1) 0) 0 + 2 * e < B.getD (A.getD k 0) 0))) :=
        lc_nlB _ _ fun k hk => by
          have := List.mem_range'_1.mp hk
          have ag := apart_gt (ρ := [some (.tuple (nl B)), some (di e), some (.tuple (nl A)), some (di k)]) e rfl q1 (k := k) (by omega) (by omega) (vB := 0) (vA := 2) (vk := 3) (ve := 1) rfl rfl rfl rfl he
          show (R.bind _ _) = _
          simp [-e2, -eVar]
          rw [ag]
          rfl
      have a3 : ((List.range' 1 (A.length - 1)).map fun k => decide (B.getD (A.getD (k - 1) 0) 0 + 2 * e < B.getD (A.getD k 0) 0)).all id = apartB B e A := all_map_id _ _
      have dA : dAll [.list (bl ((List.range' 1 (A.length - 1)).map fun k => decide (B.getD (A.getD (k - 1) 0) 0 + 2 * e < B.getD (A.getD k 0) 0)))] = .ok (.bool (apartB B e A)) := by
        rw [dAll_bl, a3]
      simp only [f_are_apart, runDef_, b_are_apart, int_lit]
      simp [eLc, il, dl, rg, lc, dA, -dAll_list, -List.getD_eq_getElem?_getD]
theorem is_size_cover {B S A : List Nat} (hB : Bo B 12) {e : Nat} (he : e ≤ 50) (hS : S.length ≤ big) (hA : A.length ≤ big) : f_is_size_cover [.tuple (nl B), di e, .tuple [.tuple (nl S), .tuple (nl A)]] = .ok (.bool (docov B e S && (apar B e A && decide (S.length = A.length)))) := by
  have it : f_is_tuple_of [.tuple [.tuple (nl S), .tuple (nl A)], di 2] = .ok (.bool true) := rfl
  have x0 : dIx (.tuple [.tuple (nl S), .tuple (nl A)]) (di 0) = .ok (.tuple (nl S)) := rfl
  have x1 : dIx (.tuple [.tuple (nl S), .tuple (nl A)]) (di 1) = .ok (.tuple (nl A)) := rfl
  have c := do_cover hS B e
  have a := are_apart hA B (e := e) (by omega)
  cases q1 : docov B e S with
  | false =>
    rw [q1] at c
    simp [f_is_size_cover, runDef_, b_is_size_cover, int_lit, need_bodies hB he, it, x0, c]
  | true =>
    rw [q1] at c
    cases q2 : apar B e A with
    | false =>
      rw [q2] at a
      simp [f_is_size_cover, runDef_, b_is_size_cover, int_lit, need_bodies hB he, it, x0, x1, c, a]
    | true =>
      rw [q2] at a
      simp [f_is_size_cover, runDef_, b_is_size_cover, int_lit, need_bodies hB he, it, x0, x1, c, a, dl, dn]
/-! the least ease -/
theorem szs_le {B : List Nat} (h : Bo B 12) {e : Nat} (he : e ≤ 50) {s : Nat} (hs : s ∈ szs e B) : s ≤ 250 := by
  obtain ⟨p, hp, rfl⟩ := List.mem_map.mp hs
  obtain ⟨h1, h2⟩ := pks_at e B _ p hp
  have := h.bd _ (getD_mem h1)
  show p.2 + e ≤ 250
  omega
theorem szs_rise (e : Nat) {B : List Nat} (h : B.Pairwise (· ≤ ·)) : (szs e B).Pairwise (· < ·) :=
  List.pairwise_map.mpr ((pks_apart e h _ (Nat.le_refl _)).imp fun z => by
    have := z.2
    omega)
theorem docov_szs {B : List Nat} (h : Bo B 12) {e : Nat} (he : e ≤ 50) : docov B e (szs e B) = true := by
  unfold docov
  rw [rising_pw (szs_rise e h.srt), List.all_eq_true.mpr fun s hs => decide_eq_true (szs_le h he hs)]
  refine List.all_eq_true.mpr fun b hb => List.any_eq_true.mpr ?_
  obtain ⟨k, hk, rfl⟩ := List.mem_iff_getElem.mp hb
  have := szs_fit e B k hk
  simpa [hk] using this
theorem apar_aps {B : List Nat} (h : Bo B 12) (e : Nat) : apar B e (aps e B) = true := by
  have pa := pks_apart e h.srt _ (Nat.le_refl _)
  have r : (aps e B).Pairwise (· < ·) := List.pairwise_map.mpr (pa.imp fun z => z.1)
  unfold apar
  rw [rising_pw r, List.all_eq_true.mpr fun s hs => ?_]
  · refine List.all_eq_true.mpr fun k hk => decide_eq_true ?_
    have hk' := List.mem_range'_1.mp hk
    rw [aps_len] at hk'
    have hk'' : 1 ≤ k ∧ k < 1 + ((pks e B B.length).length - 1) := hk'
    have g1 : k - 1 < (pks e B B.length).length := by omega
    have g2 : k < (pks e B B.length).length := by omega
    have := (List.pairwise_iff_getElem.mp pa (k - 1) k g1 g2 (by omega)).2
    have a1 := (pks_at e B _ _ (List.getElem_mem g1)).2
    have a2 := (pks_at e B _ _ (List.getElem_mem g2)).2
    have e1 : (aps e B).getD (k - 1) 0 = ((pks e B B.length)[k - 1]).1 := by simp [aps, g1]
    have e2' : (aps e B).getD k 0 = ((pks e B B.length)[k]).1 := by simp [aps, g2]
    rw [e1, e2', ← a1, ← a2]
    exact this
  · obtain ⟨p, hp, rfl⟩ := List.mem_map.mp hs
    exact decide_eq_true (pks_at e B _ p hp).1
theorem cnt_200 {B : List Nat} (h : Bo B 12) : cnt 200 B ≤ 1 := by
  have := cnt_le (e := 200) (L := [200]) h.srt fun k hk => ⟨200, List.mem_singleton.mpr rfl, fit_iff.mpr (by
    have := h.bd _ (getD_mem hk)
    omega)⟩
  simpa using this
def lsE (B : List Nat) (w : Nat) : Option Nat := (List.range 201).find? fun e => decide (cnt e B ≤ w)
theorem lsE_some {B : List Nat} (h : Bo B 12) {w : Nat} (hw : 1 ≤ w) : ∃ e, lsE B w = some e ∧ e ≤ 200 ∧ cnt e B ≤ w ∧ ∀ j, j < e → w < cnt j B := by
  cases q : lsE B w with
  | none =>
    have := List.find?_eq_none.mp q 200 (List.mem_range.mpr (by decide))
    have := cnt_200 h
    simp at *
    omega
  | some e =>
    obtain ⟨h1, h2, h3⟩ := List.find?_range_eq_some.mp q
    have := List.mem_range.mp h2
    refine ⟨e, rfl, by omega, by simpa using h1, fun j hj => ?_⟩
    have := h3 j hj
    simpa using this
end K76
set_option Elab.async false
set_option linter.all false
set_option maxRecDepth 10000
namespace K76
open PySem DL
theorem size_ease {B : List Nat} (h : Bo B 12) {w : Nat} (h1 : 1 ≤ w) (h2 : w ≤ 10) : ∃ e, f_size_ease [.tuple (nl B), di w] = .ok (di e) ∧ e ≤ 200 ∧ cnt e B ≤ w ∧ ∀ j, j < e → w < cnt j B := by
  obtain ⟨e, he, r⟩ := lsE_some h h1
  refine ⟨e, ?_, r⟩
  have nb := need_bodies h (e := 0) (by decide)
  have rg := rng_nl 201 (by decide)
  have i1 : ((201 : Nat) : Int) = 201 := rfl
  rw [i1] at rg
  have lp := forL_find di (fun e => decide (cnt e B ≤ w)) di (g := gVar 2) (body := l_size_ease_0) (ρ := [some (.tuple (nl B)), some (di w), none]) (List.range 201) fun x hx => by
    have c := cover_of h.len x
    have ix : dIx (.tuple [.tuple (nl (szs x B)), .tuple (nl (aps x B))]) (di 0) = .ok (.tuple (nl (szs x B))) := rfl
    by_cases q : cnt x B ≤ w <;> simp [l_size_ease_0, int_lit, c, ix, dl, dn, szs_len, q]
  have fe : (List.range 201).find? (fun e => decide (cnt e B ≤ w)) = some e := he
  rw [fe] at lp
  have lp' : forL (gVar 2) l_size_ease_0 (nl (List.range 201)) [some (.tuple (nl B)), some (di w), none] = .ok (.rt (di e)) := lp
  have rg' : dRng 0 201 = .ok (nl (List.range 201)) := rg
  have a1 : dAdd (di 200) (di 1) = .ok (.int 201) := rfl
  simp [f_size_ease, runDef_, b_size_ease, int_lit, nb, btwN, h1, h2, a1]
  rw [rg']
  simp [lp']
/-! the law's own -/
theorem law_bodies (c : Int) (most : Nat) (hm : most ≤ 12) : ∃ B e, Bo B most ∧ e ≤ 50 ∧ f__law_bodies [.int c, di most] = .ok (.tuple [.tuple (nl B), di e]) := by
  obtain ⟨ds, hd, _, hr⟩ := law_row c (most + 3) 1000 (by unfold big; omega) (by decide) (by decide)
  have hr' : f__law_row [.int c, di (most + 3), di 1000] = .ok (.list (nl ds)) := hr
  have lt := Nat.mod_lt (ds.getD 0 0) (show 0 < most + 1 by omega)
  obtain ⟨k, ek, hk⟩ : ∃ k, ds.getD 0 0 % (most + 1) = k ∧ k ≤ most := ⟨_, rfl, by omega⟩
  have l3 := Nat.mod_lt (ds.getD 1 0) (show 0 < 3 by omega)
  obtain ⟨j, ej, hj⟩ : ∃ j, ds.getD 1 0 % 3 = j ∧ j < 3 := ⟨_, rfl, l3⟩
  obtain ⟨top, et, ht0, ht⟩ : ∃ top, ([10, 60, 201] : List Nat).getD j 0 = top ∧ 0 < top ∧ top ≤ 201 := by
    obtain rfl | rfl | rfl : j = 0 ∨ j = 1 ∨ j = 2 := by omega
    all_goals exact ⟨_, rfl, by decide, by decide⟩
  obtain ⟨tp, ep, hp0, hp⟩ : ∃ top, ([4, 12, 51] : List Nat).getD j 0 = top ∧ 0 < top ∧ top ≤ 51 := by
    obtain rfl | rfl | rfl : j = 0 ∨ j = 1 ∨ j = 2 := by omega
    all_goals exact ⟨_, rfl, by decide, by decide⟩
  let g : Nat → Nat := fun k => ds.getD (3 + k) 0 % top
  have so := dSorted_di ((List.range k).map g)
  have so' : dSorted [.list (nl ((List.range k).map g))] = .ok (.list (nl (sortN ((List.range k).map g)))) := so
  have p := sortN_perm ((List.range k).map g)
  have bd : ∀ x, x ∈ sortN ((List.range k).map g) → x < top := fun x hx => by
    obtain ⟨y, _, rfl⟩ := List.mem_map.mp (p.mem_iff.mp hx)
    exact Nat.mod_lt _ ht0
  have lp := Nat.mod_lt (ds.getD 2 0) hp0
  refine ⟨sortN ((List.range k).map g), ds.getD 2 0 % tp, ⟨by rw [p.length_eq]; simpa using hk, fun x hx => by have := bd x hx; omega, sortN_sorted _⟩, by omega, ?_⟩
  have x0 := dl.1 ds 0 (by omega)
  have x1 := dl.1 ds 1 (by omega)
  have x2 := dl.1 ds 2 (by omega)
  have xa : dIx (.list [di 10, di 60, di 201]) (di j) = .ok (di top) := by rw [← et]; exact dl.1 [10, 60, 201] j hj
  have xb : dIx (.list [di 4, di 12, di 51]) (di j) = .ok (di tp) := by rw [← ep]; exact dl.1 [4, 12, 51] j hj
  have m0 : dMod (di (ds.getD 0 0)) (di (most + 1)) = .ok (di k) := by rw [dMod_nat _ _ (by omega), ek]
  have m1 : dMod (di (ds.getD 1 0)) (di 3) = .ok (di j) := by rw [dMod_nat _ _ (by omega), ej]
  have m2 : dMod (di (ds.getD 2 0)) (di tp) = .ok (di (ds.getD 2 0 % tp)) := dMod_nat _ _ hp0
  have rg := rng_nl k (by unfold big; omega)
  have lc : lcL (lcF (gVar 5) [5] eYes (e2 dMod (e2 dIx (eVar 2) (e2 dAdd (eC (di 3)) (eVar 5))) (eVar 3)) [some (.int c), some (di most), some (.list (nl ds)), some (di top), none, none]) (nl (List.range k)) = .ok (nl ((List.range k).map g)) := by
    refine lc_nl g _ fun x hx => ?_
    have := List.mem_range.mp hx
    have ix := dl.1 ds (3 + x) (by omega)
    have md := dMod_nat (ds.getD (3 + x) 0) top ht0
    simp [lcF, dn, ix, md, g, -List.getD_eq_getElem?_getD]
  simp [f__law_bodies, runDef_, b__law_bodies, int_lit, dn, hr', x0, x1, x2, m0, m1, m2, xa, xb, rg, eLc, lc, so', -List.getD_eq_getElem?_getD]
theorem law_fits (s b e : Nat) : f__law_fits [di s, di b, di e] = .ok (.bool (fit s b e)) := by
  have d1 := dSub_cast s b
  have d2 := dAbs_sub s b
  simp [f__law_fits, runDef_, b__law_fits, d1, d2, dn, fit]
theorem law_whole (n : Nat) : f__law_whole [di n] = .ok (.bool true) := by
  simp [f__law_whole, runDef_, b__law_whole, di]
theorem not_rising (S : List Nat) : ((List.range' 1 (S.length - 1)).any fun k => decide (S.getD k 0 ≤ S.getD (k - 1) 0)) = !rising S := by
  unfold rising
  rw [List.not_all_eq_any_not]
  refine List.any_congr rfl ?_
  intro k
  by_cases h : S.getD k 0 ≤ S.getD (k - 1) 0
  · rw [decide_eq_true h, decide_eq_false (by omega)]; rfl
  · rw [decide_eq_false h, decide_eq_true (by omega)]; rfl
theorem law_do_cover {S : List Nat} (hS : S.length ≤ big) (B : List Nat) (e : Nat) : f__law_do_cover [.tuple (nl B), di e, .tuple (nl S)] = .ok (.bool (docov B e S)) := by
  have rg := rng1 S.length hS
  have l1 : lcL (lcF (gVar 5) [5] eYes (eAnd (eA f__law_whole (aCons (eVar 5) aNil)) (eChain dLe dLe (eC (di 0)) (eVar 5) (eC (di 250)))) [some (.tuple (nl B)), some (di e), some (.tuple (nl S)), none, none, none, none]) (nl S) = .ok (bl (S.map fun s => decide (s ≤ 250))) := lc_nlB _ S fun s _ => by simp [lcF, dn, law_whole]
  have l2 : lcL (lcF (gVar 3) [3] eYes (e2 dGe (e2 dIx (eVar 2) (e2 dSub (eVar 3) (eC (di 1)))) (e2 dIx (eVar 2) (eVar 3))) [some (.tuple (nl B)), some (di e), some (.tuple (nl S)), none, none, none, none]) (nl (List.range' 1 (S.length - 1))) = .ok (bl ((List.range' 1 (S.length - 1)).map fun k => decide (S.getD k 0 ≤ S.getD (k - 1) 0))) :=
    lc_nlB _ _ fun k hk => by
      have := List.mem_range'_1.mp hk
      have g : k - 1 < S.length := by omega
      have g2 : k < S.length := by omega
      simp [lcF, sub1 k this.1, dl.2.1 S _ g, dl.2.1 S _ g2, dn, -List.getD_eq_getElem?_getD]
  have l3 : lcL (lcF (gVar 4) [4] eYes (eA dAny (aCons (eLc (iL (eVar 2)) (gVar 6) [6] eYes (eA f__law_fits (aCons (eVar 6) (aCons (eVar 4) (aCons (eVar 1) aNil))))) aNil)) [some (.tuple (nl B)), some (di e), some (.tuple (nl S)), none, none, none, none]) (nl B) = .ok (bl (B.map fun b => S.any fun s => fit s b e)) := lc_nlB _ B fun b _ => by
    have l4 : lcL (lcF (gVar 6) [6] eYes (eA f__law_fits (aCons (eVar 6) (aCons (eVar 4) (aCons (eVar 1) aNil)))) [some (.tuple (nl B)), some (di e), some (.tuple (nl S)), none, some (di b), none, none]) (nl S) = .ok (bl (S.map fun s => fit s b e)) := lc_nlB _ S fun s _ => by simp [lcF, law_fits]
    simp [lcF, eLc, l4, List.any_map]
  have a1 : (S.map fun s => decide (s ≤ 250)).all id = S.all fun s => decide (s ≤ 250) := all_map_id _ _
  have a2 : ((List.range' 1 (S.length - 1)).map fun k => decide (S.getD k 0 ≤ S.getD (k - 1) 0)).any id = !rising S := by
    rw [List.any_map]; exact not_rising S
  have a3 : (B.map fun b => S.any fun s => fit s b e).all id = covers B e S := all_map_id _ _
  have dA1 : dAll [.list (bl (S.map fun s => decide (s ≤ 250)))] = .ok (.bool (S.all fun s => decide (s ≤ 250))) := by
    rw [dAll_bl, a1]
  have dA2 : dAny [.list (bl ((List.range' 1 (S.length - 1)).map fun k => decide (S.getD k 0 ≤ S.getD (k - 1) 0)))] = .ok (.bool (!rising S)) := by
    rw [← a2]; simp
  have dA3 : dAll [.list (bl (B.map fun b => S.any fun s => fit s b e))] = .ok (.bool (covers B e S)) := by
    rw [dAll_bl, a3]
  unfold docov
  cases q1 : S.all fun s => decide (s ≤ 250) with
  | false =>
    rw [q1] at dA1
    simp only [f__law_do_cover, runDef_, b__law_do_cover, int_lit]
    simp [eLc, l1, dA1, -dAll_list, -dAny_list, -List.getD_eq_getElem?_getD]
  | true =>
    rw [q1] at dA1
    cases q2 : rising S with
    | false =>
      rw [q2] at dA2
      simp only [f__law_do_cover, runDef_, b__law_do_cover, int_lit]
      simp [eLc, l1, dA1, dl, rg, l2, dA2, -dAll_list, -dAny_list, -List.getD_eq_getElem?_getD]
    | true =>
      rw [q2] at dA2
      simp only [f__law_do_cover, runDef_, b__law_do_cover, int_lit]
      simp [eLc, l1, dA1, dl, rg, l2, dA2, l3, dA3, -dAll_list, -dAny_list, -List.getD_eq_getElem?_getD]
theorem all_and {α : Type} (p q : α → Bool) : ∀ l : List α, (l.all fun x => p x && q x) = (l.all p && l.all q)
  | [] => rfl
  | x :: l => by simp only [List.all_cons, all_and p q l]; cases p x <;> cases q x <;> simp
theorem law_apart {A : List Nat} (hA : A.length ≤ big) (B : List Nat) {e : Nat} (he : e < 1000) : f__law_apart_bodies [.tuple (nl B), di e, .tuple (nl A)] = .ok (.bool (apar B e A)) := by
  have rg := rng1 A.length hA
  have l1 : lcL (lcF (gVar 4) [4] eYes (eAnd (eA f__law_whole (aCons (eVar 4) aNil)) (eChain dLe dLt (eC (di 0)) (eVar 4) (eA dLen (aCons (eVar 0) aNil)))) [some (.tuple (nl B)), some (di e), some (.tuple (nl A)), none, none]) (nl A) = .ok (bl (A.map fun k => decide (k < B.length))) := lc_nlB _ A fun s _ => by simp [lcF, dn, dl, law_whole]
  have a1 : (A.map fun k => decide (k < B.length)).all id = A.all fun k => decide (k < B.length) := all_map_id _ _
  have dA1 : dAll [.list (bl (A.map fun k => decide (k < B.length)))] = .ok (.bool (A.all fun k => decide (k < B.length))) := by
    rw [dAll_bl, a1]
  unfold apar
  cases q1 : A.all fun k => decide (k < B.length) with
  | false =>
    rw [q1] at dA1
    simp only [f__law_apart_bodies, runDef_, b__law_apart_bodies, int_lit]
    simp [eLc, l1, dA1, -dAll_list, -List.getD_eq_getElem?_getD]
  | true =>
    rw [q1] at dA1
    have lc : lcL (lcF (gVar 3) [3] eYes (eAnd (e2 dLt (e2 dIx (eVar 2) (e2 dSub (eVar 3) (eC (di 1)))) (e2 dIx (eVar 2) (eVar 3))) (e2 dGt (e2 dSub (e2 dIx (eVar 0) (e2 dIx (eVar 2) (eVar 3))) (e2 dIx (eVar 0) (e2 dIx (eVar 2) (e2 dSub (eVar 3) (eC (di 1)))))) (e2 mulI (eC (di 2)) (eVar 1)))) [some (.tuple (nl B)), some (di e), some (.tuple (nl A)), none, none]) (nl (List.range' 1 (A.length - 1))) = .ok (bl ((List.range' 1 (A.length - 1)).map fun k => decide (A.getD (k - 1) 0 < A.getD k 0) && decide (B.getD (A.getD (k - 1) 0) 0 + 2 * e < B.getD (A.getD k 0) 0))) :=
      lc_nlB _ _ fun k hk => by
        have := List.mem_range'_1.mp hk
        have ag := apart_gt (ρ := [some (.tuple (nl B)), some (di e), some (.tuple (nl A)), some (di k), none]) e rfl q1 (k := k) (by omega) (by omega) (vB := 0) (vA := 2) (vk := 3) (ve := 1) rfl rfl rfl rfl he
        have g : k - 1 < A.length := by omega
        have g2 : k < A.length := by omega
        have lt : (e2 dLt (e2 dIx (eVar 2) (e2 dSub (eVar 3) (eC (di 1)))) (e2 dIx (eVar 2) (eVar 3))) [some (.tuple (nl B)), some (di e), some (.tuple (nl A)), some (di k), none] = .ok (.bool (decide (A.getD (k - 1) 0 < A.getD k 0))) := by
          simp [sub1 k this.1, dl.2.1 A _ g, dl.2.1 A _ g2, dn, -List.getD_eq_getElem?_getD]
        show (R.bind _ _) = _
        simp [-e2, -eVar, eAnd, -List.getD_eq_getElem?_getD]
        rw [ag, lt]
        by_cases z : A.getD (k - 1) 0 < A.getD k 0 <;> simp [z, -List.getD_eq_getElem?_getD]
    have a3 : ((List.range' 1 (A.length - 1)).map fun k => decide (A.getD (k - 1) 0 < A.getD k 0) && decide (B.getD (A.getD (k - 1) 0) 0 + 2 * e < B.getD (A.getD k 0) 0)).all id = (rising A && apartB B e A) := by
      rw [all_map_id, all_and]; rfl
    have dA : dAll [.list (bl ((List.range' 1 (A.length - 1)).map fun k => decide (A.getD (k - 1) 0 < A.getD k 0) && decide (B.getD (A.getD (k - 1) 0) 0 + 2 * e < B.getD (A.getD k 0) 0)))] = .ok (.bool (rising A && apartB B e A)) := by
      rw [dAll_bl, a3]
    simp only [f__law_apart_bodies, runDef_, b__law_apart_bodies, int_lit]
    simp [eLc, l1, dA1, dl, rg, lc, dA, -dAll_list, -List.getD_eq_getElem?_getD]
end K76
set_option Elab.async false
set_option linter.all false
set_option maxRecDepth 10000
namespace K76
open PySem DL
/-! counted by the law -/
theorem any_last {e b : Nat} {C : List (Nat × Nat)} {p : Nat × Nat} (h : (C ++ [p]).Pairwise fun p q => p.1 < q.1 ∧ p.2 + 2 * e < q.2) (hb : p.2 ≤ b) : ((C ++ [p]).any fun p => fit (p.2 + e) b e) = !decide (p.2 + 2 * e < b) := by
  have h2 := (List.pairwise_append.mp h).2.2
  by_cases q : p.2 + 2 * e < b
  · rw [decide_eq_true q, Bool.not_true]
    refine List.any_eq_false.mpr fun r hr z => ?_
    rw [fit_iff] at z
    rcases List.mem_append.mp hr with hr | hr
    · have := (h2 r hr p (List.mem_singleton.mpr rfl)).2
      omega
    · rw [List.mem_singleton] at hr; subst hr; omega
  · rw [decide_eq_false q, Bool.not_false]
    exact List.any_eq_true.mpr ⟨p, List.mem_append_right _ (List.mem_singleton.mpr rfl), fit_iff.mpr ⟨by omega, by omega⟩⟩
def lastD (C : List (Nat × Nat)) : Da := match C.getLast? with
  | none => .none
  | some p => di p.2
theorem lastD_app (C : List (Nat × Nat)) (p : Nat × Nat) : lastD (C ++ [p]) = di p.2 := by
  unfold lastD
  rw [List.getLast?_append]
  rfl
theorem law_many {B : List Nat} (hB : B.Pairwise (· ≤ ·)) {e : Nat} (he : e ≤ 1000) : f__law_many [.tuple (nl B), di e] = .ok (di (cnt e B)) := by
  have m2 : mulI (di 2) (di e) = .ok (di (2 * e)) := mulI_nat 2 e (by omega)
  obtain ⟨C, hC, lp⟩ := forL_inv (g := gVar 4) (body := l__law_many_0) di
    (fun C : List (Nat × Nat) => [some (.tuple (nl B)), some (di e), some (di C.length), some (lastD C), none])
    (fun don C => C = pks e B don.length) B [] [] rfl (by
      rintro don x C ⟨rest, er⟩ rfl
      have er : B = don ++ x :: rest := er
      have hlt : don.length < B.length := by rw [er]; simp
      have hx : B.getD don.length 0 = x := by rw [er]; simp
      refine ⟨_, by rw [List.length_append], ?_⟩
      have p1 : pks e B (don.length + 1) = if (pks e B don.length).any (fun p => fit (p.2 + e) x e) then pks e B don.length else pks e B don.length ++ [(don.length, x)] := by
        rw [← hx]; rfl
      have pa := pks_apart e hB don.length (by omega)
      have pat := pks_at e B don.length
      rw [List.length_singleton, p1]
      generalize pks e B don.length = C at *
      rcases List.eq_nil_or_concat C with rfl | ⟨C', p, rfl⟩
      · simp [l__law_many_0, lastD, dn, int_lit]
      · rw [List.concat_eq_append] at *
        have hp := pat p (List.mem_append_right _ (List.mem_singleton.mpr rfl))
        have le : p.2 ≤ x := by
          rw [hp.2, ← hx]
          have := List.pairwise_iff_getElem.mp hB p.1 don.length (by omega) hlt hp.1
          have g1 : p.1 < B.length := by omega
          simpa [g1, hlt] using this
        rw [any_last pa le]
        have ln : (C' ++ [p]).length = C'.length + 1 := by simp
        have l1 := lastD_app C' p
        have l2 := lastD_app (C' ++ [p]) (don.length, x)
        have isn : isNone (di p.2) = false := rfl
        by_cases q : p.2 + 2 * e < x
        · rw [decide_eq_true q]
          simp [l__law_many_0, l1, l2, dn, int_lit, m2, q, -List.append_assoc]
          try rfl
        · rw [decide_eq_false q]
          simp [l__law_many_0, l1, dn, int_lit, m2, q])
  have hC' : C = pks e B B.length := by simpa using hC
  subst hC'
  have lp' : forL (gVar 4) l__law_many_0 (nl B) [some (.tuple (nl B)), some (di e), some (di 0), some .none, none] = .ok (.nx [some (.tuple (nl B)), some (di e), some (di (pks e B B.length).length), some (lastD (pks e B B.length)), none]) := lp
  simp [f__law_many, runDef_, b__law_many, int_lit, lp', cnt]
/-! lots -/
def tl (l : List Nat) : Da := .tuple (nl l)
def lts : Nat → List (List Nat)
  | 0 => [[]]
  | n + 1 => lts n ++ (lts n).map (· ++ [n])
theorem lts_len : ∀ n, (lts n).length = 2 ^ n
  | 0 => rfl
  | n + 1 => by rw [lts, List.length_append, List.length_map, lts_len n, Nat.pow_succ]; omega
theorem lts_lt : ∀ n l, l ∈ lts n → ∀ k, k ∈ l → k < n
  | 0, l, h, k, hk => by rw [lts, List.mem_singleton] at h; subst h; exact nomatch hk
  | n + 1, l, h, k, hk => by
    rcases List.mem_append.mp h with h | h
    · have := lts_lt n l h k hk; omega
    · obtain ⟨m, hm, rfl⟩ := List.mem_map.mp h
      rcases List.mem_append.mp hk with hk | hk
      · have := lts_lt n m hm k hk; omega
      · rw [List.mem_singleton] at hk; omega
theorem dAdd_tup (xs ys : List Da) (h : xs.length + ys.length ≤ big) : dAdd (.tuple xs) (.tuple ys) = .ok (.tuple (xs ++ ys)) := if_pos h
theorem dAdd_lst (xs ys : List Da) (h : xs.length + ys.length ≤ big) : dAdd (.list xs) (.list ys) = .ok (.list (xs ++ ys)) := if_pos h
theorem pow_le8 {n : Nat} (h : n ≤ 8) : 2 ^ n ≤ 256 := by
  have := Nat.pow_le_pow_right (show 0 < 2 by decide) h
  omega
theorem lts_short : ∀ n l, l ∈ lts n → l.length ≤ n
  | 0, l, h => by rw [lts, List.mem_singleton] at h; subst h; exact Nat.le_refl _
  | n + 1, l, h => by
    rcases List.mem_append.mp h with h | h
    · have := lts_short n l h; omega
    · obtain ⟨m, hm, rfl⟩ := List.mem_map.mp h
      have := lts_short n m hm
      simp; omega
theorem law_lots {n : Nat} (hn : n ≤ 8) : f__law_lots [di n] = .ok (.list ((lts n).map tl)) := by
  have rg := rng_nl n (by unfold big; omega)
  obtain ⟨L, hL, lp⟩ := forL_inv (g := gVar 2) (body := l__law_lots_0) di (fun L : List (List Nat) => [some (di n), some (.list (L.map tl)), none, none]) (fun don L => L = lts don.length) (List.range n) [] [[]] rfl (by
    rintro don x L ⟨rest, er⟩ rfl
    obtain ⟨hx, hlt⟩ := range_split er
    refine ⟨_, by rw [List.length_append], ?_⟩
    rw [hx]
    have lc : lcL (lcF (gVar 3) [3] eYes (e2 dAdd (eVar 3) (eTup (aCons (eVar 2) aNil))) [some (di n), some (.list ((lts don.length).map tl)), some (di don.length), none]) ((lts don.length).map tl) = .ok ((lts don.length).map fun l => tl (l ++ [don.length])) :=
      lcL_map tl (fun l => tl (l ++ [don.length])) _ fun l hl => by
        have := lts_short _ l hl
        have a : dAdd (tl l) (.tuple [di don.length]) = .ok (tl (l ++ [don.length])) := by
          unfold tl
          rw [dAdd_tup _ _ (by simp; unfold big; omega)]
          simp
        simp [lcF, a]
    have le := lts_len don.length
    have le2 := pow_le8 (show don.length ≤ 8 by omega)
    have ad : dAdd (.list ((lts don.length).map tl)) (.list ((lts don.length).map fun l => tl (l ++ [don.length]))) = .ok (.list ((lts (don.length + 1)).map tl)) := by
      rw [dAdd_lst _ _ (by simp; unfold big; omega), lts, List.map_append, List.map_map]
      rfl
    rw [List.length_singleton]
    generalize lts (don.length + 1) = L2 at *
    generalize lts don.length = L1 at *
    simp [l__law_lots_0, eLc, lc, ad])
  have hL' : L = lts n := by simpa using hL
  subst hL'
  have lp' : forL (gVar 2) l__law_lots_0 (nl (List.range n)) [some (di n), some (.list [.tuple []]), none, none] = .ok (.nx [some (di n), some (.list ((lts n).map tl)), none, none]) := lp
  have rg' : dRng 0 (n : Int) = .ok (nl (List.range n)) := rg
  have dn' : (di n) = .int (n : Int) := rfl
  simp [f__law_lots, runDef_, b__law_lots, rg', lp']
theorem law_lot (c : Int) {n : Nat} (hn : n ≤ 12) : ∃ A : List Nat, A.length ≤ 12 ∧ f__law_lot [.int c, di n] = .ok (.tuple (nl A)) := by
  obtain ⟨ds, hd, _, hr⟩ := law_row c n 2 (by unfold big; omega) (by decide) (by decide)
  have hr' : f__law_row [.int c, di n, di 2] = .ok (.list (nl ds)) := hr
  have rg := rng_nl n (by unfold big; omega)
  refine ⟨(List.range n).filter (fun k => decide (ds.getD k 0 = 1)), ?_, ?_⟩
  · have := List.length_filter_le (fun k => decide (ds.getD k 0 = 1)) (List.range n)
    rw [List.length_range] at this
    omega
  have lc : lcL (lcF (gVar 3) [3] (e2 dEq (e2 dIx (eVar 2) (eVar 3)) (eC (di 1))) (eVar 3) [some (.int c), some (di n), some (.list (nl ds)), none]) (nl (List.range n)) = .ok (nl (((List.range n).filter fun k => decide (ds.getD k 0 = 1)).map fun k => k)) :=
    lc_nlF _ _ _ fun k hk => by
      have := List.mem_range.mp hk
      have ix := dl.1 ds k (by omega)
      by_cases q : ds.getD k 0 = 1 <;> simp [lcF, ix, dn, q, -List.getD_eq_getElem?_getD]
  rw [List.map_id'] at lc
  simp [f__law_lot, runDef_, b__law_lot, int_lit, hr', rg, eLc, lc, -List.getD_eq_getElem?_getD]
theorem law_flag (b d : Bool) : f__law_flag [.bool b, .bool d] = .ok (.bool (b == d)) := by
  cases b <;> cases d <;> rfl
end K76
set_option Elab.async false
set_option linter.all false
set_option maxRecDepth 10000
namespace K76
open PySem DL
def scr (ns : List Int) : Option Da := some (.list (il ns))
/-- the told pair -/
def toldD (B : List Nat) (e : Nat) : Da := .tuple [tl (szs e B), tl (aps e B)]
theorem part0 (ns : List Int) : ∃ B e, Bo B 12 ∧ e ≤ 50 ∧ t_law_0 [scr ns, none, none, none, none, none, none, none, none, none, none, none, none, none, none, none, none, none, none, none, none] = .ok (.nx [scr ns, some (tl B), some (di e), none, none, none, none, none, none, none, none, none, none, none, none, none, none, none, none, none, none]) := by
  obtain ⟨c0, hc0⟩ := law_at ns 0
  obtain ⟨c1, hc1⟩ := law_at ns 1
  obtain ⟨ks, hk, hkl, hkr⟩ := law_row c1 1 2 (by decide) (by decide) (by decide)
  have k0 := dl.1 ks 0 (by omega)
  have kd : ks.getD 0 0 < 2 := hkl _ (getD_mem (by omega))
  generalize ks.getD 0 0 = d at k0 kd
  obtain ⟨m, em, hm⟩ : ∃ m, ([8, 12] : List Nat).getD d 0 = m ∧ m ≤ 12 := by
    obtain rfl | rfl : d = 0 ∨ d = 1 := by omega
    all_goals exact ⟨_, rfl, by decide⟩
  have xa : dIx (.list [di 8, di 12]) (di d) = .ok (di m) := by rw [← em]; exact dl.1 [8, 12] d kd
  obtain ⟨B, e, hB, he, hb⟩ := law_bodies c0 m hm
  have hkr' : f__law_row [.int c1, di 1, di 2] = .ok (.list (nl ks)) := hkr
  refine ⟨B, e, ⟨by have := hB.len; omega, hB.bd, hB.srt⟩, he, ?_⟩
  simp [t_law_0, scr, int_lit, hc0, hc1, hkr', k0, xa, hb, tl]
abbrev E5 (ns : List Int) (B : List Nat) (e : Nat) : Ev := [scr ns, some (tl B), some (di e), some (di B.length), some (di (cnt e B)), some (toldD B e), none, none, none, none, none, none, none, none, none, none, none, none, none, none, none]
theorem ix0 (B : List Nat) (e : Nat) : dIx (toldD B e) (di 0) = .ok (tl (szs e B)) := rfl
theorem ix1 (B : List Nat) (e : Nat) : dIx (toldD B e) (di 1) = .ok (tl (aps e B)) := rfl
theorem cnt_len (e : Nat) (B : List Nat) : cnt e B ≤ B.length := pks_len e B B.length
section
variable {B : List Nat} {e : Nat}
theorem szs_big (h : Bo B 12) : (szs e B).length ≤ big := by
  have := szs_len e B
  have := cnt_len e B
  have := h.len
  unfold big; omega
theorem aps_big (h : Bo B 12) : (aps e B).length ≤ big := by
  have := aps_len e B
  have := cnt_len e B
  have := h.len
  unfold big; omega
theorem part4 (h : Bo B 12) (he : e ≤ 50) (ns : List Int) : t_law_4 (E5 ns B e) = .ok (.nx (E5 ns B e)) := by
  have dc := law_do_cover (szs_big (e := e) h) B e
  rw [docov_szs h he] at dc
  have x0 := ix0 B e
  have ln : dLen [toldD B e] = .ok (di 2) := rfl
  have it : isTy .tuple (toldD B e) = true := rfl
  unfold tl at x0
  simp [t_law_4, int_lit, it, ln, x0, dn, dc, tl]
theorem part5 (h : Bo B 12) (he : e ≤ 50) (ns : List Int) : t_law_5 (E5 ns B e) = .ok (.nx (E5 ns B e)) := by
  have ap := law_apart (aps_big (e := e) h) B (e := e) (by omega)
  rw [apar_aps h e] at ap
  have x0 := ix0 B e
  have x1 := ix1 B e
  unfold tl at x0 x1
  simp [t_law_5, int_lit, x0, x1, ap, dl, dn, szs_len, aps_len, tl]
theorem part6 (h : Bo B 12) (he : e ≤ 50) (ns : List Int) : t_law_6 (E5 ns B e) = .ok (.nx (E5 ns B e)) := by
  have sf := size_fewest h he
  have ic := is_size_cover h he (szs_big (e := e) h) (aps_big (e := e) h)
  rw [docov_szs h he, apar_aps h e, szs_len, aps_len] at ic
  simp at ic
  simp [t_law_6, tl, toldD, sf, dn, ic]
theorem tup_of_list (ds : List Da) (n : Nat) : f_is_tuple_of [.list ds, di n] = .ok (.bool false) := rfl
theorem tup_of_none (n : Nat) : f_is_tuple_of [.none, di n] = .ok (.bool false) := rfl
theorem part7 (h : Bo B 12) (he : e ≤ 50) (ns : List Int) : t_law_7 (E5 ns B e) = .ok (.nx (E5 ns B e)) := by
  have nb := need_bodies h he
  have dl' : dList [toldD B e] = .ok (.list [tl (szs e B), tl (aps e B)]) := rfl
  have a1 : f_is_size_cover [.tuple (nl B), di e, .list [tl (szs e B), tl (aps e B)]] = .ok (.bool false) := by
    have := tup_of_list [tl (szs e B), tl (aps e B)] 2
    simp [f_is_size_cover, runDef_, b_is_size_cover, int_lit, nb, this]
  have a2 : f_is_size_cover [.tuple (nl B), di e, .none] = .ok (.bool false) := by
    have := tup_of_none 2
    simp [f_is_size_cover, runDef_, b_is_size_cover, int_lit, nb, this]
  simp [t_law_7, dl', a1, a2, show tl B = .tuple (nl B) from rfl]
/-- no smaller lot of sizes just above bodies -/
theorem lot_fails (h : Bo B 12) {A : List Nat} (hA : ∀ k, k ∈ A → k < B.length) (hl : A.length < cnt e B) : (B.all fun b => A.any fun k => fit (B.getD k 0 + e) b e) = false := by
  cases q : B.all fun b => A.any fun k => fit (B.getD k 0 + e) b e with
  | false => rfl
  | true =>
    have := cnt_le (e := e) (L := A.map fun k => B.getD k 0 + e) h.srt fun j hj => by
      obtain ⟨k, hk, hf⟩ := List.any_eq_true.mp (List.all_eq_true.mp q _ (getD_mem hj))
      exact ⟨_, List.mem_map.mpr ⟨k, hk, rfl⟩, hf⟩
    rw [List.length_map] at this
    omega
theorem part8 (h : Bo B 12) (he : e ≤ 50) (ns : List Int) : t_law_8 (E5 ns B e) = .ok (.nx (E5 ns B e)) := by
  by_cases q : B.length ≤ 8
  · have lo := law_lots q
    have lp := forL_same tl (g := gVar 6) (body := l_law_0) (ρ := E5 ns B e) (lts B.length) fun A hA => by
      have hk := lts_lt _ A hA
      unfold E5
      generalize scr ns = s
      generalize toldD B e = T
      have l1 : lcL (lcF (gVar 19) [19] eYes (eA dAny (aCons (eLc (iL (eVar 6)) (gVar 20) [20] eYes (eA f__law_fits (aCons (e2 dAdd (e2 dIx (eVar 1) (eVar 20)) (eVar 2)) (aCons (eVar 19) (aCons (eVar 2) aNil))))) aNil)) [s, some (.tuple (nl B)), some (di e), some (di B.length), some (di (cnt e B)), some T, some (.tuple (nl A)), none, none, none, none, none, none, none, none, none, none, none, none, none, none]) (nl B) = .ok (bl (B.map fun b => A.any fun k => fit (B.getD k 0 + e) b e)) := lc_nlB _ B fun b _ => by
        have l2 : lcL (lcF (gVar 20) [20] eYes (eA f__law_fits (aCons (e2 dAdd (e2 dIx (eVar 1) (eVar 20)) (eVar 2)) (aCons (eVar 19) (aCons (eVar 2) aNil)))) [s, some (.tuple (nl B)), some (di e), some (di B.length), some (di (cnt e B)), some T, some (.tuple (nl A)), none, none, none, none, none, none, none, none, none, none, none, none, some (di b), none]) (nl A) = .ok (bl (A.map fun k => fit (B.getD k 0 + e) b e)) := lc_nlB _ A fun k hk' => by
          have ix := dl.2.1 B k (hk k hk')
          simp [lcF, ix, dn, law_fits, -List.getD_eq_getElem?_getD]
        simp [lcF, eLc, l2, List.any_map, -List.getD_eq_getElem?_getD]
      have a1 : (B.map fun b => A.any fun k => fit (B.getD k 0 + e) b e).all id = B.all fun b => A.any fun k => fit (B.getD k 0 + e) b e := all_map_id _ _
      have dA : dAll [.list (bl (B.map fun b => A.any fun k => fit (B.getD k 0 + e) b e))] = .ok (.bool (B.all fun b => A.any fun k => fit (B.getD k 0 + e) b e)) := by
        rw [dAll_bl, a1]
      by_cases z : A.length < cnt e B
      · rw [lot_fails h hk z] at dA
        simp [l_law_0, tl, dl, dn, z, eLc, l1, dA, -dAll_list, -List.getD_eq_getElem?_getD]
      · simp [l_law_0, tl, dl, dn, z]
    unfold E5 at lp
    unfold E5
    generalize scr ns = s at *
    generalize toldD B e = T at *
    simp [t_law_8, int_lit, dn, q, lo, lp]
  · simp [t_law_8, int_lit, dn, q]
end
end K76
set_option Elab.async false
set_option linter.all false
set_option maxRecDepth 10000
namespace K76
open PySem DL
/-! turned measures -/
def turn (B : List Nat) : List Nat := B.reverse.map fun x => 200 - x
theorem turn_turn {B : List Nat} (h : ∀ x, x ∈ B → x ≤ 200) : turn (turn B) = B := by
  unfold turn
  rw [← List.map_reverse, List.reverse_reverse, List.map_map]
  conv => rhs; rw [← List.map_id B]
  refine List.map_congr_left fun x hx => ?_
  have := h x hx
  show 200 - (200 - x) = x
  omega
theorem turn_bo {B : List Nat} (h : Bo B 12) : Bo (turn B) 12 := by
  refine ⟨by unfold turn; simp; exact h.len, fun x hx => ?_, ?_⟩
  · obtain ⟨y, _, rfl⟩ := List.mem_map.mp hx
    show 200 - y ≤ 200
    omega
  · refine List.pairwise_map.mpr (List.pairwise_reverse.mpr (h.srt.imp fun hab => ?_))
    omega
theorem turn_le {B : List Nat} (h : Bo B 12) (e : Nat) : cnt e (turn B) ≤ cnt e B := by
  have ht := turn_bo h
  have pa := pks_apart e ht.srt _ (Nat.le_refl _)
  have pt := pks_at e (turn B) (turn B).length
  have inB : ∀ p, p ∈ pks e (turn B) (turn B).length → ∃ b, b ∈ B ∧ b ≤ 200 ∧ p.2 = 200 - b := fun p hp => by
    obtain ⟨h1, h2⟩ := pt p hp
    have : p.2 ∈ turn B := by rw [h2]; exact getD_mem h1
    obtain ⟨b, hb, e'⟩ := List.mem_map.mp this
    have hb' := List.mem_reverse.mp hb
    exact ⟨b, hb', h.bd b hb', e'.symm⟩
  have := apart_le (e := e) ((pks e (turn B) (turn B).length).reverse.map fun p => 200 - p.2) (szs e B) (List.pairwise_map.mpr (List.pairwise_reverse.mpr (pa.imp_of_mem fun {p q} hp hq z => by
      obtain ⟨b, _, hb, e1⟩ := inB p hp
      obtain ⟨c, _, hc, e2'⟩ := inB q hq
      have := z.2
      omega))) fun x hx => by
    obtain ⟨p, hp, rfl⟩ := List.mem_map.mp hx
    obtain ⟨b, hb, hb2, e1⟩ := inB p (List.mem_reverse.mp hp)
    obtain ⟨k, hk, rfl⟩ := List.mem_iff_getElem.mp hb
    obtain ⟨s, hs, hf⟩ := szs_fit e B k hk
    refine ⟨s, hs, ?_⟩
    have : 200 - p.2 = B.getD k 0 := by rw [e1]; simp [hk]; omega
    show fit s (200 - p.2) e = true
    rw [this]
    exact hf
  rw [szs_len] at this
  simpa [cnt] using this
theorem cnt_turn {B : List Nat} (h : Bo B 12) (e : Nat) : cnt e (turn B) = cnt e B := by
  have a := turn_le h e
  have b := turn_le (turn_bo h) e
  rw [turn_turn h.bd] at b
  omega
section
variable {B : List Nat} {e : Nat}
abbrev E9 (ns : List Int) (B : List Nat) (e : Nat) (x6 x7 x8 x9 x13 x14 x15 : Option Da) : Ev := [scr ns, some (tl B), some (di e), some (di B.length), some (di (cnt e B)), some (toldD B e), x6, x7, x8, x9, none, none, none, x13, x14, x15, none, none, none, none, none]
theorem part9 (h : Bo B 12) (ns : List Int) : ∃ A : List Nat, A.length ≤ 12 ∧ t_law_9 (E5 ns B e) = .ok (.nx (E9 ns B e (some (tl A)) none none none none none none)) := by
  obtain ⟨c2, hc2⟩ := law_at ns 2
  obtain ⟨A, hA, hl⟩ := law_lot c2 h.len
  refine ⟨A, hA, ?_⟩
  simp [t_law_9, scr, int_lit, hc2, hl, tl]
theorem part10 (h : Bo B 12) (ns : List Int) (x6 : Option Da) : ∃ ds : List Nat, ds.length = cnt e B + 2 ∧ t_law_10 (E9 ns B e x6 none none none none none none) = .ok (.nx (E9 ns B e x6 (some (.list (nl ds))) none none none none none)) := by
  obtain ⟨c3, hc3⟩ := law_at ns 3
  have cl := cnt_len e B
  have hl := h.len
  obtain ⟨ds, hd, _, hr⟩ := law_row c3 (cnt e B + 2) 260 (by unfold big; omega) (by decide) (by decide)
  have hr' : f__law_row [.int c3, di (cnt e B + 2), di 260] = .ok (.list (nl ds)) := hr
  refine ⟨ds, hd, ?_⟩
  simp [t_law_10, scr, int_lit, hc3, dn, hr']
theorem part11 (ns : List Int) (x6 : Option Da) (ds : List Nat) (hd : ds.length = cnt e B + 2) : ∃ S : List Nat, S.length = cnt e B ∧ t_law_11 (E9 ns B e x6 (some (.list (nl ds))) none none none none none) = .ok (.nx (E9 ns B e x6 (some (.list (nl ds))) (some (tl S)) none none none none)) := by
  have cut : cutD (nl ds) none (some (cnt e B : Int)) = nl (ds.take (cnt e B)) := by rw [cutD_to, nl_take]
  have so : dSorted [.list (nl ((ds.take (cnt e B)).map (· % 251)))] = .ok (.list (nl (sortN ((ds.take (cnt e B)).map (· % 251))))) := dSorted_di _
  have p := sortN_perm ((ds.take (cnt e B)).map (· % 251))
  refine ⟨sortN ((ds.take (cnt e B)).map (· % 251)), by rw [p.length_eq]; simp; omega, ?_⟩
  have lc : lcL (lcF (gVar 18) [18] eYes (e2 dMod (eVar 18) (eC (di 251))) (E9 ns B e x6 (some (.list (nl ds))) none none none none none)) (nl (ds.take (cnt e B))) = .ok (nl ((ds.take (cnt e B)).map (· % 251))) := lc_nl _ _ fun x _ => by
    simp [lcF, dn]
  simp [t_law_11, int_lit, cut, eLc, lc, so, tl, -List.map_take]
theorem part12 (ns : List Int) (x6 x8 : Option Da) (ds : List Nat) (hd : ds.length = cnt e B + 2) : ∃ S : List Nat, S.length = cnt e B ∧ t_law_12 (E9 ns B e x6 (some (.list (nl ds))) x8 none none none none) = .ok (.nx (E9 ns B e x6 (some (.list (nl ds))) x8 (some (tl S)) none none none)) := by
  have ix := dl.1 ds (cnt e B) (by omega)
  have md := Nat.mod_lt (ds.getD (cnt e B) 0) (show 0 < e + 1 by omega)
  have md' : dMod (di (ds.getD (cnt e B) 0)) (di (e + 1)) = .ok (di (ds.getD (cnt e B) 0 % (e + 1))) := dMod_nat _ _ (by omega)
  generalize ds.getD (cnt e B) 0 % (e + 1) = d at *
  refine ⟨(szs e B).map (· - d), by rw [List.length_map, szs_len], ?_⟩
  have x0 := ix0 B e
  have lc : lcL (lcF (gVar 18) [18] eYes (e2 dSub (eVar 18) (e2 dMod (e2 dIx (eVar 7) (eVar 4)) (e2 dAdd (eVar 2) (eC (di 1))))) (E9 ns B e x6 (some (.list (nl ds))) x8 none none none none)) (nl (szs e B)) = .ok (nl ((szs e B).map (· - d))) := lc_nl _ _ fun x hx => by
    obtain ⟨p, _, rfl⟩ := List.mem_map.mp hx
    have sb : dSub (di (p.2 + e)) (di d) = .ok (di (p.2 + e - d)) := dSub_nat _ _ (by omega)
    simp [lcF, dn, ix, md', sb, -List.getD_eq_getElem?_getD]
  unfold tl at *
  simp [t_law_12, int_lit, x0, eLc, lc]
theorem judged (h : Bo B 12) (he : e ≤ 50) {S A : List Nat} (hS : S.length ≤ big) (hA : A.length ≤ big) (x4 x5 x6 x7 x10 : Option Da) (ex : x10 = some (tl S)) (x8 x9 : Option Da) :
    ((gVar 11 (tl A) [none, some (tl B), some (di e), none, x4, x5, x6, x7, none, none, x10, none, none, none, none, none, none, none, none, none, none]).bind fun ρ1 => l_law_1 ρ1) = .ok (.nx [none, some (tl B), some (di e), none, x4, x5, x6, x7, none, none, x10, none, none, none, none, none, none, none, none, none, none]) := by
  subst ex
  have c := law_do_cover hS B e
  have a := law_apart hA B (e := e) (by omega)
  have j := is_size_cover h he hS hA
  have lf := law_flag (docov B e S && (apar B e A && decide (S.length = A.length))) (docov B e S && (apar B e A && decide (S.length = A.length)))
  rw [beq_self_eq_true] at lf
  unfold tl
  cases q1 : docov B e S with
  | false =>
    rw [q1] at c j lf
    simp at j lf
    simp [l_law_1, c, j, lf]
  | true =>
    rw [q1] at c j lf
    cases q2 : apar B e A with
    | false =>
      rw [q2] at a j lf
      simp at j lf
      simp [l_law_1, c, a, j, lf]
    | true =>
      rw [q2] at a j lf
      simp at j lf
      simp [l_law_1, c, a, dl, dn, j, lf]
theorem part13 (h : Bo B 12) (he : e ≤ 50) (ns : List Int) (A : List Nat) (hA : A.length ≤ 12) (ds D L : List Nat) (hD : D.length = cnt e B) (hL : L.length = cnt e B) :
    t_law_13 (E9 ns B e (some (tl A)) (some (.list (nl ds))) (some (tl D)) (some (tl L)) none none none) = .ok (.nx [none, some (tl B), some (di e), none, some (di (cnt e B)), some (toldD B e), some (tl A), some (.list (nl ds)), none, none, none, none, none, none, none, none, none, none, none, none, none]) := by
  have x0 := ix0 B e
  have x1 := ix1 B e
  have cl := cnt_len e B
  have hl := h.len
  have bg : ∀ n, n ≤ 12 → n ≤ big := fun n hn => by unfold big; omega
  have cut : cutD (nl (szs e B)) (some (1 : Int)) none = nl ((szs e B).drop 1) := by
    have := cutD_from (nl (szs e B)) 1
    rw [nl_drop] at this
    exact this
  have key := forL_fold (g := gVar 10) (body := l_law_2) tl
    (fun s : Option Da × Option Da => [none, some (tl B), some (di e), none, some (di (cnt e B)), some (toldD B e), some (tl A), some (.list (nl ds)), s.1, s.2, none, none, none, none, none, none, none, none, none, none, none])
    (fun _ _ => (none, none)) (fun _ => True) [szs e B, D, L, (szs e B).drop 1] (some (tl D), some (tl L)) trivial fun s S hS => by
      have hS' : S.length ≤ big := by
        simp at hS
        have := szs_len e B
        rcases hS with rfl | rfl | rfl | rfl
        · exact bg _ (by omega)
        · exact bg _ (by omega)
        · exact bg _ (by omega)
        · exact bg _ (by rw [List.length_tail]; omega)
      refine fun _ => ⟨trivial, ?_⟩
      have j1 := judged h he hS' (bg _ (by rw [aps_len]; omega)) (A := aps e B) (some (di (cnt e B))) (some (toldD B e)) (some (tl A)) (some (.list (nl ds))) (some (tl S)) rfl none none
      have j2 := judged h he hS' (bg _ hA) (A := A) (some (di (cnt e B))) (some (toldD B e)) (some (tl A)) (some (.list (nl ds))) (some (tl S)) rfl none none
      have lp := forL_same tl (g := gVar 11) (body := l_law_1) (ρ := [none, some (tl B), some (di e), none, some (di (cnt e B)), some (toldD B e), some (tl A), some (.list (nl ds)), none, none, some (tl S), none, none, none, none, none, none, none, none, none, none]) [aps e B, A] fun x hx => by
        simp at hx
        rcases hx with rfl | rfl
        · exact j1
        · exact j2
      have lp' : forL (gVar 11) l_law_1 [tl (aps e B), tl A] [none, some (tl B), some (di e), none, some (di (cnt e B)), some (toldD B e), some (tl A), some (.list (nl ds)), none, none, some (tl S), none, none, none, none, none, none, none, none, none, none] = .ok (.nx [none, some (tl B), some (di e), none, some (di (cnt e B)), some (toldD B e), some (tl A), some (.list (nl ds)), none, none, some (tl S), none, none, none, none, none, none, none, none, none, none]) := lp
      simp [l_law_2, int_lit, x1, lp']
  have k1 := key.1
  have k2 : forL (gVar 10) l_law_2 [tl (szs e B), tl D, tl L, tl ((szs e B).drop 1)] [none, some (tl B), some (di e), none, some (di (cnt e B)), some (toldD B e), some (tl A), some (.list (nl ds)), some (tl D), some (tl L), none, none, none, none, none, none, none, none, none, none, none] = .ok (.nx [none, some (tl B), some (di e), none, some (di (cnt e B)), some (toldD B e), some (tl A), some (.list (nl ds)), none, none, none, none, none, none, none, none, none, none, none, none, none]) := k1
  have sl : (eSl (e2 dIx (eVar 5) (eC (di 0))) (oSome (eC (di 1))) oNone) [none, some (tl B), some (di e), none, some (di (cnt e B)), some (toldD B e), some (tl A), some (.list (nl ds)), some (tl D), some (tl L), none, none, none, none, none, none, none, none, none, none, none] = .ok (tl ((szs e B).drop 1)) := by
    unfold tl at x0
    have : di 1 = .int 1 := rfl
    simp [x0, tl, this, cut]
  generalize (szs e B).drop 1 = Z at *
  simp [t_law_13, int_lit, x0, sl, k2, -eSl]
end
end K76
set_option Elab.async false
set_option linter.all false
set_option maxRecDepth 10000
namespace K76
open PySem DL
section
variable {B : List Nat} {e : Nat}
abbrev E13 (B : List Nat) (e : Nat) (x5 x6 : Option Da) (ds : List Nat) (x13 x14 x15 : Option Da) : Ev := [none, some (tl B), some (di e), none, some (di (cnt e B)), x5, x6, some (.list (nl ds)), none, none, none, none, none, x13, x14, x15, none, none, none, none, none]
theorem part14 (x5 x6 : Option Da) (ds : List Nat) (hd : ds.length = cnt e B + 2) : ∃ w, 1 ≤ w ∧ w ≤ 10 ∧ t_law_14 (E13 B e x5 x6 ds none none none) = .ok (.nx (E13 B e x5 x6 ds (some (di w)) none none)) := by
  have ix := dl.1 ds (cnt e B + 1) (by omega)
  have md : dMod (di (ds.getD (cnt e B + 1) 0)) (di 10) = .ok (di (ds.getD (cnt e B + 1) 0 % 10)) := dMod_nat _ _ (by omega)
  have lt := Nat.mod_lt (ds.getD (cnt e B + 1) 0) (show 0 < 10 by decide)
  generalize ds.getD (cnt e B + 1) 0 % 10 = d at *
  refine ⟨1 + d, by omega, by omega, ?_⟩
  simp [t_law_14, int_lit, ix, md, dn, -List.getD_eq_getElem?_getD]
theorem part15 (h : Bo B 12) (x5 x6 : Option Da) (ds : List Nat) {w : Nat} (h1 : 1 ≤ w) (h2 : w ≤ 10) : ∃ l, l ≤ 200 ∧ t_law_15 (E13 B e x5 x6 ds (some (di w)) none none) = .ok (.nx (E13 B e x5 x6 ds (some (di w)) (some (di l)) none)) ∧
    t_law_16 (E13 B e x5 x6 ds (some (di w)) (some (di l)) none) = .ok (.nx (E13 B e x5 x6 ds (some (di w)) (some (di l)) none)) := by
  obtain ⟨l, hl, h3, h4, h5⟩ := size_ease h h1 h2
  refine ⟨l, h3, by simp [t_law_15, tl, hl], ?_⟩
  have m1 := law_many (e := l) h.srt (by omega)
  have nlt : ¬ w < cnt l B := by omega
  by_cases q : 0 < l
  · have m2 := law_many (e := l - 1) h.srt (by omega)
    have sb : dSub (di l) (di 1) = .ok (di (l - 1)) := dSub_nat _ _ q
    have := h5 (l - 1) (by omega)
    have nle : ¬ cnt (l - 1) B ≤ w := by omega
    simp [t_law_16, tl, int_lit, law_whole, m1, m2, sb, dn, nlt, nle, q]
  · simp [t_law_16, tl, int_lit, law_whole, m1, dn, nlt, q]
theorem part17 (h : Bo B 12) (he : e ≤ 50) (x5 x6 : Option Da) (ds : List Nat) (x13 x14 : Option Da) : t_law_17 (E13 B e x5 x6 ds x13 x14 none) = .ok (.nx (E13 B e x5 x6 ds x13 x14 (some (tl (turn B))))) ∧
    t_law_18 (E13 B e x5 x6 ds x13 x14 (some (tl (turn B)))) = .ok (.nx (E13 B e x5 x6 ds x13 x14 (some (tl (turn B))))) := by
  have rv : dRev (.tuple (nl B)) = .ok (.tuple (nl B.reverse)) := by
    show R.ok (PyData.tuple (nl B).reverse) = _
    rw [nl_reverse]
  have lc : lcL (lcF (gVar 18) [18] eYes (e2 dSub (eC (di 200)) (eVar 18)) (E13 B e x5 x6 ds x13 x14 none)) (nl B.reverse) = .ok (nl (turn B)) := lc_nl _ _ fun x hx => by
    have := h.bd x (List.mem_reverse.mp hx)
    have sb : dSub (di 200) (di x) = .ok (di (200 - x)) := dSub_nat _ _ this
    simp [lcF, sb]
  have sf := size_fewest (turn_bo h) he
  rw [cnt_turn h] at sf
  exact ⟨by simp [t_law_17, tl, int_lit, rv, eLc, lc], by simp [t_law_18, tl, sf, dn]⟩
/-! refused things -/
theorem word_f (h : Bo B 12) (t : Da) (hb : f_is_between [t, .int 0, .int 50] = .ok (.bool false)) : f__law_word [.str "fewest", tl B, t] = .ok (.str "number") := by
  have nb : f_need_bodies [.tuple (nl B), t] = .exc "NoNumber" := by
    simp [f_need_bodies, runDef_, b_need_bodies, are_bodies h, hb]
  have sf : f_size_fewest [.tuple (nl B), t] = .exc "NoNumber" := by
    simp [f_size_fewest, runDef_, b_size_fewest, nb]
  have eq : dEq (.str "fewest") (.str "fewest") = .ok (.bool true) := by rfl
  have ne : ¬ ("NoNumber" : Str) = "NoSizes" := by decide
  simp [f__law_word, runDef_, b__law_word, sTry, eq, sf, tl, ne]
theorem word_e (h : Bo B 12) (t : Da) (hb : f_is_between [t, .int 1, .int 10] = .ok (.bool false)) : f__law_word [.str "ease", tl B, t] = .ok (.str "number") := by
  have nb := need_bodies h (e := 0) (by decide)
  have nb' : f_need_bodies [.tuple (nl B), .int 0] = .ok .none := nb
  have sf : f_size_ease [.tuple (nl B), t] = .exc "NoNumber" := by
    simp [f_size_ease, runDef_, b_size_ease, nb', hb]
  have eq : dEq (.str "ease") (.str "fewest") = .ok (.bool false) := by rfl
  have ne : ¬ ("NoNumber" : Str) = "NoSizes" := by decide
  simp [f__law_word, runDef_, b__law_word, sTry, eq, sf, tl, ne]
theorem word_s (t : Da) (hb : f_are_bodies [t] = .ok (.bool false)) : f__law_word [.str "fewest", t, .none] = .ok (.str "sizes") ∧ f__law_word [.str "ease", t, .none] = .ok (.str "sizes") := by
  have nb : ∀ u, f_need_bodies [t, u] = .exc "NoSizes" := fun u => by
    simp [f_need_bodies, runDef_, b_need_bodies, hb]
  have sf : f_size_fewest [t, .none] = .exc "NoSizes" := by
    simp [f_size_fewest, runDef_, b_size_fewest, nb]
  have se : f_size_ease [t, .none] = .exc "NoSizes" := by
    simp [f_size_ease, runDef_, b_size_ease, nb]
  have eq : dEq (.str "fewest") (.str "fewest") = .ok (.bool true) := by rfl
  have eq2 : dEq (.str "ease") (.str "fewest") = .ok (.bool false) := by rfl
  exact ⟨by simp [f__law_word, runDef_, b__law_word, sTry, eq, sf], by simp [f__law_word, runDef_, b__law_word, sTry, eq2, se]⟩
theorem ne_num : dNe (.str "number") (.str "number") = .ok (.bool false) := by rfl
theorem eq_siz : dEq (.str "sizes") (.str "sizes") = .ok (.bool true) := by rfl
abbrev E1 (B : List Nat) : Ev := [none, some (tl B), none, none, none, none, none, none, none, none, none, none, none, none, none, none, none, none, none, none, none]
theorem p19 (h : Bo B 12) (x2 x4 x5 x6 x7 x13 x14 x15 : Option Da) : t_law_19 [none, some (tl B), x2, none, x4, x5, x6, x7, none, none, none, none, none, x13, x14, x15, none, none, none, none, none] = .ok (.nx (E1 B)) := by
  have go : ∀ t, f_is_between [t, .int 0, .int 50] = .ok (.bool false) → ((gVar 16 t (E1 B)).bind fun ρ1 => l_law_3 ρ1) = .ok (.nx (E1 B)) := fun t ht => by
    have w := word_f h t ht
    simp [l_law_3, w, ne_num]
  have lp := forL_same (fun t : Da => t) (g := gVar 16) (body := l_law_3) (ρ := E1 B) [.none, .int (-1), .int 51, .bool true, .str "1"] fun x hx => by
    simp at hx
    rcases hx with rfl | rfl | rfl | rfl | rfl
    all_goals exact go _ rfl
  have lp' : forL (gVar 16) l_law_3 [.none, .int (-1), .int 51, .bool true, .str "1"] (E1 B) = .ok (.nx (E1 B)) := lp
  have sb : dSub (.int 0) (.int 1) = .ok (.int (-1)) := rfl
  simp [t_law_19, sb, lp']
theorem p20 (h : Bo B 12) : t_law_20 (E1 B) = .ok (.nx (E1 B)) := by
  have go : ∀ t, f_is_between [t, .int 1, .int 10] = .ok (.bool false) → ((gVar 16 t (E1 B)).bind fun ρ1 => l_law_4 ρ1) = .ok (.nx (E1 B)) := fun t ht => by
    have w := word_e h t ht
    simp [l_law_4, w, ne_num]
  have lp := forL_same (fun t : Da => t) (g := gVar 16) (body := l_law_4) (ρ := E1 B) [.none, .int 0, .int 11, .bool true] fun x hx => by
    simp at hx
    rcases hx with rfl | rfl | rfl | rfl
    all_goals exact go _ rfl
  have lp' : forL (gVar 16) l_law_4 [.none, .int 0, .int 11, .bool true] (E1 B) = .ok (.nx (E1 B)) := lp
  simp [t_law_20, lp']
def wrongs (B : List Nat) : List Da := [.none, .list (nl B), .tuple [.int (-1)], .tuple [.int 201], .tuple [.int 2, .int 1], .tuple [.bool true], .tuple (List.replicate 13 (.int 1)), .str "?"]
theorem p21 : t_law_21 (E1 B) = .ok (.nx [none, some (tl B), none, none, none, none, none, none, none, none, none, none, none, none, none, none, none, some (.list (wrongs B)), none, none, none]) := by
  have li : dList [.tuple (nl B)] = .ok (.list (nl B)) := rfl
  have sb : dSub (.int 0) (.int 1) = .ok (.int (-1)) := rfl
  have rp : repT (.tuple [.int 1]) (.int 13) = .ok (.tuple (List.replicate 13 (.int 1))) := rfl
  simp [t_law_21, tl, li, sb, rp, wrongs]
theorem p22 : t_law_22 [none, some (tl B), none, none, none, none, none, none, none, none, none, none, none, none, none, none, none, some (.list (wrongs B)), none, none, none] = .ok (.rt (.bool true)) := by
  have go : ∀ t, f_are_bodies [t] = .ok (.bool false) → lcF (gVar 16) [16] eYes (eAnd (e2 dEq (eA f__law_word (aCons (eC (.str "fewest")) (aCons (eVar 16) (aCons (eC .none) aNil)))) (eC (.str "sizes"))) (e2 dEq (eA f__law_word (aCons (eC (.str "ease")) (aCons (eVar 16) (aCons (eC .none) aNil)))) (eC (.str "sizes")))) [none, some (tl B), none, none, none, none, none, none, none, none, none, none, none, none, none, none, none, some (.list (wrongs B)), none, none, none] t = .ok (some (.bool true)) := fun t ht => by
    obtain ⟨w1, w2⟩ := word_s t ht
    simp [lcF, w1, w2, eq_siz]
  have lc : lcL (lcF (gVar 16) [16] eYes (eAnd (e2 dEq (eA f__law_word (aCons (eC (.str "fewest")) (aCons (eVar 16) (aCons (eC .none) aNil)))) (eC (.str "sizes"))) (e2 dEq (eA f__law_word (aCons (eC (.str "ease")) (aCons (eVar 16) (aCons (eC .none) aNil)))) (eC (.str "sizes")))) [none, some (tl B), none, none, none, none, none, none, none, none, none, none, none, none, none, none, none, some (.list (wrongs B)), none, none, none]) (wrongs B) = .ok ((wrongs B).map fun _ => .bool true) := by
    have := lcL_map (fun t : Da => t) (fun _ => PyData.bool true) (wrongs B) (f := lcF (gVar 16) [16] eYes (eAnd (e2 dEq (eA f__law_word (aCons (eC (.str "fewest")) (aCons (eVar 16) (aCons (eC .none) aNil)))) (eC (.str "sizes"))) (e2 dEq (eA f__law_word (aCons (eC (.str "ease")) (aCons (eVar 16) (aCons (eC .none) aNil)))) (eC (.str "sizes")))) [none, some (tl B), none, none, none, none, none, none, none, none, none, none, none, none, none, none, none, some (.list (wrongs B)), none, none, none]) fun x hx => by
      simp [wrongs] at hx
      rcases hx with rfl | rfl | rfl | rfl | rfl | rfl | rfl | rfl
      all_goals exact go _ rfl
    rw [List.map_id'] at this
    exact this
  have al : dAll [.list ((wrongs B).map fun _ => .bool true)] = .ok (.bool true) := rfl
  generalize wrongs B = w at *
  simp [t_law_22, eLc, lc, al, -dAll_list]
end
theorem law (ns : List Int) (hns : ns.length ≤ 63) : f_law [.list (ns.map PyData.int)] = .ok (.bool true) := by
  obtain ⟨B, e, h, he, q0⟩ := part0 ns
  have q1 : sAsg (gVar 3) (eA dLen (aCons (eVar 1) aNil)) [scr ns, some (tl B), some (di e), none, none, none, none, none, none, none, none, none, none, none, none, none, none, none, none, none, none] = .ok (.nx [scr ns, some (tl B), some (di e), some (di B.length), none, none, none, none, none, none, none, none, none, none, none, none, none, none, none, none, none]) := by
    simp [tl, dl]
  have lm := law_many (e := e) h.srt (by omega)
  have sc := size_cover h he
  have q2 : t_law_2 [scr ns, some (tl B), some (di e), some (di B.length), none, none, none, none, none, none, none, none, none, none, none, none, none, none, none, none, none] = .ok (.nx [scr ns, some (tl B), some (di e), some (di B.length), some (di (cnt e B)), none, none, none, none, none, none, none, none, none, none, none, none, none, none, none, none]) := by
    simp [t_law_2, tl, lm]
  have q3 : t_law_3 [scr ns, some (tl B), some (di e), some (di B.length), some (di (cnt e B)), none, none, none, none, none, none, none, none, none, none, none, none, none, none, none, none] = .ok (.nx (E5 ns B e)) := by
    simp [t_law_3, tl, sc, toldD]
  obtain ⟨A, hA, q9⟩ := part9 (e := e) h ns
  obtain ⟨ds, hd, q10⟩ := part10 (e := e) h ns (some (tl A))
  obtain ⟨D, hD, q11⟩ := part11 (B := B) (e := e) ns (some (tl A)) ds hd
  obtain ⟨L, hL, q12⟩ := part12 (B := B) (e := e) ns (some (tl A)) (some (tl D)) ds hd
  have q13 := part13 h he ns A hA ds D L hD hL
  obtain ⟨w, hw1, hw2, q14⟩ := part14 (B := B) (e := e) (some (toldD B e)) (some (tl A)) ds hd
  obtain ⟨l, _, q15, q16⟩ := part15 (e := e) h (some (toldD B e)) (some (tl A)) ds hw1 hw2
  obtain ⟨q17, q18⟩ := part17 h he (some (toldD B e)) (some (tl A)) ds (some (di w)) (some (di l))
  have q19 := p19 h (some (di e)) (some (di (cnt e B))) (some (toldD B e)) (some (tl A)) (some (.list (nl ds))) (some (di w)) (some (di l)) (some (tl (turn B)))
  refine run_rt ?_
  show b_law [scr ns, none, none, none, none, none, none, none, none, none, none, none, none, none, none, none, none, none, none, none, none] = _
  unfold b_law
  exact seq_nx q0 (seq_nx q1 (seq_nx q2 (seq_nx q3 (seq_nx (part4 h he ns) (seq_nx (part5 h he ns) (seq_nx (part6 h he ns) (seq_nx (part7 h he ns) (seq_nx (part8 h he ns) (seq_nx q9 (seq_nx q10 (seq_nx q11 (seq_nx q12 (seq_nx q13 (seq_nx q14 (seq_nx q15 (seq_nx q16 (seq_nx q17 (seq_nx q18 (seq_nx q19 (seq_nx (p20 h) (seq_nx p21 p22)))))))))))))))))))))
end K76
set_option Elab.async false
set_option linter.all false
set_option maxRecDepth 100000
set_option maxHeartbeats 4000000
/-! Each def of the row keeps its reading, printed by gen.py. -/
namespace K76.Wk
open PySem PySem.Spec PyProof.Rows L2 DL
def top (i : Nat) : Stmt := PySem.Challenge.pw_needlehouse_k76_whole_fewest_sizes.main.body.getD i (.Pass ⟨0, 0, 0, 0⟩)
structure Tp (K : PySem.W.Frag) (mg : MG) : Prop where
  c_MOST_BODIES : ∃ t, mg "MOST_BODIES" = some (.int 12 t)
  c_MOST_EASE : ∃ t, mg "MOST_EASE" = some (.int 50 t)
  c_MOST_MEASURE : ∃ t, mg "MOST_MEASURE" = some (.int 200 t)
  c_MOST_SIZES : ∃ t, mg "MOST_SIZES" = some (.int 10 t)
  i_NoNumber__NoNumber__true : IsE K mg "NoNumber" "NoNumber" true
  i_NoNumber__NoSizes__false : IsE K mg "NoNumber" "NoSizes" false
  i_NoSizes__NoNumber__false : IsE K mg "NoSizes" "NoNumber" false
  i_NoSizes__NoSizes__true : IsE K mg "NoSizes" "NoSizes" true
  k_NoNumber__NeedleError : Cat K mg "NoNumber" "NeedleError"
  k_NoSizes__NeedleError : Cat K mg "NoSizes" "NeedleError"
  n_abs : mg "abs" = none
  n_all : mg "all" = none
  n_any : mg "any" = none
  n_bool : mg "bool" = none
  n_enumerate : mg "enumerate" = none
  n_int : mg "int" = none
  n_isinstance : mg "isinstance" = none
  n_len : mg "len" = none
  n_list : mg "list" = none
  n_range : mg "range" = none
  n_sorted : mg "sorted" = none
  n_tuple : mg "tuple" = none
  x_NoNumber : Exn K mg "NoNumber"
  x_NoSizes : Exn K mg "NoSizes"
section
variable {P : Program} {w : World} {K : PySem.W.Frag} {mg : MG} {base : Heap}
abbrev s_is_integer : Stmt := top 5
theorem sc_is_integer : FnScope ["thing"] ["thing"] (defScope s_is_integer) := ⟨rfl, rfl, rfl, by decide +kernel, rfl, by decide +kernel, by decide +kernel⟩
theorem ok_is_integer {f : Addr} {fd : FuncData} (T : Tp K mg)  (F : FunD K "is_integer" "is_integer" (defArgs s_is_integer) (defBody s_is_integer) (defScope s_is_integer) [] [] f fd) (hm : mg "is_integer" = some (.ref f)) : FnD P w K mg base "is_integer" 1 1 f_is_integer :=
  okD (Γ' := []) F sc_is_integer rfl (fun _ _ _ _ _ _ us hl => match us, hl with | [_], _ => rfl) hm (fun cdv A outer s H E hr =>
    (dss_one (ds_ret (Γ' := []) (de_and (de_sh (de_isiT .int "int" rfl T.n_isinstance T.n_int (dv 0) bt_int)) (de_one (de_sh (de_not (de_isiT .bool "bool" rfl T.n_isinstance T.n_bool (dv 0) bt_bool))))) (by kernel_rfl)))) rfl

abbrev s_is_between : Stmt := top 6
theorem sc_is_between : FnScope ["thing", "least", "most"] ["thing", "least", "most"] (defScope s_is_between) := ⟨rfl, rfl, rfl, by decide +kernel, rfl, by decide +kernel, by decide +kernel⟩
theorem ok_is_between {f : Addr} {fd : FuncData} (T : Tp K mg) (F_is_integer : FnD P w K mg base "is_integer" 1 1 f_is_integer) (F : FunD K "is_between" "is_between" (defArgs s_is_between) (defBody s_is_between) (defScope s_is_between) [] [] f fd) (hm : mg "is_between" = some (.ref f)) : FnD P w K mg base "is_between" 2 3 f_is_between :=
  okD (Γ' := []) F sc_is_between rfl (fun _ _ _ _ _ _ us hl => match us, hl with | [_, _, _], _ => rfl) hm (fun cdv A outer s H E hr =>
    (dss_one (ds_ret (Γ' := []) (de_and (de_call F_is_integer (hr.mono (by decide)) (glK (by kernel_rfl)) (takes_of rfl rfl rfl rfl) (da_cons (dv 0) da_nil)) (de_one (de_sh (de_chain op_le op_le os_cmp os_cmp bl_cmp (dv 1) (dv 0) (dv 2))))) (by kernel_rfl)))) rfl

abbrev s_is_under : Stmt := top 7
theorem sc_is_under : FnScope ["thing", "many"] ["thing", "many"] (defScope s_is_under) := ⟨rfl, rfl, rfl, by decide +kernel, rfl, by decide +kernel, by decide +kernel⟩
theorem ok_is_under {f : Addr} {fd : FuncData} (T : Tp K mg) (F_is_integer : FnD P w K mg base "is_integer" 1 1 f_is_integer) (F : FunD K "is_under" "is_under" (defArgs s_is_under) (defBody s_is_under) (defScope s_is_under) [] [] f fd) (hm : mg "is_under" = some (.ref f)) : FnD P w K mg base "is_under" 2 2 f_is_under :=
  okD (Γ' := []) F sc_is_under rfl (fun _ _ _ _ _ _ us hl => match us, hl with | [_, _], _ => rfl) hm (fun cdv A outer s H E hr =>
    (dss_one (ds_ret (Γ' := []) (de_and (de_call F_is_integer (hr.mono (by decide)) (glK (by kernel_rfl)) (takes_of rfl rfl rfl rfl) (da_cons (dv 0) da_nil)) (de_one (de_sh (de_chain op_le op_lt os_cmp os_cmp bl_cmp de_int (dv 0) (dv 1))))) (by kernel_rfl)))) rfl

abbrev s_is_tuple_of : Stmt := top 8
theorem sc_is_tuple_of : FnScope ["thing", "many"] ["thing", "many"] (defScope s_is_tuple_of) := ⟨rfl, rfl, rfl, by decide +kernel, rfl, by decide +kernel, by decide +kernel⟩
theorem ok_is_tuple_of {f : Addr} {fd : FuncData} (T : Tp K mg)  (F : FunD K "is_tuple_of" "is_tuple_of" (defArgs s_is_tuple_of) (defBody s_is_tuple_of) (defScope s_is_tuple_of) [] [] f fd) (hm : mg "is_tuple_of" = some (.ref f)) : FnD P w K mg base "is_tuple_of" 1 2 f_is_tuple_of :=
  okD (Γ' := []) F sc_is_tuple_of rfl (fun _ _ _ _ _ _ us hl => match us, hl with | [_, _], _ => rfl) hm (fun cdv A outer s H E hr =>
    (dss_one (ds_ret (Γ' := []) (de_and (de_sh (de_isiT .tuple "tuple" rfl T.n_isinstance T.n_tuple (dv 0) bt_tuple)) (de_one (de_sh (de_cmp (op_eqA (u64 hr)) os_eq (de_len T.n_len (dv 0)) (dv 1) (nomark _))))) (by kernel_rfl)))) rfl

abbrev s_are_under : Stmt := top 9
theorem sc_are_under : FnScope ["thing", "many", "one"] ["thing", "many"] (defScope s_are_under) := ⟨rfl, rfl, rfl, by decide +kernel, rfl, by decide +kernel, by decide +kernel⟩
theorem ok_are_under {f : Addr} {fd : FuncData} (T : Tp K mg) (F_is_under : FnD P w K mg base "is_under" 2 2 f_is_under) (F : FunD K "are_under" "are_under" (defArgs s_are_under) (defBody s_are_under) (defScope s_are_under) [] [] f fd) (hm : mg "are_under" = some (.ref f)) : FnD P w K mg base "are_under" 3 2 f_are_under :=
  okD (Γ' := []) F sc_are_under rfl (fun _ _ _ _ _ _ us hl => match us, hl with | [_, _], _ => rfl) hm (fun cdv A outer s H E hr =>
    (dss_one (ds_ret (Γ' := []) (de_and (de_sh (de_isiT .tuple "tuple" rfl T.n_isinstance T.n_tuple (dv 0) bt_tuple)) (de_one (de_sh (de_all rfl T.n_all (de_lc (own := [("one", 2)]) rfl sc_are_under.nd (di_l false (dv 0) (fun z => nomatch z)) (blkOk_by (by kernel_rfl)) (by kernel_rfl) (by kernel_rfl) (fun _ _ _ _ _ => (dg_var sc_are_under.nd (by kernel_rfl) (locK (by kernel_rfl)) (by kernel_rfl) (fnK (by kernel_rfl)))) (fun _ _ _ _ _ => dts_nil) (fun _ _ _ _ _ => (de_call F_is_under (hr.mono (by decide)) (glK (by kernel_rfl)) takes0 (da_cons (dv 2) (da_cons (dv 1) da_nil)))) (by kernel_rfl)))))) (by kernel_rfl)))) rfl

abbrev s_is_lot : Stmt := top 10
theorem sc_is_lot : FnScope ["thing", "many", "at"] ["thing", "many"] (defScope s_is_lot) := ⟨rfl, rfl, rfl, by decide +kernel, rfl, by decide +kernel, by decide +kernel⟩
theorem ok_is_lot {f : Addr} {fd : FuncData} (T : Tp K mg) (F_are_under : FnD P w K mg base "are_under" 3 2 f_are_under) (F : FunD K "is_lot" "is_lot" (defArgs s_is_lot) (defBody s_is_lot) (defScope s_is_lot) [] [] f fd) (hm : mg "is_lot" = some (.ref f)) : FnD P w K mg base "is_lot" 4 2 f_is_lot :=
  okD (Γ' := []) F sc_is_lot rfl (fun _ _ _ _ _ _ us hl => match us, hl with | [_, _], _ => rfl) hm (fun cdv A outer s H E hr =>
    (dss_one (ds_ret (Γ' := []) (de_and (de_call F_are_under (hr.mono (by decide)) (glK (by kernel_rfl)) (takes_of rfl rfl rfl rfl) (da_cons (dv 0) (da_cons (dv 1) da_nil))) (de_one (de_sh (de_all rfl T.n_all (de_lc (own := [("at", 2)]) rfl sc_is_lot.nd (di_rng2 false (glK (by kernel_rfl)) T.n_range (da_cons de_int (da_cons (de_len T.n_len (dv 0)) da_nil))) (blkOk_by (by kernel_rfl)) (by kernel_rfl) (by kernel_rfl) (fun _ _ _ _ _ => (dg_var sc_is_lot.nd (by kernel_rfl) (locK (by kernel_rfl)) (by kernel_rfl) (fnK (by kernel_rfl)))) (fun _ _ _ _ _ => dts_nil) (fun _ _ _ _ _ => (de_cmp op_lt os_cmp (de_ix ix_any os_ix (dv 0) (de_bin op_sub os_sub (dv 2) de_int) (fun _ _ => rfl)) (de_ix ix_any os_ix (dv 0) (dv 2) (fun _ _ => rfl)) (nomark _))) (by kernel_rfl)))))) (by kernel_rfl)))) rfl

abbrev s_are_bodies : Stmt := top 16
theorem sc_are_bodies : FnScope ["thing", "at", "one"] ["thing"] (defScope s_are_bodies) := ⟨rfl, rfl, rfl, by decide +kernel, rfl, by decide +kernel, by decide +kernel⟩
theorem ok_are_bodies {f : Addr} {fd : FuncData} (T : Tp K mg) (F_is_between : FnD P w K mg base "is_between" 2 3 f_is_between) (F : FunD K "are_bodies" "are_bodies" (defArgs s_are_bodies) (defBody s_are_bodies) (defScope s_are_bodies) [] [] f fd) (hm : mg "are_bodies" = some (.ref f)) : FnD P w K mg base "are_bodies" 3 1 f_are_bodies :=
  okD (Γ' := []) F sc_are_bodies rfl (fun _ _ _ _ _ _ us hl => match us, hl with | [_], _ => rfl) hm (fun cdv A outer s H E hr =>
    (dss_cons (ds_if (dt_w (dw_or (dt_not (dt_truth (de_isiT .tuple "tuple" rfl T.n_isinstance T.n_tuple (dv 0) bt_tuple))) (dw_or1 (dt_cmp op_gt os_cmp (de_len T.n_len (dv 0)) (de_globI (glK (by kernel_rfl)) T.c_MOST_BODIES) (nomark _) bl_cmp)))) (dss_one (ds_ret (Γ' := []) de_bl (by kernel_rfl))) dss_nil)
    (dss_cons (ds_if (dt_not (dt_truth (de_all rfl T.n_all (de_lc (own := [("one", 2)]) rfl sc_are_bodies.nd (di_l false (dv 0) (fun z => nomatch z)) (blkOk_by (by kernel_rfl)) (by kernel_rfl) (by kernel_rfl) (fun _ _ _ _ _ => (dg_var sc_are_bodies.nd (by kernel_rfl) (locK (by kernel_rfl)) (by kernel_rfl) (fnK (by kernel_rfl)))) (fun _ _ _ _ _ => dts_nil) (fun _ _ _ _ _ => (de_call F_is_between (hr.mono (by decide)) (glK (by kernel_rfl)) takes0 (da_cons (dv 2) (da_cons de_int (da_cons (de_globI (glK (by kernel_rfl)) T.c_MOST_MEASURE) da_nil))))) (by kernel_rfl))))) (dss_one (ds_ret (Γ' := []) de_bl (by kernel_rfl))) dss_nil)
    (dss_one (ds_ret (Γ' := []) (de_all rfl T.n_all (de_lc (own := [("at", 1)]) rfl sc_are_bodies.nd (di_rng2 false (glK (by kernel_rfl)) T.n_range (da_cons de_int (da_cons (de_len T.n_len (dv 0)) da_nil))) (blkOk_by (by kernel_rfl)) (by kernel_rfl) (by kernel_rfl) (fun _ _ _ _ _ => (dg_var sc_are_bodies.nd (by kernel_rfl) (locK (by kernel_rfl)) (by kernel_rfl) (fnK (by kernel_rfl)))) (fun _ _ _ _ _ => dts_nil) (fun _ _ _ _ _ => (de_cmp op_le os_cmp (de_ix ix_any os_ix (dv 0) (de_bin op_sub os_sub (dv 1) de_int) (fun _ _ => rfl)) (de_ix ix_any os_ix (dv 0) (dv 1) (fun _ _ => rfl)) (nomark _))) (by kernel_rfl))) (by kernel_rfl)))))) rfl

abbrev s_need_bodies : Stmt := top 17
theorem sc_need_bodies : FnScope ["bodies", "ease"] ["bodies", "ease"] (defScope s_need_bodies) := ⟨rfl, rfl, rfl, by decide +kernel, rfl, by decide +kernel, by decide +kernel⟩
theorem ok_need_bodies {f : Addr} {fd : FuncData} (T : Tp K mg) (F_are_bodies : FnD P w K mg base "are_bodies" 3 1 f_are_bodies) (F_is_between : FnD P w K mg base "is_between" 2 3 f_is_between) (F : FunD K "need_bodies" "need_bodies" (defArgs s_need_bodies) (defBody s_need_bodies) (defScope s_need_bodies) [] [] f fd) (hm : mg "need_bodies" = some (.ref f)) : FnD P w K mg base "need_bodies" 4 2 f_need_bodies :=
  okD (Γ' := []) F sc_need_bodies rfl (fun _ _ _ _ _ _ us hl => match us, hl with | [_, _], _ => rfl) hm (fun cdv A outer s H E hr =>
    (dss_cons (ds_if (dt_not (dt_truth (de_call F_are_bodies (hr.mono (by decide)) (glK (by kernel_rfl)) (takes_of rfl rfl rfl rfl) (da_cons (dv 0) da_nil)))) (dss_one (ds_raiseX (Γ' := []) T.x_NoSizes rfl (takes_of rfl rfl rfl rfl))) dss_nil)
    (dss_one (ds_if (dt_not (dt_truth (de_call F_is_between (hr.mono (by decide)) (glK (by kernel_rfl)) (takes_of rfl rfl rfl rfl) (da_cons (dv 1) (da_cons de_int (da_cons (de_globI (glK (by kernel_rfl)) T.c_MOST_EASE) da_nil)))))) (dss_one (ds_raiseX (Γ' := []) T.x_NoNumber rfl (takes_of rfl rfl rfl rfl))) dss_nil)))) rfl

abbrev s_fits : Stmt := top 18
theorem sc_fits : FnScope ["size", "body", "ease"] ["size", "body", "ease"] (defScope s_fits) := ⟨rfl, rfl, rfl, by decide +kernel, rfl, by decide +kernel, by decide +kernel⟩
theorem ok_fits {f : Addr} {fd : FuncData} (T : Tp K mg)  (F : FunD K "fits" "fits" (defArgs s_fits) (defBody s_fits) (defScope s_fits) [] [] f fd) (hm : mg "fits" = some (.ref f)) : FnD P w K mg base "fits" 1 3 f_fits :=
  okD (Γ' := []) F sc_fits rfl (fun _ _ _ _ _ _ us hl => match us, hl with | [_, _, _], _ => rfl) hm (fun cdv A outer s H E hr =>
    (dss_one (ds_ret (Γ' := []) (de_cmp op_le os_cmp (de_abs T.n_abs (de_bin op_sub os_sub (dv 0) (dv 1))) (dv 2) (nomark _)) (by kernel_rfl)))) rfl

abbrev s_cover_of : Stmt := top 19
theorem sc_cover_of : FnScope ["bodies", "ease", "sizes", "apart", "number", "body", "size"] ["bodies", "ease"] (defScope s_cover_of) := ⟨rfl, rfl, rfl, by decide +kernel, rfl, by decide +kernel, by decide +kernel⟩
theorem ok_cover_of {f : Addr} {fd : FuncData} (T : Tp K mg) (F_fits : FnD P w K mg base "fits" 1 3 f_fits) (F : FunD K "cover_of" "cover_of" (defArgs s_cover_of) (defBody s_cover_of) (defScope s_cover_of) [] [] f fd) (hm : mg "cover_of" = some (.ref f)) : FnD P w K mg base "cover_of" 2 2 f_cover_of :=
  okD (Γ' := []) F sc_cover_of rfl (fun _ _ _ _ _ _ us hl => match us, hl with | [_, _], _ => rfl) hm (fun cdv A outer s H E hr =>
    (dss_cons (ds_par (oi := true) (oj := true) (i := 2) (j := 3) rfl sc_cover_of.nd (by kernel_rfl) (by kernel_rfl) (by decide) (by kernel_rfl) (by kernel_rfl) (by kernel_rfl) (by kernel_rfl) (de_lst da_nil (by kernel_rfl) (hl := (len_big len_nil (by decide)))) (de_lst da_nil (by kernel_rfl) (hl := (len_big len_nil (by decide)))) rfl rfl)
    (dss_cons (ds_wk (ks := [4, 5]) (by kernel_rfl) (ds_nox (ds_for rfl rfl (di_enum true T.n_enumerate (dv 0) (fun _ => rfl)) (dg_tup rfl (dgs_cons (dg_var sc_cover_of.nd (by kernel_rfl) (locK (by kernel_rfl)) (by kernel_rfl) (fnK (by kernel_rfl))) (dgs_cons (dg_var sc_cover_of.nd (by kernel_rfl) (locK (by kernel_rfl)) (by kernel_rfl) (fnK (by kernel_rfl))) dgs_nil))) (dss_wkp (ks := [4, 5]) (by kernel_rfl) (dss_one (ds_if (dt_not (dt_truth (de_any rfl T.n_any (de_lc (own := [("size", 6)]) rfl sc_cover_of.nd (di_l false (dv 2) (fun z => nomatch z)) (blkOk_by (by kernel_rfl)) (by kernel_rfl) (by kernel_rfl) (fun _ _ _ _ _ => (dg_var sc_cover_of.nd (by kernel_rfl) (locK (by kernel_rfl)) (by kernel_rfl) (fnK (by kernel_rfl)))) (fun _ _ _ _ _ => dts_nil) (fun _ _ _ _ _ => (de_call F_fits (hr.mono (by decide)) (glK (by kernel_rfl)) takes0 (da_cons (dv 6) (da_cons (dv 5) (da_cons (dv 1) da_nil))))) (by kernel_rfl))))) (dss_cons (ds_append (i := 2) (by kernel_rfl) (vis_of (by kernel_rfl)) (by kernel_rfl) (de_bin op_addD os_add (dv 5) (dv 1)) (by kernel_rfl))
    (dss_one (ds_append (i := 3) (by kernel_rfl) (vis_of (by kernel_rfl)) (by kernel_rfl) (dv 4) (by kernel_rfl)))) dss_nil))))))
    (dss_one (ds_ret (Γ' := []) (de_tup (da_cons (de_tuple T.n_tuple (dv 2)) (da_cons (de_tuple T.n_tuple (dv 3)) da_nil)) (by kernel_rfl) (hl := (len_big (len_cons (len_cons len_nil)) (by decide)))) (by kernel_rfl)))))) rfl

abbrev s_size_cover : Stmt := top 20
theorem sc_size_cover : FnScope ["bodies", "ease"] ["bodies", "ease"] (defScope s_size_cover) := ⟨rfl, rfl, rfl, by decide +kernel, rfl, by decide +kernel, by decide +kernel⟩
theorem ok_size_cover {f : Addr} {fd : FuncData} (T : Tp K mg) (F_need_bodies : FnD P w K mg base "need_bodies" 4 2 f_need_bodies) (F_cover_of : FnD P w K mg base "cover_of" 2 2 f_cover_of) (F : FunD K "size_cover" "size_cover" (defArgs s_size_cover) (defBody s_size_cover) (defScope s_size_cover) [] [] f fd) (hm : mg "size_cover" = some (.ref f)) : FnD P w K mg base "size_cover" 5 2 f_size_cover :=
  okD (Γ' := []) F sc_size_cover rfl (fun _ _ _ _ _ _ us hl => match us, hl with | [_, _], _ => rfl) hm (fun cdv A outer s H E hr =>
    (dss_cons (ds_expr (de_call F_need_bodies (hr.mono (by decide)) (glK (by kernel_rfl)) (takes_of rfl rfl rfl rfl) (da_cons (dv 0) (da_cons (dv 1) da_nil))))
    (dss_one (ds_ret (Γ' := []) (de_call F_cover_of (hr.mono (by decide)) (glK (by kernel_rfl)) (takes_of rfl rfl rfl rfl) (da_cons (dv 0) (da_cons (dv 1) da_nil))) (by kernel_rfl))))) rfl

abbrev s_do_cover : Stmt := top 21
theorem sc_do_cover : FnScope ["bodies", "ease", "thing", "body", "at", "one", "size"] ["bodies", "ease", "thing"] (defScope s_do_cover) := ⟨rfl, rfl, rfl, by decide +kernel, rfl, by decide +kernel, by decide +kernel⟩
theorem ok_do_cover {f : Addr} {fd : FuncData} (T : Tp K mg) (F_is_between : FnD P w K mg base "is_between" 2 3 f_is_between) (F_fits : FnD P w K mg base "fits" 1 3 f_fits) (F : FunD K "do_cover" "do_cover" (defArgs s_do_cover) (defBody s_do_cover) (defScope s_do_cover) [] [] f fd) (hm : mg "do_cover" = some (.ref f)) : FnD P w K mg base "do_cover" 3 3 f_do_cover :=
  okD (Γ' := []) F sc_do_cover rfl (fun _ _ _ _ _ _ us hl => match us, hl with | [_, _, _], _ => rfl) hm (fun cdv A outer s H E hr =>
    (dss_cons (ds_if (dt_w (dw_or (dt_not (dt_truth (de_isiT .tuple "tuple" rfl T.n_isinstance T.n_tuple (dv 2) bt_tuple))) (dw_or1 (dt_not (dt_truth (de_all rfl T.n_all (de_lc (own := [("one", 5)]) rfl sc_do_cover.nd (di_l false (dv 2) (fun z => nomatch z)) (blkOk_by (by kernel_rfl)) (by kernel_rfl) (by kernel_rfl) (fun _ _ _ _ _ => (dg_var sc_do_cover.nd (by kernel_rfl) (locK (by kernel_rfl)) (by kernel_rfl) (fnK (by kernel_rfl)))) (fun _ _ _ _ _ => dts_nil) (fun _ _ _ _ _ => (de_call F_is_between (hr.mono (by decide)) (glK (by kernel_rfl)) takes0 (da_cons (dv 5) (da_cons de_int (da_cons (de_bin op_addD os_add (de_globI (glK (by kernel_rfl)) T.c_MOST_MEASURE) (de_globI (glK (by kernel_rfl)) T.c_MOST_EASE)) da_nil))))) (by kernel_rfl)))))))) (dss_one (ds_ret (Γ' := []) de_bl (by kernel_rfl))) dss_nil)
    (dss_cons (ds_if (dt_not (dt_truth (de_all rfl T.n_all (de_lc (own := [("at", 4)]) rfl sc_do_cover.nd (di_rng2 false (glK (by kernel_rfl)) T.n_range (da_cons de_int (da_cons (de_len T.n_len (dv 2)) da_nil))) (blkOk_by (by kernel_rfl)) (by kernel_rfl) (by kernel_rfl) (fun _ _ _ _ _ => (dg_var sc_do_cover.nd (by kernel_rfl) (locK (by kernel_rfl)) (by kernel_rfl) (fnK (by kernel_rfl)))) (fun _ _ _ _ _ => dts_nil) (fun _ _ _ _ _ => (de_cmp op_lt os_cmp (de_ix ix_any os_ix (dv 2) (de_bin op_sub os_sub (dv 4) de_int) (fun _ _ => rfl)) (de_ix ix_any os_ix (dv 2) (dv 4) (fun _ _ => rfl)) (nomark _))) (by kernel_rfl))))) (dss_one (ds_ret (Γ' := []) de_bl (by kernel_rfl))) dss_nil)
    (dss_one (ds_ret (Γ' := []) (de_all rfl T.n_all (de_lc (own := [("body", 3)]) rfl sc_do_cover.nd (di_l false (dv 0) (fun z => nomatch z)) (blkOk_by (by kernel_rfl)) (by kernel_rfl) (by kernel_rfl) (fun _ _ _ _ _ => (dg_var sc_do_cover.nd (by kernel_rfl) (locK (by kernel_rfl)) (by kernel_rfl) (fnK (by kernel_rfl)))) (fun _ _ _ _ _ => dts_nil) (fun _ _ _ _ _ => (de_any rfl T.n_any (de_lc (own := [("size", 6)]) rfl sc_do_cover.nd (di_l false (dv 2) (fun z => nomatch z)) (blkOk_by (by kernel_rfl)) (by kernel_rfl) (by kernel_rfl) (fun _ _ _ _ _ => (dg_var sc_do_cover.nd (by kernel_rfl) (locK (by kernel_rfl)) (by kernel_rfl) (fnK (by kernel_rfl)))) (fun _ _ _ _ _ => dts_nil) (fun _ _ _ _ _ => (de_call F_fits (hr.mono (by decide)) (glK (by kernel_rfl)) takes0 (da_cons (dv 6) (da_cons (dv 3) (da_cons (dv 1) da_nil))))) (by kernel_rfl)))) (by kernel_rfl))) (by kernel_rfl)))))) rfl

abbrev s_are_apart : Stmt := top 22
theorem sc_are_apart : FnScope ["bodies", "ease", "thing", "at"] ["bodies", "ease", "thing"] (defScope s_are_apart) := ⟨rfl, rfl, rfl, by decide +kernel, rfl, by decide +kernel, by decide +kernel⟩
theorem ok_are_apart {f : Addr} {fd : FuncData} (T : Tp K mg) (F_is_lot : FnD P w K mg base "is_lot" 4 2 f_is_lot) (F : FunD K "are_apart" "are_apart" (defArgs s_are_apart) (defBody s_are_apart) (defScope s_are_apart) [] [] f fd) (hm : mg "are_apart" = some (.ref f)) : FnD P w K mg base "are_apart" 5 3 f_are_apart :=
  okD (Γ' := []) F sc_are_apart rfl (fun _ _ _ _ _ _ us hl => match us, hl with | [_, _, _], _ => rfl) hm (fun cdv A outer s H E hr =>
    (dss_cons (ds_if (dt_not (dt_truth (de_call F_is_lot (hr.mono (by decide)) (glK (by kernel_rfl)) (takes_of rfl rfl rfl rfl) (da_cons (dv 2) (da_cons (de_len T.n_len (dv 0)) da_nil))))) (dss_one (ds_ret (Γ' := []) de_bl (by kernel_rfl))) dss_nil)
    (dss_one (ds_ret (Γ' := []) (de_all rfl T.n_all (de_lc (own := [("at", 3)]) rfl sc_are_apart.nd (di_rng2 false (glK (by kernel_rfl)) T.n_range (da_cons de_int (da_cons (de_len T.n_len (dv 2)) da_nil))) (blkOk_by (by kernel_rfl)) (by kernel_rfl) (by kernel_rfl) (fun _ _ _ _ _ => (dg_var sc_are_apart.nd (by kernel_rfl) (locK (by kernel_rfl)) (by kernel_rfl) (fnK (by kernel_rfl)))) (fun _ _ _ _ _ => dts_nil) (fun _ _ _ _ _ => (de_cmp op_gt os_cmp (de_bin op_sub os_sub (de_ix ix_any os_ix (dv 0) (de_ix ix_any os_ix (dv 2) (dv 3) (fun _ _ => rfl)) (fun _ _ => rfl)) (de_ix ix_any os_ix (dv 0) (de_ix ix_any os_ix (dv 2) (de_bin op_sub os_sub (dv 3) de_int) (fun _ _ => rfl)) (fun _ _ => rfl))) (de_bin op_mulA os_mul de_int (dv 1)) (nomark _))) (by kernel_rfl))) (by kernel_rfl))))) rfl

abbrev s_is_size_cover : Stmt := top 23
theorem sc_is_size_cover : FnScope ["bodies", "ease", "thing"] ["bodies", "ease", "thing"] (defScope s_is_size_cover) := ⟨rfl, rfl, rfl, by decide +kernel, rfl, by decide +kernel, by decide +kernel⟩
theorem ok_is_size_cover {f : Addr} {fd : FuncData} (T : Tp K mg) (F_need_bodies : FnD P w K mg base "need_bodies" 4 2 f_need_bodies) (F_is_tuple_of : FnD P w K mg base "is_tuple_of" 1 2 f_is_tuple_of) (F_do_cover : FnD P w K mg base "do_cover" 3 3 f_do_cover) (F_are_apart : FnD P w K mg base "are_apart" 5 3 f_are_apart) (F : FunD K "is_size_cover" "is_size_cover" (defArgs s_is_size_cover) (defBody s_is_size_cover) (defScope s_is_size_cover) [] [] f fd) (hm : mg "is_size_cover" = some (.ref f)) : FnD P w K mg base "is_size_cover" 6 3 f_is_size_cover :=
  okD (Γ' := []) F sc_is_size_cover rfl (fun _ _ _ _ _ _ us hl => match us, hl with | [_, _, _], _ => rfl) hm (fun cdv A outer s H E hr =>
    (dss_cons (ds_expr (de_call F_need_bodies (hr.mono (by decide)) (glK (by kernel_rfl)) (takes_of rfl rfl rfl rfl) (da_cons (dv 0) (da_cons (dv 1) da_nil))))
    (dss_cons (ds_if (dt_w (dw_or (dt_not (dt_truth (de_call F_is_tuple_of (hr.mono (by decide)) (glK (by kernel_rfl)) (takes_of rfl rfl rfl rfl) (da_cons (dv 2) (da_cons de_int da_nil))))) (dw_or (dt_not (dt_truth (de_call F_do_cover (hr.mono (by decide)) (glK (by kernel_rfl)) (takes_of rfl rfl rfl rfl) (da_cons (dv 0) (da_cons (dv 1) (da_cons (de_ix ix_any os_ix (dv 2) de_int (fun _ _ => rfl)) da_nil)))))) (dw_or1 (dt_not (dt_truth (de_call F_are_apart (hr.mono (by decide)) (glK (by kernel_rfl)) (takes_of rfl rfl rfl rfl) (da_cons (dv 0) (da_cons (dv 1) (da_cons (de_ix ix_any os_ix (dv 2) de_int (fun _ _ => rfl)) da_nil)))))))))) (dss_one (ds_ret (Γ' := []) de_bl (by kernel_rfl))) dss_nil)
    (dss_one (ds_ret (Γ' := []) (de_cmp (op_eqA (u64 hr)) os_eq (de_len T.n_len (de_ix ix_any os_ix (dv 2) de_int (fun _ _ => rfl))) (de_len T.n_len (de_ix ix_any os_ix (dv 2) de_int (fun _ _ => rfl))) (nomark _)) (by kernel_rfl)))))) rfl

abbrev s_size_fewest : Stmt := top 24
theorem sc_size_fewest : FnScope ["bodies", "ease"] ["bodies", "ease"] (defScope s_size_fewest) := ⟨rfl, rfl, rfl, by decide +kernel, rfl, by decide +kernel, by decide +kernel⟩
theorem ok_size_fewest {f : Addr} {fd : FuncData} (T : Tp K mg) (F_need_bodies : FnD P w K mg base "need_bodies" 4 2 f_need_bodies) (F_cover_of : FnD P w K mg base "cover_of" 2 2 f_cover_of) (F : FunD K "size_fewest" "size_fewest" (defArgs s_size_fewest) (defBody s_size_fewest) (defScope s_size_fewest) [] [] f fd) (hm : mg "size_fewest" = some (.ref f)) : FnD P w K mg base "size_fewest" 5 2 f_size_fewest :=
  okD (Γ' := []) F sc_size_fewest rfl (fun _ _ _ _ _ _ us hl => match us, hl with | [_, _], _ => rfl) hm (fun cdv A outer s H E hr =>
    (dss_cons (ds_expr (de_call F_need_bodies (hr.mono (by decide)) (glK (by kernel_rfl)) (takes_of rfl rfl rfl rfl) (da_cons (dv 0) (da_cons (dv 1) da_nil))))
    (dss_one (ds_ret (Γ' := []) (de_len T.n_len (de_ix ix_any os_ix (de_call F_cover_of (hr.mono (by decide)) (glK (by kernel_rfl)) (takes_of rfl rfl rfl rfl) (da_cons (dv 0) (da_cons (dv 1) da_nil))) de_int (fun _ _ => rfl))) (by kernel_rfl))))) rfl

abbrev s_size_ease : Stmt := top 25
theorem sc_size_ease : FnScope ["bodies", "many", "ease"] ["bodies", "many"] (defScope s_size_ease) := ⟨rfl, rfl, rfl, by decide +kernel, rfl, by decide +kernel, by decide +kernel⟩
theorem ok_size_ease {f : Addr} {fd : FuncData} (T : Tp K mg) (F_need_bodies : FnD P w K mg base "need_bodies" 4 2 f_need_bodies) (F_is_between : FnD P w K mg base "is_between" 2 3 f_is_between) (F_cover_of : FnD P w K mg base "cover_of" 2 2 f_cover_of) (F : FunD K "size_ease" "size_ease" (defArgs s_size_ease) (defBody s_size_ease) (defScope s_size_ease) [] [] f fd) (hm : mg "size_ease" = some (.ref f)) : FnD P w K mg base "size_ease" 5 2 f_size_ease :=
  okD (Γ' := []) F sc_size_ease rfl (fun _ _ _ _ _ _ us hl => match us, hl with | [_, _], _ => rfl) hm (fun cdv A outer s H E hr =>
    (dss_cons (ds_expr (de_call F_need_bodies (hr.mono (by decide)) (glK (by kernel_rfl)) (takes_of rfl rfl rfl rfl) (da_cons (dv 0) (da_cons de_int da_nil))))
    (dss_cons (ds_if (dt_not (dt_truth (de_call F_is_between (hr.mono (by decide)) (glK (by kernel_rfl)) (takes_of rfl rfl rfl rfl) (da_cons (dv 1) (da_cons de_int (da_cons (de_globI (glK (by kernel_rfl)) T.c_MOST_SIZES) da_nil)))))) (dss_one (ds_raiseX (Γ' := []) T.x_NoNumber rfl (takes_of rfl rfl rfl rfl))) dss_nil)
    (dss_cons (ds_wk (ks := [2]) (by kernel_rfl) (ds_nox (ds_for rfl rfl (di_rng1 true (glK (by kernel_rfl)) T.n_range (da_cons (de_bin op_addD os_add (de_globI (glK (by kernel_rfl)) T.c_MOST_MEASURE) de_int) da_nil)) (dg_var sc_size_ease.nd (by kernel_rfl) (locK (by kernel_rfl)) (by kernel_rfl) (fnK (by kernel_rfl))) (dss_wkp (ks := [2]) (by kernel_rfl) (dss_one (ds_if (dt_cmp op_le os_cmp (de_len T.n_len (de_ix ix_any os_ix (de_call F_cover_of (hr.mono (by decide)) (glK (by kernel_rfl)) takes0 (da_cons (dv 0) (da_cons (dv 2) da_nil))) de_int (fun _ _ => rfl))) (dv 1) (nomark _) bl_cmp) (dss_one (ds_ret (Γ' := []) (dv 2) (by kernel_rfl))) dss_nil))))))
    (dss_one (ds_ret (Γ' := []) de_non (by kernel_rfl))))))) rfl

abbrev s__law_mixed : Stmt := top 32
theorem sc__law_mixed : FnScope ["cell", "k", "first"] ["cell", "k"] (defScope s__law_mixed) := ⟨rfl, rfl, rfl, by decide +kernel, rfl, by decide +kernel, by decide +kernel⟩
theorem ok__law_mixed {f : Addr} {fd : FuncData} (T : Tp K mg)  (F : FunD K "_law_mixed" "_law_mixed" (defArgs s__law_mixed) (defBody s__law_mixed) (defScope s__law_mixed) [] [] f fd) (hm : mg "_law_mixed" = some (.ref f)) : FnD P w K mg base "_law_mixed" 1 2 f__law_mixed :=
  okD (Γ' := []) F sc__law_mixed rfl (fun _ _ _ _ _ _ us hl => match us, hl with | [_, _], _ => rfl) hm (fun cdv A outer s H E hr =>
    (dss_cons (ds_set (i := 2) sc__law_mixed.nd (by kernel_rfl) (locK (by kernel_rfl)) (by kernel_rfl) (de_bin op_addD os_add (de_bin op_addD os_add (de_bin op_mulA os_mul (de_int1 T.n_int (dv 0)) de_int) (de_bin op_mulA os_mul (dv 1) de_int)) de_int) (by kernel_rfl) (by kernel_rfl) (fnK (by kernel_rfl)))
    (dss_one (ds_ret (Γ' := []) (de_bin op_modN os_mod (de_int1 T.n_int (de_bin op_addD os_add (de_bin op_mulA os_mul (dv 2) de_int) (de_bin op_fdivN os_div (dv 2) de_int))) de_int) (by kernel_rfl))))) rfl

abbrev s__law_row : Stmt := top 33
theorem sc__law_row : FnScope ["cell", "many", "top", "found", "left", "great", "k"] ["cell", "many", "top"] (defScope s__law_row) := ⟨rfl, rfl, rfl, by decide +kernel, rfl, by decide +kernel, by decide +kernel⟩
theorem ok__law_row {f : Addr} {fd : FuncData} (T : Tp K mg) (F__law_mixed : FnD P w K mg base "_law_mixed" 1 2 f__law_mixed) (F : FunD K "_law_row" "_law_row" (defArgs s__law_row) (defBody s__law_row) (defScope s__law_row) [] [] f fd) (hm : mg "_law_row" = some (.ref f)) : FnD P w K mg base "_law_row" 2 3 f__law_row :=
  okD (Γ' := []) F sc__law_row rfl (fun _ _ _ _ _ _ us hl => match us, hl with | [_, _, _], _ => rfl) hm (fun cdv A outer s H E hr =>
    (dss_cons (ds_own (i := 3) sc__law_row.nd (by kernel_rfl) (locK (by kernel_rfl)) (by kernel_rfl) (de_lst da_nil (by kernel_rfl) (hl := (len_big len_nil (by decide)))) (by kernel_rfl) (fnK (by kernel_rfl)))
    (dss_cons (ds_set (i := 4) sc__law_row.nd (by kernel_rfl) (locK (by kernel_rfl)) (by kernel_rfl) (de_int1 T.n_int (dv 0)) (by kernel_rfl) (by kernel_rfl) (fnK (by kernel_rfl)))
    (dss_cons (ds_set (i := 5) sc__law_row.nd (by kernel_rfl) (locK (by kernel_rfl)) (by kernel_rfl) (de_cmp op_ge os_cmp (dv 4) de_int (nomark _)) (by kernel_rfl) (by kernel_rfl) (fnK (by kernel_rfl)))
    (dss_cons (ds_wk (ks := [6]) (by kernel_rfl) (ds_nox (ds_for rfl rfl (di_rng1 true (glK (by kernel_rfl)) T.n_range (da_cons (dv 1) da_nil)) (dg_var sc__law_row.nd (by kernel_rfl) (locK (by kernel_rfl)) (by kernel_rfl) (fnK (by kernel_rfl))) (dss_wkp (ks := [6]) (by kernel_rfl) (dss_one (ds_if (dt_truth (dv 5)) (dss_cons (ds_append (i := 3) (by kernel_rfl) (vis_of (by kernel_rfl)) (by kernel_rfl) (de_bin op_modN os_mod (de_int1 T.n_int (dv 4)) (dv 2)) (by kernel_rfl))
    (dss_one (ds_set (i := 4) sc__law_row.nd (by kernel_rfl) (locK (by kernel_rfl)) (by kernel_rfl) (de_bin op_fdivN os_div (dv 4) (dv 2)) (by kernel_rfl) (by kernel_rfl) (fnK (by kernel_rfl))))) (dss_one (ds_append (i := 3) (by kernel_rfl) (vis_of (by kernel_rfl)) (by kernel_rfl) (de_bin op_modN os_mod (de_bin op_fdivN os_div (de_call F__law_mixed (hr.mono (by decide)) (glK (by kernel_rfl)) takes0 (da_cons (dv 0) (da_cons (dv 6) da_nil))) de_int) (dv 2)) (by kernel_rfl)))))))))
    (dss_one (ds_pre (Γ1 := []) (by kernel_rfl) (ds_ret (Γ' := []) (dv 3) (by kernel_rfl))))))))) rfl

abbrev s__law_bodies : Stmt := top 27
theorem sc__law_bodies : FnScope ["cell", "most", "digits", "top", "bodies", "k"] ["cell", "most"] (defScope s__law_bodies) := ⟨rfl, rfl, rfl, by decide +kernel, rfl, by decide +kernel, by decide +kernel⟩
theorem ok__law_bodies {f : Addr} {fd : FuncData} (T : Tp K mg) (F__law_row : FnD P w K mg base "_law_row" 2 3 f__law_row) (F : FunD K "_law_bodies" "_law_bodies" (defArgs s__law_bodies) (defBody s__law_bodies) (defScope s__law_bodies) [] [] f fd) (hm : mg "_law_bodies" = some (.ref f)) : FnD P w K mg base "_law_bodies" 3 2 f__law_bodies :=
  okD (Γ' := []) F sc__law_bodies rfl (fun _ _ _ _ _ _ us hl => match us, hl with | [_, _], _ => rfl) hm (fun cdv A outer s H E hr =>
    (dss_cons (ds_set (i := 2) sc__law_bodies.nd (by kernel_rfl) (locK (by kernel_rfl)) (by kernel_rfl) (de_call F__law_row (hr.mono (by decide)) (glK (by kernel_rfl)) (takes_of rfl rfl rfl rfl) (da_cons (dv 0) (da_cons (de_bin op_addD os_add (dv 1) de_int) (da_cons de_int da_nil)))) (by kernel_rfl) (by kernel_rfl) (fnK (by kernel_rfl)))
    (dss_cons (ds_set (i := 3) sc__law_bodies.nd (by kernel_rfl) (locK (by kernel_rfl)) (by kernel_rfl) (de_ix ix_any os_ix (de_lst (da_cons de_int (da_cons de_int (da_cons de_int da_nil))) (by kernel_rfl) (hl := (len_big (len_cons (len_cons (len_cons len_nil))) (by decide)))) (de_bin op_modN os_mod (de_ix ix_any os_ix (dv 2) de_int (fun _ _ => rfl)) de_int) (fun _ _ => rfl)) (by kernel_rfl) (by kernel_rfl) (fnK (by kernel_rfl)))
    (dss_cons (ds_set (i := 4) sc__law_bodies.nd (by kernel_rfl) (locK (by kernel_rfl)) (by kernel_rfl) (de_tuple T.n_tuple (de_sorted T.n_sorted (de_lc (own := [("k", 5)]) rfl sc__law_bodies.nd (di_rng1 false (glK (by kernel_rfl)) T.n_range (da_cons (de_bin op_modN os_mod (de_ix ix_any os_ix (dv 2) de_int (fun _ _ => rfl)) (de_bin op_addD os_add (dv 1) de_int)) da_nil)) (blkOk_by (by kernel_rfl)) (by kernel_rfl) (by kernel_rfl) (fun _ _ _ _ _ => (dg_var sc__law_bodies.nd (by kernel_rfl) (locK (by kernel_rfl)) (by kernel_rfl) (fnK (by kernel_rfl)))) (fun _ _ _ _ _ => dts_nil) (fun _ _ _ _ _ => (de_bin op_modN os_mod (de_ix ix_any os_ix (dv 2) (de_bin op_addD os_add de_int (dv 5)) (fun _ _ => rfl)) (dv 3))) (by kernel_rfl)))) (by kernel_rfl) (by kernel_rfl) (fnK (by kernel_rfl)))
    (dss_one (ds_ret (Γ' := []) (de_tup (da_cons (dv 4) (da_cons (de_bin op_modN os_mod (de_ix ix_any os_ix (dv 2) de_int (fun _ _ => rfl)) (de_ix ix_any os_ix (de_lst (da_cons de_int (da_cons de_int (da_cons de_int da_nil))) (by kernel_rfl) (hl := (len_big (len_cons (len_cons (len_cons len_nil))) (by decide)))) (de_bin op_modN os_mod (de_ix ix_any os_ix (dv 2) de_int (fun _ _ => rfl)) de_int) (fun _ _ => rfl))) da_nil)) (by kernel_rfl) (hl := (len_big (len_cons (len_cons len_nil)) (by decide)))) (by kernel_rfl))))))) rfl

abbrev s__law_fits : Stmt := top 28
theorem sc__law_fits : FnScope ["size", "body", "ease"] ["size", "body", "ease"] (defScope s__law_fits) := ⟨rfl, rfl, rfl, by decide +kernel, rfl, by decide +kernel, by decide +kernel⟩
theorem ok__law_fits {f : Addr} {fd : FuncData} (T : Tp K mg)  (F : FunD K "_law_fits" "_law_fits" (defArgs s__law_fits) (defBody s__law_fits) (defScope s__law_fits) [] [] f fd) (hm : mg "_law_fits" = some (.ref f)) : FnD P w K mg base "_law_fits" 1 3 f__law_fits :=
  okD (Γ' := []) F sc__law_fits rfl (fun _ _ _ _ _ _ us hl => match us, hl with | [_, _, _], _ => rfl) hm (fun cdv A outer s H E hr =>
    (dss_one (ds_ret (Γ' := []) (de_cmp op_le os_cmp (de_abs T.n_abs (de_bin op_sub os_sub (dv 0) (dv 1))) (dv 2) (nomark _)) (by kernel_rfl)))) rfl

abbrev s__law_whole : Stmt := top 37
theorem sc__law_whole : FnScope ["found"] ["found"] (defScope s__law_whole) := ⟨rfl, rfl, rfl, by decide +kernel, rfl, by decide +kernel, by decide +kernel⟩
theorem ok__law_whole {f : Addr} {fd : FuncData} (T : Tp K mg)  (F : FunD K "_law_whole" "_law_whole" (defArgs s__law_whole) (defBody s__law_whole) (defScope s__law_whole) [] [] f fd) (hm : mg "_law_whole" = some (.ref f)) : FnD P w K mg base "_law_whole" 1 1 f__law_whole :=
  okD (Γ' := []) F sc__law_whole rfl (fun _ _ _ _ _ _ us hl => match us, hl with | [_], _ => rfl) hm (fun cdv A outer s H E hr =>
    (dss_one (ds_ret (Γ' := []) (de_and (de_sh (de_isiT .int "int" rfl T.n_isinstance T.n_int (dv 0) bt_int)) (de_one (de_sh (de_not (de_isiT .bool "bool" rfl T.n_isinstance T.n_bool (dv 0) bt_bool))))) (by kernel_rfl)))) rfl

abbrev s__law_do_cover : Stmt := top 29
theorem sc__law_do_cover : FnScope ["bodies", "ease", "sizes", "k", "body", "one", "size"] ["bodies", "ease", "sizes"] (defScope s__law_do_cover) := ⟨rfl, rfl, rfl, by decide +kernel, rfl, by decide +kernel, by decide +kernel⟩
theorem ok__law_do_cover {f : Addr} {fd : FuncData} (T : Tp K mg) (F__law_fits : FnD P w K mg base "_law_fits" 1 3 f__law_fits) (F__law_whole : FnD P w K mg base "_law_whole" 1 1 f__law_whole) (F : FunD K "_law_do_cover" "_law_do_cover" (defArgs s__law_do_cover) (defBody s__law_do_cover) (defScope s__law_do_cover) [] [] f fd) (hm : mg "_law_do_cover" = some (.ref f)) : FnD P w K mg base "_law_do_cover" 2 3 f__law_do_cover :=
  okD (Γ' := []) F sc__law_do_cover rfl (fun _ _ _ _ _ _ us hl => match us, hl with | [_, _, _], _ => rfl) hm (fun cdv A outer s H E hr =>
    (dss_cons (ds_if (dt_w (dw_or (dt_not (dt_truth (de_isiT .tuple "tuple" rfl T.n_isinstance T.n_tuple (dv 2) bt_tuple))) (dw_or1 (dt_not (dt_truth (de_all rfl T.n_all (de_lc (own := [("one", 5)]) rfl sc__law_do_cover.nd (di_l false (dv 2) (fun z => nomatch z)) (blkOk_by (by kernel_rfl)) (by kernel_rfl) (by kernel_rfl) (fun _ _ _ _ _ => (dg_var sc__law_do_cover.nd (by kernel_rfl) (locK (by kernel_rfl)) (by kernel_rfl) (fnK (by kernel_rfl)))) (fun _ _ _ _ _ => dts_nil) (fun _ _ _ _ _ => (de_and (de_call F__law_whole (hr.mono (by decide)) (glK (by kernel_rfl)) takes0 (da_cons (dv 5) da_nil)) (de_one (de_sh (de_chain op_le op_le os_cmp os_cmp bl_cmp de_int (dv 5) de_int))))) (by kernel_rfl)))))))) (dss_one (ds_ret (Γ' := []) de_bl (by kernel_rfl))) dss_nil)
    (dss_cons (ds_if (dt_truth (de_any rfl T.n_any (de_lc (own := [("k", 3)]) rfl sc__law_do_cover.nd (di_rng2 false (glK (by kernel_rfl)) T.n_range (da_cons de_int (da_cons (de_len T.n_len (dv 2)) da_nil))) (blkOk_by (by kernel_rfl)) (by kernel_rfl) (by kernel_rfl) (fun _ _ _ _ _ => (dg_var sc__law_do_cover.nd (by kernel_rfl) (locK (by kernel_rfl)) (by kernel_rfl) (fnK (by kernel_rfl)))) (fun _ _ _ _ _ => dts_nil) (fun _ _ _ _ _ => (de_cmp op_ge os_cmp (de_ix ix_any os_ix (dv 2) (de_bin op_sub os_sub (dv 3) de_int) (fun _ _ => rfl)) (de_ix ix_any os_ix (dv 2) (dv 3) (fun _ _ => rfl)) (nomark _))) (by kernel_rfl)))) (dss_one (ds_ret (Γ' := []) de_bl (by kernel_rfl))) dss_nil)
    (dss_one (ds_ret (Γ' := []) (de_all rfl T.n_all (de_lc (own := [("body", 4)]) rfl sc__law_do_cover.nd (di_l false (dv 0) (fun z => nomatch z)) (blkOk_by (by kernel_rfl)) (by kernel_rfl) (by kernel_rfl) (fun _ _ _ _ _ => (dg_var sc__law_do_cover.nd (by kernel_rfl) (locK (by kernel_rfl)) (by kernel_rfl) (fnK (by kernel_rfl)))) (fun _ _ _ _ _ => dts_nil) (fun _ _ _ _ _ => (de_any rfl T.n_any (de_lc (own := [("size", 6)]) rfl sc__law_do_cover.nd (di_l false (dv 2) (fun z => nomatch z)) (blkOk_by (by kernel_rfl)) (by kernel_rfl) (by kernel_rfl) (fun _ _ _ _ _ => (dg_var sc__law_do_cover.nd (by kernel_rfl) (locK (by kernel_rfl)) (by kernel_rfl) (fnK (by kernel_rfl)))) (fun _ _ _ _ _ => dts_nil) (fun _ _ _ _ _ => (de_call F__law_fits (hr.mono (by decide)) (glK (by kernel_rfl)) takes0 (da_cons (dv 6) (da_cons (dv 4) (da_cons (dv 1) da_nil))))) (by kernel_rfl)))) (by kernel_rfl))) (by kernel_rfl)))))) rfl

abbrev s__law_apart_bodies : Stmt := top 30
theorem sc__law_apart_bodies : FnScope ["bodies", "ease", "lot", "k", "one"] ["bodies", "ease", "lot"] (defScope s__law_apart_bodies) := ⟨rfl, rfl, rfl, by decide +kernel, rfl, by decide +kernel, by decide +kernel⟩
theorem ok__law_apart_bodies {f : Addr} {fd : FuncData} (T : Tp K mg) (F__law_whole : FnD P w K mg base "_law_whole" 1 1 f__law_whole) (F : FunD K "_law_apart_bodies" "_law_apart_bodies" (defArgs s__law_apart_bodies) (defBody s__law_apart_bodies) (defScope s__law_apart_bodies) [] [] f fd) (hm : mg "_law_apart_bodies" = some (.ref f)) : FnD P w K mg base "_law_apart_bodies" 2 3 f__law_apart_bodies :=
  okD (Γ' := []) F sc__law_apart_bodies rfl (fun _ _ _ _ _ _ us hl => match us, hl with | [_, _, _], _ => rfl) hm (fun cdv A outer s H E hr =>
    (dss_cons (ds_if (dt_w (dw_or (dt_not (dt_truth (de_isiT .tuple "tuple" rfl T.n_isinstance T.n_tuple (dv 2) bt_tuple))) (dw_or1 (dt_not (dt_truth (de_all rfl T.n_all (de_lc (own := [("one", 4)]) rfl sc__law_apart_bodies.nd (di_l false (dv 2) (fun z => nomatch z)) (blkOk_by (by kernel_rfl)) (by kernel_rfl) (by kernel_rfl) (fun _ _ _ _ _ => (dg_var sc__law_apart_bodies.nd (by kernel_rfl) (locK (by kernel_rfl)) (by kernel_rfl) (fnK (by kernel_rfl)))) (fun _ _ _ _ _ => dts_nil) (fun _ _ _ _ _ => (de_and (de_call F__law_whole (hr.mono (by decide)) (glK (by kernel_rfl)) takes0 (da_cons (dv 4) da_nil)) (de_one (de_sh (de_chain op_le op_lt os_cmp os_cmp bl_cmp de_int (dv 4) (de_len T.n_len (dv 0))))))) (by kernel_rfl)))))))) (dss_one (ds_ret (Γ' := []) de_bl (by kernel_rfl))) dss_nil)
    (dss_one (ds_ret (Γ' := []) (de_all rfl T.n_all (de_lc (own := [("k", 3)]) rfl sc__law_apart_bodies.nd (di_rng2 false (glK (by kernel_rfl)) T.n_range (da_cons de_int (da_cons (de_len T.n_len (dv 2)) da_nil))) (blkOk_by (by kernel_rfl)) (by kernel_rfl) (by kernel_rfl) (fun _ _ _ _ _ => (dg_var sc__law_apart_bodies.nd (by kernel_rfl) (locK (by kernel_rfl)) (by kernel_rfl) (fnK (by kernel_rfl)))) (fun _ _ _ _ _ => dts_nil) (fun _ _ _ _ _ => (de_and (de_sh (de_cmp op_lt os_cmp (de_ix ix_any os_ix (dv 2) (de_bin op_sub os_sub (dv 3) de_int) (fun _ _ => rfl)) (de_ix ix_any os_ix (dv 2) (dv 3) (fun _ _ => rfl)) (nomark _))) (de_one (de_sh (de_cmp op_gt os_cmp (de_bin op_sub os_sub (de_ix ix_any os_ix (dv 0) (de_ix ix_any os_ix (dv 2) (dv 3) (fun _ _ => rfl)) (fun _ _ => rfl)) (de_ix ix_any os_ix (dv 0) (de_ix ix_any os_ix (dv 2) (de_bin op_sub os_sub (dv 3) de_int) (fun _ _ => rfl)) (fun _ _ => rfl))) (de_bin op_mulA os_mul de_int (dv 1)) (nomark _)))))) (by kernel_rfl))) (by kernel_rfl))))) rfl

abbrev s__law_at : Stmt := top 31
theorem sc__law_at : FnScope ["script", "k"] ["script", "k"] (defScope s__law_at) := ⟨rfl, rfl, rfl, by decide +kernel, rfl, by decide +kernel, by decide +kernel⟩
theorem ok__law_at {f : Addr} {fd : FuncData} (T : Tp K mg)  (F : FunD K "_law_at" "_law_at" (defArgs s__law_at) (defBody s__law_at) (defScope s__law_at) [] [] f fd) (hm : mg "_law_at" = some (.ref f)) : FnD P w K mg base "_law_at" 1 2 f__law_at :=
  okD (Γ' := []) F sc__law_at rfl (fun _ _ _ _ _ _ us hl => match us, hl with | [_, _], _ => rfl) hm (fun cdv A outer s H E hr =>
    (dss_cons (ds_if (dt_cmp op_lt os_cmp (dv 1) (de_len T.n_len (dv 0)) (nomark _) bl_cmp) (dss_one (ds_ret (Γ' := []) (de_int1 T.n_int (de_ix ix_any os_ix (dv 0) (dv 1) (fun _ _ => rfl))) (by kernel_rfl))) dss_nil)
    (dss_one (ds_ret (Γ' := []) (de_bin op_addD os_add de_int (de_bin op_mulA os_mul de_int (dv 1))) (by kernel_rfl))))) rfl

abbrev s__law_lot : Stmt := top 34
theorem sc__law_lot : FnScope ["cell", "many", "marks", "k"] ["cell", "many"] (defScope s__law_lot) := ⟨rfl, rfl, rfl, by decide +kernel, rfl, by decide +kernel, by decide +kernel⟩
theorem ok__law_lot {f : Addr} {fd : FuncData} (T : Tp K mg) (F__law_row : FnD P w K mg base "_law_row" 2 3 f__law_row) (F : FunD K "_law_lot" "_law_lot" (defArgs s__law_lot) (defBody s__law_lot) (defScope s__law_lot) [] [] f fd) (hm : mg "_law_lot" = some (.ref f)) : FnD P w K mg base "_law_lot" 3 2 f__law_lot :=
  okD (Γ' := []) F sc__law_lot rfl (fun _ _ _ _ _ _ us hl => match us, hl with | [_, _], _ => rfl) hm (fun cdv A outer s H E hr =>
    (dss_cons (ds_set (i := 2) sc__law_lot.nd (by kernel_rfl) (locK (by kernel_rfl)) (by kernel_rfl) (de_call F__law_row (hr.mono (by decide)) (glK (by kernel_rfl)) (takes_of rfl rfl rfl rfl) (da_cons (dv 0) (da_cons (dv 1) (da_cons de_int da_nil)))) (by kernel_rfl) (by kernel_rfl) (fnK (by kernel_rfl)))
    (dss_one (ds_ret (Γ' := []) (de_tuple T.n_tuple (de_lc (own := [("k", 3)]) rfl sc__law_lot.nd (di_rng1 false (glK (by kernel_rfl)) T.n_range (da_cons (dv 1) da_nil)) (blkOk_by (by kernel_rfl)) (by kernel_rfl) (by kernel_rfl) (fun _ _ _ _ _ => (dg_var sc__law_lot.nd (by kernel_rfl) (locK (by kernel_rfl)) (by kernel_rfl) (fnK (by kernel_rfl)))) (fun _ _ _ _ _ => (dts_one (dt_cmp (op_eqA (u64 hr)) os_eq (de_ix ix_any os_ix (dv 2) (dv 3) (fun _ _ => rfl)) de_int (nomark _) bl_eq))) (fun _ _ _ _ _ => (dv 3)) (by kernel_rfl))) (by kernel_rfl))))) rfl

abbrev s__law_lots : Stmt := top 35
theorem sc__law_lots : FnScope ["many", "found", "k", "lot"] ["many"] (defScope s__law_lots) := ⟨rfl, rfl, rfl, by decide +kernel, rfl, by decide +kernel, by decide +kernel⟩
theorem ok__law_lots {f : Addr} {fd : FuncData} (T : Tp K mg)  (F : FunD K "_law_lots" "_law_lots" (defArgs s__law_lots) (defBody s__law_lots) (defScope s__law_lots) [] [] f fd) (hm : mg "_law_lots" = some (.ref f)) : FnD P w K mg base "_law_lots" 1 1 f__law_lots :=
  okD (Γ' := []) F sc__law_lots rfl (fun _ _ _ _ _ _ us hl => match us, hl with | [_], _ => rfl) hm (fun cdv A outer s H E hr =>
    (dss_cons (ds_set (i := 1) sc__law_lots.nd (by kernel_rfl) (locK (by kernel_rfl)) (by kernel_rfl) (de_lst (da_cons (de_tup da_nil (by kernel_rfl) (hl := (len_big len_nil (by decide)))) da_nil) (by kernel_rfl) (hl := (len_big (len_cons len_nil) (by decide)))) (by kernel_rfl) (by kernel_rfl) (fnK (by kernel_rfl)))
    (dss_cons (ds_wk (ks := [2]) (by kernel_rfl) (ds_nox (ds_for rfl rfl (di_rng1 true (glK (by kernel_rfl)) T.n_range (da_cons (dv 0) da_nil)) (dg_var sc__law_lots.nd (by kernel_rfl) (locK (by kernel_rfl)) (by kernel_rfl) (fnK (by kernel_rfl))) (dss_wkp (ks := [2]) (by kernel_rfl) (dss_one (ds_set (i := 1) sc__law_lots.nd (by kernel_rfl) (locK (by kernel_rfl)) (by kernel_rfl) (de_bin op_addD os_add (dv 1) (de_lc (own := [("lot", 3)]) rfl sc__law_lots.nd (di_l false (dv 1) (fun z => nomatch z)) (blkOk_by (by kernel_rfl)) (by kernel_rfl) (by kernel_rfl) (fun _ _ _ _ _ => (dg_var sc__law_lots.nd (by kernel_rfl) (locK (by kernel_rfl)) (by kernel_rfl) (fnK (by kernel_rfl)))) (fun _ _ _ _ _ => dts_nil) (fun _ _ _ _ _ => (de_bin op_addD os_add (dv 3) (de_tup (da_cons (dv 2) da_nil) (by kernel_rfl) (hl := (len_big (len_cons len_nil) (by decide)))))) (by kernel_rfl))) (by kernel_rfl) (by kernel_rfl) (fnK (by kernel_rfl))))))))
    (dss_one (ds_ret (Γ' := []) (dv 1) (by kernel_rfl)))))) rfl

abbrev s__law_flag : Stmt := top 36
theorem sc__law_flag : FnScope ["found", "due"] ["found", "due"] (defScope s__law_flag) := ⟨rfl, rfl, rfl, by decide +kernel, rfl, by decide +kernel, by decide +kernel⟩
theorem ok__law_flag {f : Addr} {fd : FuncData} (T : Tp K mg)  (F : FunD K "_law_flag" "_law_flag" (defArgs s__law_flag) (defBody s__law_flag) (defScope s__law_flag) [] [] f fd) (hm : mg "_law_flag" = some (.ref f)) : FnD P w K mg base "_law_flag" 1 2 f__law_flag :=
  okD (Γ' := []) F sc__law_flag rfl (fun _ _ _ _ _ _ us hl => match us, hl with | [_, _], _ => rfl) hm (fun cdv A outer s H E hr =>
    (dss_cons (ds_if (dt_truth (dv 1)) (dss_one (ds_ret (Γ' := []) (de_isB (dv 0)) (by kernel_rfl))) dss_nil)
    (dss_one (ds_ret (Γ' := []) (de_isB (dv 0)) (by kernel_rfl))))) rfl

abbrev s__law_word : Stmt := top 38
theorem sc__law_word : FnScope ["what", "bodies", "ease", "wrong"] ["what", "bodies", "ease"] (defScope s__law_word) := ⟨rfl, rfl, rfl, by decide +kernel, rfl, by decide +kernel, by decide +kernel⟩
theorem ok__law_word {f : Addr} {fd : FuncData} (T : Tp K mg) (F_size_fewest : FnD P w K mg base "size_fewest" 5 2 f_size_fewest) (F_size_ease : FnD P w K mg base "size_ease" 5 2 f_size_ease) (F : FunD K "_law_word" "_law_word" (defArgs s__law_word) (defBody s__law_word) (defScope s__law_word) [] [] f fd) (hm : mg "_law_word" = some (.ref f)) : FnD P w K mg base "_law_word" 6 3 f__law_word :=
  okD (Γ' := []) F sc__law_word rfl (fun _ _ _ _ _ _ us hl => match us, hl with | [_, _, _], _ => rfl) hm (fun cdv A outer s H E hr =>
    (dss_cons (ds_try2 (Γ' := []) (i := 3) (y0 := "NoSizes") (ok := ["NoSizes", "NoNumber"]) (hv := (fun c => if c = ("NoSizes" : Str) then .str "sizes" else .str "number")) rfl rfl sc__law_word.nd (by kernel_rfl) (by kernel_rfl) (glK (by kernel_rfl)) (by decide) (takes_of rfl rfl rfl rfl) (List.mem_cons_self) (List.forall_mem_cons.2 ⟨T.k_NoSizes__NeedleError, (List.forall_mem_cons.2 ⟨T.k_NoNumber__NeedleError, (fun _ z => nomatch z)⟩)⟩) (List.forall_mem_cons.2 ⟨⟨true, false, T.i_NoSizes__NoSizes__true, T.i_NoSizes__NoNumber__false, by kernel_rfl⟩, (List.forall_mem_cons.2 ⟨⟨false, true, T.i_NoNumber__NoSizes__false, T.i_NoNumber__NoNumber__true, by kernel_rfl⟩, (fun _ z => nomatch z)⟩)⟩) (by decide) (by decide) T.n_int (glK (by kernel_rfl)) (glK (by kernel_rfl)) T.n_isinstance (glK (by kernel_rfl)) (by decide) (glK (by kernel_rfl)) (by decide) (fun _ _ _ tk _ => (dss_one (ds_if (dt_cmp (op_eqA (u64 hr)) os_eq (dv 0) (de_str (by decide)) (nomark _) bl_eq) (dss_one (ds_expr (de_call F_size_fewest (hr.mono (by decide)) (glK (by kernel_rfl)) tk (da_cons (dv 1) (da_cons (dv 2) da_nil))))) (dss_one (ds_expr (de_call F_size_ease (hr.mono (by decide)) (glK (by kernel_rfl)) tk (da_cons (dv 1) (da_cons (dv 2) da_nil)))))))))
    (dss_one (ds_ret (Γ' := []) (de_str (by decide)) (by kernel_rfl))))) rfl

abbrev s__law_many : Stmt := top 39
theorem sc__law_many : FnScope ["bodies", "ease", "found", "last", "body"] ["bodies", "ease"] (defScope s__law_many) := ⟨rfl, rfl, rfl, by decide +kernel, rfl, by decide +kernel, by decide +kernel⟩
theorem ok__law_many {f : Addr} {fd : FuncData} (T : Tp K mg)  (F : FunD K "_law_many" "_law_many" (defArgs s__law_many) (defBody s__law_many) (defScope s__law_many) [] [] f fd) (hm : mg "_law_many" = some (.ref f)) : FnD P w K mg base "_law_many" 1 2 f__law_many :=
  okD (Γ' := []) F sc__law_many rfl (fun _ _ _ _ _ _ us hl => match us, hl with | [_, _], _ => rfl) hm (fun cdv A outer s H E hr =>
    (dss_cons (ds_set (i := 2) sc__law_many.nd (by kernel_rfl) (locK (by kernel_rfl)) (by kernel_rfl) de_int (by kernel_rfl) (by kernel_rfl) (fnK (by kernel_rfl)))
    (dss_cons (ds_set (i := 3) sc__law_many.nd (by kernel_rfl) (locK (by kernel_rfl)) (by kernel_rfl) de_non (by kernel_rfl) (by kernel_rfl) (fnK (by kernel_rfl)))
    (dss_cons (ds_wk (ks := [4]) (by kernel_rfl) (ds_nox (ds_for rfl rfl (di_l true (dv 0) (fun _ => rfl)) (dg_var sc__law_many.nd (by kernel_rfl) (locK (by kernel_rfl)) (by kernel_rfl) (fnK (by kernel_rfl))) (dss_wkp (ks := [4]) (by kernel_rfl) (dss_one (ds_if (dt_w (dw_or (dt_isN (dv 3)) (dw_or1 (dt_cmp op_gt os_cmp (dv 4) (de_bin op_addD os_add (dv 3) (de_bin op_mulA os_mul de_int (dv 1))) (nomark _) bl_cmp)))) (dss_cons (ds_set (i := 3) sc__law_many.nd (by kernel_rfl) (locK (by kernel_rfl)) (by kernel_rfl) (dv 4) (by kernel_rfl) (by kernel_rfl) (fnK (by kernel_rfl)))
    (dss_one (ds_set (i := 2) sc__law_many.nd (by kernel_rfl) (locK (by kernel_rfl)) (by kernel_rfl) (de_bin op_addD os_add (dv 2) de_int) (by kernel_rfl) (by kernel_rfl) (fnK (by kernel_rfl))))) dss_nil))))))
    (dss_one (ds_ret (Γ' := []) (dv 2) (by kernel_rfl))))))) rfl

abbrev s_law : Stmt := top 40
theorem sc_law : FnScope ["script", "bodies", "ease", "many", "count", "told", "lot", "digits", "drawn", "lower", "sizes", "some", "due", "wanted", "least", "turned", "thing", "wrong", "one", "body", "k"] ["script"] (defScope s_law) := ⟨rfl, rfl, rfl, by decide +kernel, rfl, by decide +kernel, by decide +kernel⟩
theorem ok_law {f : Addr} {fd : FuncData} (T : Tp K mg) (F__law_bodies : FnD P w K mg base "_law_bodies" 3 2 f__law_bodies) (F__law_many : FnD P w K mg base "_law_many" 1 2 f__law_many) (F_size_cover : FnD P w K mg base "size_cover" 5 2 f_size_cover) (F__law_lot : FnD P w K mg base "_law_lot" 3 2 f__law_lot) (F__law_row : FnD P w K mg base "_law_row" 2 3 f__law_row) (F_size_ease : FnD P w K mg base "size_ease" 5 2 f_size_ease) (F__law_at : FnD P w K mg base "_law_at" 1 2 f__law_at) (F__law_lots : FnD P w K mg base "_law_lots" 1 1 f__law_lots) (F_size_fewest : FnD P w K mg base "size_fewest" 5 2 f_size_fewest) (F__law_do_cover : FnD P w K mg base "_law_do_cover" 2 3 f__law_do_cover) (F__law_apart_bodies : FnD P w K mg base "_law_apart_bodies" 2 3 f__law_apart_bodies) (F_is_size_cover : FnD P w K mg base "is_size_cover" 6 3 f_is_size_cover) (F__law_whole : FnD P w K mg base "_law_whole" 1 1 f__law_whole) (F__law_word : FnD P w K mg base "_law_word" 6 3 f__law_word) (F__law_flag : FnD P w K mg base "_law_flag" 1 2 f__law_flag) (F__law_fits : FnD P w K mg base "_law_fits" 1 3 f__law_fits) (F : FunD K "law" "law" (defArgs s_law) (defBody s_law) (defScope s_law) [] [] f fd) : FnOk P w K mg base (L2.CX P w) 7 f fd ["script"] (spD K mg 1 f_law) :=
  okF (Γ' := []) F sc_law rfl (fun cdv A outer s H E hr =>
    (dss_cons (ds_asg (de_call F__law_bodies (hr.mono (by decide)) (glK (by kernel_rfl)) (takes_of rfl rfl rfl rfl) (da_cons (de_call F__law_at (hr.mono (by decide)) (glK (by kernel_rfl)) (takes_of rfl rfl rfl rfl) (da_cons (dv 0) (da_cons de_int da_nil))) (da_cons (de_ix ix_any os_ix (de_lst (da_cons de_int (da_cons de_int da_nil)) (by kernel_rfl) (hl := (len_big (len_cons (len_cons len_nil)) (by decide)))) (de_ix ix_any os_ix (de_call F__law_row (hr.mono (by decide)) (glK (by kernel_rfl)) (takes_of rfl rfl rfl rfl) (da_cons (de_call F__law_at (hr.mono (by decide)) (glK (by kernel_rfl)) (takes_of rfl rfl rfl rfl) (da_cons (dv 0) (da_cons de_int da_nil))) (da_cons de_int (da_cons de_int da_nil)))) de_int (fun _ _ => rfl)) (fun _ _ => rfl)) da_nil))) (dg_tup rfl (dgs_cons (dg_var sc_law.nd (by kernel_rfl) (locK (by kernel_rfl)) (by kernel_rfl) (fnK (by kernel_rfl))) (dgs_cons (dg_var sc_law.nd (by kernel_rfl) (locK (by kernel_rfl)) (by kernel_rfl) (fnK (by kernel_rfl))) dgs_nil))) (by kernel_rfl))
    (dss_cons (ds_set (i := 3) sc_law.nd (by kernel_rfl) (locK (by kernel_rfl)) (by kernel_rfl) (de_len T.n_len (dv 1)) (by kernel_rfl) (by kernel_rfl) (fnK (by kernel_rfl)))
    (dss_cons (ds_set (i := 4) sc_law.nd (by kernel_rfl) (locK (by kernel_rfl)) (by kernel_rfl) (de_call F__law_many (hr.mono (by decide)) (glK (by kernel_rfl)) (takes_of rfl rfl rfl rfl) (da_cons (dv 1) (da_cons (dv 2) da_nil))) (by kernel_rfl) (by kernel_rfl) (fnK (by kernel_rfl)))
    (dss_cons (ds_set (i := 5) sc_law.nd (by kernel_rfl) (locK (by kernel_rfl)) (by kernel_rfl) (de_call F_size_cover (hr.mono (by decide)) (glK (by kernel_rfl)) (takes_of rfl rfl rfl rfl) (da_cons (dv 1) (da_cons (dv 2) da_nil))) (by kernel_rfl) (by kernel_rfl) (fnK (by kernel_rfl)))
    (dss_cons (ds_if (dt_w (dw_or (dt_not (dt_truth (de_isiT .tuple "tuple" rfl T.n_isinstance T.n_tuple (dv 5) bt_tuple))) (dw_or (dt_cmp (op_neA (u64 hr)) os_ne (de_len T.n_len (dv 5)) de_int (nomark _) bl_ne) (dw_or1 (dt_not (dt_truth (de_call F__law_do_cover (hr.mono (by decide)) (glK (by kernel_rfl)) (takes_of rfl rfl rfl rfl) (da_cons (dv 1) (da_cons (dv 2) (da_cons (de_ix ix_any os_ix (dv 5) de_int (fun _ _ => rfl)) da_nil)))))))))) (dss_one (ds_ret (Γ' := []) de_bl (by kernel_rfl))) dss_nil)
    (dss_cons (ds_if (dt_w (dw_or (dt_not (dt_truth (de_call F__law_apart_bodies (hr.mono (by decide)) (glK (by kernel_rfl)) (takes_of rfl rfl rfl rfl) (da_cons (dv 1) (da_cons (dv 2) (da_cons (de_ix ix_any os_ix (dv 5) de_int (fun _ _ => rfl)) da_nil)))))) (dw_or (dt_cmp (op_neA (u64 hr)) os_ne (de_len T.n_len (de_ix ix_any os_ix (dv 5) de_int (fun _ _ => rfl))) (dv 4) (nomark _) bl_ne) (dw_or1 (dt_cmp (op_neA (u64 hr)) os_ne (de_len T.n_len (de_ix ix_any os_ix (dv 5) de_int (fun _ _ => rfl))) (dv 4) (nomark _) bl_ne))))) (dss_one (ds_ret (Γ' := []) de_bl (by kernel_rfl))) dss_nil)
    (dss_cons (ds_if (dt_w (dw_or (dt_cmp (op_neA (u64 hr)) os_ne (de_call F_size_fewest (hr.mono (by decide)) (glK (by kernel_rfl)) (takes_of rfl rfl rfl rfl) (da_cons (dv 1) (da_cons (dv 2) da_nil))) (dv 4) (nomark _) bl_ne) (dw_or1 (dt_notB (de_call F_is_size_cover (hr.mono (by decide)) (glK (by kernel_rfl)) (takes_of rfl rfl rfl rfl) (da_cons (dv 1) (da_cons (dv 2) (da_cons (dv 5) da_nil)))))))) (dss_one (ds_ret (Γ' := []) de_bl (by kernel_rfl))) dss_nil)
    (dss_cons (ds_if (dt_w (dw_or (dt_notB (de_call F_is_size_cover (hr.mono (by decide)) (glK (by kernel_rfl)) (takes_of rfl rfl rfl rfl) (da_cons (dv 1) (da_cons (dv 2) (da_cons (de_list T.n_list (dv 5)) da_nil))))) (dw_or1 (dt_notB (de_call F_is_size_cover (hr.mono (by decide)) (glK (by kernel_rfl)) (takes_of rfl rfl rfl rfl) (da_cons (dv 1) (da_cons (dv 2) (da_cons de_non da_nil)))))))) (dss_one (ds_ret (Γ' := []) de_bl (by kernel_rfl))) dss_nil)
    (dss_cons (ds_if (dt_cmp op_le os_cmp (dv 3) de_int (nomark _) bl_cmp) (dss_one (ds_wk (ks := [6, 7, 8, 9, 10, 11, 12, 13, 14, 15, 16, 17]) (by kernel_rfl) (ds_nox (ds_for rfl rfl (di_l true (de_call F__law_lots (hr.mono (by decide)) (glK (by kernel_rfl)) takes0 (da_cons (dv 3) da_nil)) (fun _ => rfl)) (dg_var sc_law.nd (by kernel_rfl) (locK (by kernel_rfl)) (by kernel_rfl) (fnK (by kernel_rfl))) (dss_wkp (ks := [6, 7, 8, 9, 10, 11, 12, 13, 14, 15, 16, 17]) (by kernel_rfl) (dss_one (ds_if (dt_w (dw_and (dt_cmp op_lt os_cmp (de_len T.n_len (dv 6)) (dv 4) (nomark _) bl_cmp) (dw_and1 (dt_truth (de_all rfl T.n_all (de_lc (own := [("body", 19)]) rfl sc_law.nd (di_l false (dv 1) (fun z => nomatch z)) (blkOk_by (by kernel_rfl)) (by kernel_rfl) (by kernel_rfl) (fun _ _ _ _ _ => (dg_var sc_law.nd (by kernel_rfl) (locK (by kernel_rfl)) (by kernel_rfl) (fnK (by kernel_rfl)))) (fun _ _ _ _ _ => dts_nil) (fun _ _ _ _ _ => (de_any rfl T.n_any (de_lc (own := [("k", 20)]) rfl sc_law.nd (di_l false (dv 6) (fun z => nomatch z)) (blkOk_by (by kernel_rfl)) (by kernel_rfl) (by kernel_rfl) (fun _ _ _ _ _ => (dg_var sc_law.nd (by kernel_rfl) (locK (by kernel_rfl)) (by kernel_rfl) (fnK (by kernel_rfl)))) (fun _ _ _ _ _ => dts_nil) (fun _ _ _ _ _ => (de_call F__law_fits (hr.mono (by decide)) (glK (by kernel_rfl)) takes0 (da_cons (de_bin op_addD os_add (de_ix ix_any os_ix (dv 1) (dv 20) (fun _ _ => rfl)) (dv 2)) (da_cons (dv 19) (da_cons (dv 2) da_nil))))) (by kernel_rfl)))) (by kernel_rfl))))))) (dss_one (ds_ret (Γ' := []) de_bl (by kernel_rfl))) dss_nil))))))) dss_nil)
    (dss_cons (ds_set (i := 6) sc_law.nd (by kernel_rfl) (locK (by kernel_rfl)) (by kernel_rfl) (de_call F__law_lot (hr.mono (by decide)) (glK (by kernel_rfl)) (takes_of rfl rfl rfl rfl) (da_cons (de_call F__law_at (hr.mono (by decide)) (glK (by kernel_rfl)) (takes_of rfl rfl rfl rfl) (da_cons (dv 0) (da_cons de_int da_nil))) (da_cons (dv 3) da_nil))) (by kernel_rfl) (by kernel_rfl) (fnK (by kernel_rfl)))
    (dss_cons (ds_set (i := 7) sc_law.nd (by kernel_rfl) (locK (by kernel_rfl)) (by kernel_rfl) (de_call F__law_row (hr.mono (by decide)) (glK (by kernel_rfl)) (takes_of rfl rfl rfl rfl) (da_cons (de_call F__law_at (hr.mono (by decide)) (glK (by kernel_rfl)) (takes_of rfl rfl rfl rfl) (da_cons (dv 0) (da_cons de_int da_nil))) (da_cons (de_bin op_addD os_add (dv 4) de_int) (da_cons de_int da_nil)))) (by kernel_rfl) (by kernel_rfl) (fnK (by kernel_rfl)))
    (dss_cons (ds_set (i := 8) sc_law.nd (by kernel_rfl) (locK (by kernel_rfl)) (by kernel_rfl) (de_tuple T.n_tuple (de_sorted T.n_sorted (de_lc (own := [("one", 18)]) rfl sc_law.nd (di_l false (de_slice (dv 7) do_none (do_some (dv 4))) (fun z => nomatch z)) (blkOk_by (by kernel_rfl)) (by kernel_rfl) (by kernel_rfl) (fun _ _ _ _ _ => (dg_var sc_law.nd (by kernel_rfl) (locK (by kernel_rfl)) (by kernel_rfl) (fnK (by kernel_rfl)))) (fun _ _ _ _ _ => dts_nil) (fun _ _ _ _ _ => (de_bin op_modN os_mod (dv 18) de_int)) (by kernel_rfl)))) (by kernel_rfl) (by kernel_rfl) (fnK (by kernel_rfl)))
    (dss_cons (ds_set (i := 9) sc_law.nd (by kernel_rfl) (locK (by kernel_rfl)) (by kernel_rfl) (de_tuple T.n_tuple (de_lc (own := [("one", 18)]) rfl sc_law.nd (di_l false (de_ix ix_any os_ix (dv 5) de_int (fun _ _ => rfl)) (fun z => nomatch z)) (blkOk_by (by kernel_rfl)) (by kernel_rfl) (by kernel_rfl) (fun _ _ _ _ _ => (dg_var sc_law.nd (by kernel_rfl) (locK (by kernel_rfl)) (by kernel_rfl) (fnK (by kernel_rfl)))) (fun _ _ _ _ _ => dts_nil) (fun _ _ _ _ _ => (de_bin op_sub os_sub (dv 18) (de_bin op_modN os_mod (de_ix ix_any os_ix (dv 7) (dv 4) (fun _ _ => rfl)) (de_bin op_addD os_add (dv 2) de_int)))) (by kernel_rfl))) (by kernel_rfl) (by kernel_rfl) (fnK (by kernel_rfl)))
    (dss_cons (ds_wk (ks := [0, 3, 10, 11, 12, 13, 14, 15, 16, 17]) (by kernel_rfl) (ds_nox (ds_for rfl rfl (di_l true (de_lst (da_cons (de_ix ix_any os_ix (dv 5) de_int (fun _ _ => rfl)) (da_cons (dv 8) (da_cons (dv 9) (da_cons (de_slice (de_ix ix_any os_ix (dv 5) de_int (fun _ _ => rfl)) (do_some de_int) do_none) da_nil)))) (by kernel_rfl) (hl := (len_big (len_cons (len_cons (len_cons (len_cons len_nil)))) (by decide)))) (fun _ => rfl)) (dg_var sc_law.nd (by kernel_rfl) (locK (by kernel_rfl)) (by kernel_rfl) (fnK (by kernel_rfl))) (dss_wkp (ks := [0, 3, 10, 11, 12, 13, 14, 15, 16, 17]) (by kernel_rfl) (dss_one (ds_wk (ks := [0, 3, 8, 9, 11, 12, 13, 14, 15, 16, 17]) (by kernel_rfl) (ds_for rfl rfl (di_l true (de_lst (da_cons (de_ix ix_any os_ix (dv 5) de_int (fun _ _ => rfl)) (da_cons (dv 6) da_nil)) (by kernel_rfl) (hl := (len_big (len_cons (len_cons len_nil)) (by decide)))) (fun _ => rfl)) (dg_var sc_law.nd (by kernel_rfl) (locK (by kernel_rfl)) (by kernel_rfl) (fnK (by kernel_rfl))) (dss_wkp (ks := [0, 3, 8, 9, 11, 12, 13, 14, 15, 16, 17]) (by kernel_rfl) (dss_cons (ds_set (i := 12) sc_law.nd (by kernel_rfl) (locK (by kernel_rfl)) (by kernel_rfl) (de_and (de_call F__law_do_cover (hr.mono (by decide)) (glK (by kernel_rfl)) takes0 (da_cons (dv 1) (da_cons (dv 2) (da_cons (dv 10) da_nil)))) (de_and (de_call F__law_apart_bodies (hr.mono (by decide)) (glK (by kernel_rfl)) takes0 (da_cons (dv 1) (da_cons (dv 2) (da_cons (dv 11) da_nil)))) (de_one (de_sh (de_cmp (op_eqA (u64 hr)) os_eq (de_len T.n_len (dv 10)) (de_len T.n_len (dv 11)) (nomark _)))))) (by kernel_rfl) (by kernel_rfl) (fnK (by kernel_rfl)))
    (dss_one (ds_if (dt_not (dt_truth (de_call F__law_flag (hr.mono (by decide)) (glK (by kernel_rfl)) takes0 (da_cons (de_call F_is_size_cover (hr.mono (by decide)) (glK (by kernel_rfl)) takes0 (da_cons (dv 1) (da_cons (dv 2) (da_cons (de_tup (da_cons (dv 10) (da_cons (dv 11) da_nil)) (by kernel_rfl) (hl := (len_big (len_cons (len_cons len_nil)) (by decide)))) da_nil)))) (da_cons (dv 12) da_nil))))) (dss_one (ds_ret (Γ' := []) de_bl (by kernel_rfl))) dss_nil)))))))))))
    (dss_cons (ds_set (i := 13) sc_law.nd (by kernel_rfl) (locK (by kernel_rfl)) (by kernel_rfl) (de_bin op_addD os_add de_int (de_bin op_modN os_mod (de_ix ix_any os_ix (dv 7) (de_bin op_addD os_add (dv 4) de_int) (fun _ _ => rfl)) de_int)) (by kernel_rfl) (by kernel_rfl) (fnK (by kernel_rfl)))
    (dss_cons (ds_set (i := 14) sc_law.nd (by kernel_rfl) (locK (by kernel_rfl)) (by kernel_rfl) (de_call F_size_ease (hr.mono (by decide)) (glK (by kernel_rfl)) (takes_of rfl rfl rfl rfl) (da_cons (dv 1) (da_cons (dv 13) da_nil))) (by kernel_rfl) (by kernel_rfl) (fnK (by kernel_rfl)))
    (dss_cons (ds_if (dt_w (dw_or (dt_not (dt_truth (de_call F__law_whole (hr.mono (by decide)) (glK (by kernel_rfl)) (takes_of rfl rfl rfl rfl) (da_cons (dv 14) da_nil)))) (dw_or (dt_cmp op_gt os_cmp (de_call F__law_many (hr.mono (by decide)) (glK (by kernel_rfl)) (takes_of rfl rfl rfl rfl) (da_cons (dv 1) (da_cons (dv 14) da_nil))) (dv 13) (nomark _) bl_cmp) (dw_or1 (dt_w (dw_and (dt_cmp op_gt os_cmp (dv 14) de_int (nomark _) bl_cmp) (dw_and1 (dt_cmp op_le os_cmp (de_call F__law_many (hr.mono (by decide)) (glK (by kernel_rfl)) (takes_of rfl rfl rfl rfl) (da_cons (dv 1) (da_cons (de_bin op_sub os_sub (dv 14) de_int) da_nil))) (dv 13) (nomark _) bl_cmp)))))))) (dss_one (ds_ret (Γ' := []) de_bl (by kernel_rfl))) dss_nil)
    (dss_cons (ds_set (i := 15) sc_law.nd (by kernel_rfl) (locK (by kernel_rfl)) (by kernel_rfl) (de_tuple T.n_tuple (de_lc (own := [("one", 18)]) rfl sc_law.nd (di_l false (de_rev (dv 1)) (fun z => nomatch z)) (blkOk_by (by kernel_rfl)) (by kernel_rfl) (by kernel_rfl) (fun _ _ _ _ _ => (dg_var sc_law.nd (by kernel_rfl) (locK (by kernel_rfl)) (by kernel_rfl) (fnK (by kernel_rfl)))) (fun _ _ _ _ _ => dts_nil) (fun _ _ _ _ _ => (de_bin op_sub os_sub de_int (dv 18))) (by kernel_rfl))) (by kernel_rfl) (by kernel_rfl) (fnK (by kernel_rfl)))
    (dss_cons (ds_if (dt_cmp (op_neA (u64 hr)) os_ne (de_call F_size_fewest (hr.mono (by decide)) (glK (by kernel_rfl)) (takes_of rfl rfl rfl rfl) (da_cons (dv 15) (da_cons (dv 2) da_nil))) (dv 4) (nomark _) bl_ne) (dss_one (ds_ret (Γ' := []) de_bl (by kernel_rfl))) dss_nil)
    (dss_cons (ds_wk (ks := [0, 2, 3, 4, 5, 6, 7, 8, 9, 10, 11, 12, 13, 14, 15, 16, 17]) (by kernel_rfl) (ds_nox (ds_for rfl rfl (di_l true (de_lst (da_cons de_non (da_cons (de_bin op_sub os_sub de_int de_int) (da_cons de_int (da_cons de_bl (da_cons (de_str (by decide)) da_nil))))) (by kernel_rfl) (hl := (len_big (len_cons (len_cons (len_cons (len_cons (len_cons len_nil))))) (by decide)))) (fun _ => rfl)) (dg_var sc_law.nd (by kernel_rfl) (locK (by kernel_rfl)) (by kernel_rfl) (fnK (by kernel_rfl))) (dss_wkp (ks := [0, 2, 3, 4, 5, 6, 7, 8, 9, 10, 11, 12, 13, 14, 15, 16, 17]) (by kernel_rfl) (dss_one (ds_if (dt_cmp (op_neA (u64 hr)) os_ne (de_call F__law_word (hr.mono (by decide)) (glK (by kernel_rfl)) takes0 (da_cons (de_str (by decide)) (da_cons (dv 1) (da_cons (dv 16) da_nil)))) (de_str (by decide)) (nomark _) bl_ne) (dss_one (ds_ret (Γ' := []) de_bl (by kernel_rfl))) dss_nil))))))
    (dss_cons (ds_wk (ks := [0, 2, 3, 4, 5, 6, 7, 8, 9, 10, 11, 12, 13, 14, 15, 16, 17]) (by kernel_rfl) (ds_nox (ds_for rfl rfl (di_l true (de_lst (da_cons de_non (da_cons de_int (da_cons de_int (da_cons de_bl da_nil)))) (by kernel_rfl) (hl := (len_big (len_cons (len_cons (len_cons (len_cons len_nil)))) (by decide)))) (fun _ => rfl)) (dg_var sc_law.nd (by kernel_rfl) (locK (by kernel_rfl)) (by kernel_rfl) (fnK (by kernel_rfl))) (dss_wkp (ks := [0, 2, 3, 4, 5, 6, 7, 8, 9, 10, 11, 12, 13, 14, 15, 16, 17]) (by kernel_rfl) (dss_one (ds_if (dt_cmp (op_neA (u64 hr)) os_ne (de_call F__law_word (hr.mono (by decide)) (glK (by kernel_rfl)) takes0 (da_cons (de_str (by decide)) (da_cons (dv 1) (da_cons (dv 16) da_nil)))) (de_str (by decide)) (nomark _) bl_ne) (dss_one (ds_ret (Γ' := []) de_bl (by kernel_rfl))) dss_nil))))))
    (dss_cons (ds_set (i := 17) sc_law.nd (by kernel_rfl) (locK (by kernel_rfl)) (by kernel_rfl) (de_lst (da_cons de_non (da_cons (de_list T.n_list (dv 1)) (da_cons (de_tup (da_cons (de_bin op_sub os_sub de_int de_int) da_nil) (by kernel_rfl) (hl := (len_big (len_cons len_nil) (by decide)))) (da_cons (de_tup (da_cons de_int da_nil) (by kernel_rfl) (hl := (len_big (len_cons len_nil) (by decide)))) (da_cons (de_tup (da_cons de_int (da_cons de_int da_nil)) (by kernel_rfl) (hl := (len_big (len_cons (len_cons len_nil)) (by decide)))) (da_cons (de_tup (da_cons de_bl da_nil) (by kernel_rfl) (hl := (len_big (len_cons len_nil) (by decide)))) (da_cons (de_repT (de_tup (da_cons de_int da_nil) (by kernel_rfl) (hl := (len_big (len_cons len_nil) (by decide)))) de_int) (da_cons (de_str (by decide)) da_nil)))))))) (by kernel_rfl) (hl := (len_big (len_cons (len_cons (len_cons (len_cons (len_cons (len_cons (len_cons (len_cons len_nil)))))))) (by decide)))) (by kernel_rfl) (by kernel_rfl) (fnK (by kernel_rfl)))
    (dss_one (ds_ret (Γ' := []) (de_all rfl T.n_all (de_lc (own := [("thing", 16)]) rfl sc_law.nd (di_l false (dv 17) (fun z => nomatch z)) (blkOk_by (by kernel_rfl)) (by kernel_rfl) (by kernel_rfl) (fun _ _ _ _ _ => (dg_var sc_law.nd (by kernel_rfl) (locK (by kernel_rfl)) (by kernel_rfl) (fnK (by kernel_rfl)))) (fun _ _ _ _ _ => dts_nil) (fun _ _ _ _ _ => (de_and (de_sh (de_cmp (op_eqA (u64 hr)) os_eq (de_call F__law_word (hr.mono (by decide)) (glK (by kernel_rfl)) takes0 (da_cons (de_str (by decide)) (da_cons (dv 16) (da_cons de_non da_nil)))) (de_str (by decide)) (nomark _))) (de_one (de_sh (de_cmp (op_eqA (u64 hr)) os_eq (de_call F__law_word (hr.mono (by decide)) (glK (by kernel_rfl)) takes0 (da_cons (de_str (by decide)) (da_cons (dv 16) (da_cons de_non da_nil)))) (de_str (by decide)) (nomark _)))))) (by kernel_rfl))) (by kernel_rfl)))))))))))))))))))))))))) rfl
end
/-! ### the head -/
def d_is_integer : He.DefD := ⟨("is_integer", none), "is_integer", "is_integer", defArgs s_is_integer, defBody s_is_integer, defScope s_is_integer, [], []⟩
def d_is_between : He.DefD := ⟨("is_between", none), "is_between", "is_between", defArgs s_is_between, defBody s_is_between, defScope s_is_between, [], []⟩
def d_is_under : He.DefD := ⟨("is_under", none), "is_under", "is_under", defArgs s_is_under, defBody s_is_under, defScope s_is_under, [], []⟩
def d_is_tuple_of : He.DefD := ⟨("is_tuple_of", none), "is_tuple_of", "is_tuple_of", defArgs s_is_tuple_of, defBody s_is_tuple_of, defScope s_is_tuple_of, [], []⟩
def d_are_under : He.DefD := ⟨("are_under", none), "are_under", "are_under", defArgs s_are_under, defBody s_are_under, defScope s_are_under, [], []⟩
def d_is_lot : He.DefD := ⟨("is_lot", none), "is_lot", "is_lot", defArgs s_is_lot, defBody s_is_lot, defScope s_is_lot, [], []⟩
def d_are_bodies : He.DefD := ⟨("are_bodies", none), "are_bodies", "are_bodies", defArgs s_are_bodies, defBody s_are_bodies, defScope s_are_bodies, [], []⟩
def d_need_bodies : He.DefD := ⟨("need_bodies", none), "need_bodies", "need_bodies", defArgs s_need_bodies, defBody s_need_bodies, defScope s_need_bodies, [], []⟩
def d_fits : He.DefD := ⟨("fits", none), "fits", "fits", defArgs s_fits, defBody s_fits, defScope s_fits, [], []⟩
def d_cover_of : He.DefD := ⟨("cover_of", none), "cover_of", "cover_of", defArgs s_cover_of, defBody s_cover_of, defScope s_cover_of, [], []⟩
def d_size_cover : He.DefD := ⟨("size_cover", none), "size_cover", "size_cover", defArgs s_size_cover, defBody s_size_cover, defScope s_size_cover, [], []⟩
def d_do_cover : He.DefD := ⟨("do_cover", none), "do_cover", "do_cover", defArgs s_do_cover, defBody s_do_cover, defScope s_do_cover, [], []⟩
def d_are_apart : He.DefD := ⟨("are_apart", none), "are_apart", "are_apart", defArgs s_are_apart, defBody s_are_apart, defScope s_are_apart, [], []⟩
def d_is_size_cover : He.DefD := ⟨("is_size_cover", none), "is_size_cover", "is_size_cover", defArgs s_is_size_cover, defBody s_is_size_cover, defScope s_is_size_cover, [], []⟩
def d_size_fewest : He.DefD := ⟨("size_fewest", none), "size_fewest", "size_fewest", defArgs s_size_fewest, defBody s_size_fewest, defScope s_size_fewest, [], []⟩
def d_size_ease : He.DefD := ⟨("size_ease", none), "size_ease", "size_ease", defArgs s_size_ease, defBody s_size_ease, defScope s_size_ease, [], []⟩
def d__law_mixed : He.DefD := ⟨("_law_mixed", none), "_law_mixed", "_law_mixed", defArgs s__law_mixed, defBody s__law_mixed, defScope s__law_mixed, [], []⟩
def d__law_row : He.DefD := ⟨("_law_row", none), "_law_row", "_law_row", defArgs s__law_row, defBody s__law_row, defScope s__law_row, [], []⟩
def d__law_bodies : He.DefD := ⟨("_law_bodies", none), "_law_bodies", "_law_bodies", defArgs s__law_bodies, defBody s__law_bodies, defScope s__law_bodies, [], []⟩
def d__law_fits : He.DefD := ⟨("_law_fits", none), "_law_fits", "_law_fits", defArgs s__law_fits, defBody s__law_fits, defScope s__law_fits, [], []⟩
def d__law_whole : He.DefD := ⟨("_law_whole", none), "_law_whole", "_law_whole", defArgs s__law_whole, defBody s__law_whole, defScope s__law_whole, [], []⟩
def d__law_do_cover : He.DefD := ⟨("_law_do_cover", none), "_law_do_cover", "_law_do_cover", defArgs s__law_do_cover, defBody s__law_do_cover, defScope s__law_do_cover, [], []⟩
def d__law_apart_bodies : He.DefD := ⟨("_law_apart_bodies", none), "_law_apart_bodies", "_law_apart_bodies", defArgs s__law_apart_bodies, defBody s__law_apart_bodies, defScope s__law_apart_bodies, [], []⟩
def d__law_at : He.DefD := ⟨("_law_at", none), "_law_at", "_law_at", defArgs s__law_at, defBody s__law_at, defScope s__law_at, [], []⟩
def d__law_lot : He.DefD := ⟨("_law_lot", none), "_law_lot", "_law_lot", defArgs s__law_lot, defBody s__law_lot, defScope s__law_lot, [], []⟩
def d__law_lots : He.DefD := ⟨("_law_lots", none), "_law_lots", "_law_lots", defArgs s__law_lots, defBody s__law_lots, defScope s__law_lots, [], []⟩
def d__law_flag : He.DefD := ⟨("_law_flag", none), "_law_flag", "_law_flag", defArgs s__law_flag, defBody s__law_flag, defScope s__law_flag, [], []⟩
def d__law_word : He.DefD := ⟨("_law_word", none), "_law_word", "_law_word", defArgs s__law_word, defBody s__law_word, defScope s__law_word, [], []⟩
def d__law_many : He.DefD := ⟨("_law_many", none), "_law_many", "_law_many", defArgs s__law_many, defBody s__law_many, defScope s__law_many, [], []⟩
def d_law : He.DefD := ⟨("law", none), "law", "law", defArgs s_law, defBody s_law, defScope s_law, [], []⟩
def fn : List He.DefD := [d_is_integer, d_is_between, d_is_under, d_is_tuple_of, d_are_under, d_is_lot, d_are_bodies, d_need_bodies, d_fits, d_cover_of, d_size_cover, d_do_cover, d_are_apart, d_is_size_cover, d_size_fewest, d_size_ease, d__law_mixed, d__law_row, d__law_bodies, d__law_fits, d__law_whole, d__law_do_cover, d__law_apart_bodies, d__law_at, d__law_lot, d__law_lots, d__law_flag, d__law_word, d__law_many, d_law]
def fa : List He.Fa := [.int "MOST_BODIES" 12, .int "MOST_EASE" 50, .int "MOST_MEASURE" 200, .int "MOST_SIZES" 10, .keep "law", .keep "law", .keep "law", .keep "law", .keep "law", .keep "law", .free "abs", .free "all", .free "any", .free "bool", .free "enumerate", .free "int", .free "isinstance", .free "len", .free "list", .free "range", .free "sorted", .free "tuple", .exc "NoNumber", .exc "NoSizes", .glo "is_integer", .glo "is_between", .glo "is_under", .glo "is_tuple_of", .glo "are_under", .glo "is_lot", .glo "are_bodies", .glo "need_bodies", .glo "fits", .glo "cover_of", .glo "size_cover", .glo "do_cover", .glo "are_apart", .glo "is_size_cover", .glo "size_fewest", .glo "size_ease", .glo "_law_mixed", .glo "_law_row", .glo "_law_bodies", .glo "_law_fits", .glo "_law_whole", .glo "_law_do_cover", .glo "_law_apart_bodies", .glo "_law_at", .glo "_law_lot", .glo "_law_lots", .glo "_law_flag", .glo "_law_word", .glo "_law_many", .glo "law", .glo "NoNumber", .glo "NoSizes", .glo "NeedleError"]
def exF (K : PySem.W.Frag) : Bool := isB K "NoNumber" "NoNumber" true && (isB K "NoNumber" "NoSizes" false && (isB K "NoSizes" "NoNumber" false && (isB K "NoSizes" "NoSizes" true && (catB K "NoNumber" "NeedleError" && (catB K "NoSizes" "NeedleError" && (true))))))
theorem facts {P : Program} {w : World} {K : PySem.W.Frag} {h : Heap} {mg : MG} {f : Addr} (X : K.In h) (G : h.Ns mainGlobals mg) (hfa : mg ("law" : Str) = some (.ref f)) (c : He.SaysD fa fn K) (ex : exF K = true) :
    ∃ fd : FuncData, (∀ (s : Shared) (v : Value), BindsTo s fd ⟨[v], []⟩ [("script", v)]) ∧ ∀ base : Heap, K.In base → base.Ns mainGlobals mg → FnOk P w K mg base (L2.CX P w) 7 f fd ["script"] (spD K mg 1 f_law) := by
  unfold exF at ex
  simp only [Bool.and_eq_true] at ex
  obtain ⟨ex0, ex1, ex2, ex3, ex4, ex5, _⟩ := ex
  have T : Tp K mg := {
    c_MOST_BODIES := He.int_ok X G (c.fact 0 (f := .int "MOST_BODIES" 12) rfl)
    c_MOST_EASE := He.int_ok X G (c.fact 1 (f := .int "MOST_EASE" 50) rfl)
    c_MOST_MEASURE := He.int_ok X G (c.fact 2 (f := .int "MOST_MEASURE" 200) rfl)
    c_MOST_SIZES := He.int_ok X G (c.fact 3 (f := .int "MOST_SIZES" 10) rfl)
    i_NoNumber__NoNumber__true := isE_of X G (c.fact 54 (f := .glo "NoNumber") rfl) (c.fact 54 (f := .glo "NoNumber") rfl) ex0
    i_NoNumber__NoSizes__false := isE_of X G (c.fact 54 (f := .glo "NoNumber") rfl) (c.fact 55 (f := .glo "NoSizes") rfl) ex1
    i_NoSizes__NoNumber__false := isE_of X G (c.fact 55 (f := .glo "NoSizes") rfl) (c.fact 54 (f := .glo "NoNumber") rfl) ex2
    i_NoSizes__NoSizes__true := isE_of X G (c.fact 55 (f := .glo "NoSizes") rfl) (c.fact 55 (f := .glo "NoSizes") rfl) ex3
    k_NoNumber__NeedleError := cat_of X G (c.fact 54 (f := .glo "NoNumber") rfl) (c.fact 56 (f := .glo "NeedleError") rfl) ex4
    k_NoSizes__NeedleError := cat_of X G (c.fact 55 (f := .glo "NoSizes") rfl) (c.fact 56 (f := .glo "NeedleError") rfl) ex5
    n_abs := He.free_ok X G (c.fact 10 (f := .free "abs") rfl)
    n_all := He.free_ok X G (c.fact 11 (f := .free "all") rfl)
    n_any := He.free_ok X G (c.fact 12 (f := .free "any") rfl)
    n_bool := He.free_ok X G (c.fact 13 (f := .free "bool") rfl)
    n_enumerate := He.free_ok X G (c.fact 14 (f := .free "enumerate") rfl)
    n_int := He.free_ok X G (c.fact 15 (f := .free "int") rfl)
    n_isinstance := He.free_ok X G (c.fact 16 (f := .free "isinstance") rfl)
    n_len := He.free_ok X G (c.fact 17 (f := .free "len") rfl)
    n_list := He.free_ok X G (c.fact 18 (f := .free "list") rfl)
    n_range := He.free_ok X G (c.fact 19 (f := .free "range") rfl)
    n_sorted := He.free_ok X G (c.fact 20 (f := .free "sorted") rfl)
    n_tuple := He.free_ok X G (c.fact 21 (f := .free "tuple") rfl)
    x_NoNumber := exn_of X G (c.fact 22 (f := .exc "NoNumber") rfl) (c.fact 54 (f := .glo "NoNumber") rfl)
    x_NoSizes := exn_of X G (c.fact 23 (f := .exc "NoSizes") rfl) (c.fact 55 (f := .glo "NoSizes") rfl) }
  obtain ⟨fd_is_integer, F_is_integer⟩ := c.def_ 0 (d := d_is_integer) rfl
  have m_is_integer := He.glo_ok X G (c.fact 24 (f := .glo "is_integer") rfl)
  obtain ⟨fd_is_between, F_is_between⟩ := c.def_ 1 (d := d_is_between) rfl
  have m_is_between := He.glo_ok X G (c.fact 25 (f := .glo "is_between") rfl)
  obtain ⟨fd_is_under, F_is_under⟩ := c.def_ 2 (d := d_is_under) rfl
  have m_is_under := He.glo_ok X G (c.fact 26 (f := .glo "is_under") rfl)
  obtain ⟨fd_is_tuple_of, F_is_tuple_of⟩ := c.def_ 3 (d := d_is_tuple_of) rfl
  have m_is_tuple_of := He.glo_ok X G (c.fact 27 (f := .glo "is_tuple_of") rfl)
  obtain ⟨fd_are_under, F_are_under⟩ := c.def_ 4 (d := d_are_under) rfl
  have m_are_under := He.glo_ok X G (c.fact 28 (f := .glo "are_under") rfl)
  obtain ⟨fd_is_lot, F_is_lot⟩ := c.def_ 5 (d := d_is_lot) rfl
  have m_is_lot := He.glo_ok X G (c.fact 29 (f := .glo "is_lot") rfl)
  obtain ⟨fd_are_bodies, F_are_bodies⟩ := c.def_ 6 (d := d_are_bodies) rfl
  have m_are_bodies := He.glo_ok X G (c.fact 30 (f := .glo "are_bodies") rfl)
  obtain ⟨fd_need_bodies, F_need_bodies⟩ := c.def_ 7 (d := d_need_bodies) rfl
  have m_need_bodies := He.glo_ok X G (c.fact 31 (f := .glo "need_bodies") rfl)
  obtain ⟨fd_fits, F_fits⟩ := c.def_ 8 (d := d_fits) rfl
  have m_fits := He.glo_ok X G (c.fact 32 (f := .glo "fits") rfl)
  obtain ⟨fd_cover_of, F_cover_of⟩ := c.def_ 9 (d := d_cover_of) rfl
  have m_cover_of := He.glo_ok X G (c.fact 33 (f := .glo "cover_of") rfl)
  obtain ⟨fd_size_cover, F_size_cover⟩ := c.def_ 10 (d := d_size_cover) rfl
  have m_size_cover := He.glo_ok X G (c.fact 34 (f := .glo "size_cover") rfl)
  obtain ⟨fd_do_cover, F_do_cover⟩ := c.def_ 11 (d := d_do_cover) rfl
  have m_do_cover := He.glo_ok X G (c.fact 35 (f := .glo "do_cover") rfl)
  obtain ⟨fd_are_apart, F_are_apart⟩ := c.def_ 12 (d := d_are_apart) rfl
  have m_are_apart := He.glo_ok X G (c.fact 36 (f := .glo "are_apart") rfl)
  obtain ⟨fd_is_size_cover, F_is_size_cover⟩ := c.def_ 13 (d := d_is_size_cover) rfl
  have m_is_size_cover := He.glo_ok X G (c.fact 37 (f := .glo "is_size_cover") rfl)
  obtain ⟨fd_size_fewest, F_size_fewest⟩ := c.def_ 14 (d := d_size_fewest) rfl
  have m_size_fewest := He.glo_ok X G (c.fact 38 (f := .glo "size_fewest") rfl)
  obtain ⟨fd_size_ease, F_size_ease⟩ := c.def_ 15 (d := d_size_ease) rfl
  have m_size_ease := He.glo_ok X G (c.fact 39 (f := .glo "size_ease") rfl)
  obtain ⟨fd__law_mixed, F__law_mixed⟩ := c.def_ 16 (d := d__law_mixed) rfl
  have m__law_mixed := He.glo_ok X G (c.fact 40 (f := .glo "_law_mixed") rfl)
  obtain ⟨fd__law_row, F__law_row⟩ := c.def_ 17 (d := d__law_row) rfl
  have m__law_row := He.glo_ok X G (c.fact 41 (f := .glo "_law_row") rfl)
  obtain ⟨fd__law_bodies, F__law_bodies⟩ := c.def_ 18 (d := d__law_bodies) rfl
  have m__law_bodies := He.glo_ok X G (c.fact 42 (f := .glo "_law_bodies") rfl)
  obtain ⟨fd__law_fits, F__law_fits⟩ := c.def_ 19 (d := d__law_fits) rfl
  have m__law_fits := He.glo_ok X G (c.fact 43 (f := .glo "_law_fits") rfl)
  obtain ⟨fd__law_whole, F__law_whole⟩ := c.def_ 20 (d := d__law_whole) rfl
  have m__law_whole := He.glo_ok X G (c.fact 44 (f := .glo "_law_whole") rfl)
  obtain ⟨fd__law_do_cover, F__law_do_cover⟩ := c.def_ 21 (d := d__law_do_cover) rfl
  have m__law_do_cover := He.glo_ok X G (c.fact 45 (f := .glo "_law_do_cover") rfl)
  obtain ⟨fd__law_apart_bodies, F__law_apart_bodies⟩ := c.def_ 22 (d := d__law_apart_bodies) rfl
  have m__law_apart_bodies := He.glo_ok X G (c.fact 46 (f := .glo "_law_apart_bodies") rfl)
  obtain ⟨fd__law_at, F__law_at⟩ := c.def_ 23 (d := d__law_at) rfl
  have m__law_at := He.glo_ok X G (c.fact 47 (f := .glo "_law_at") rfl)
  obtain ⟨fd__law_lot, F__law_lot⟩ := c.def_ 24 (d := d__law_lot) rfl
  have m__law_lot := He.glo_ok X G (c.fact 48 (f := .glo "_law_lot") rfl)
  obtain ⟨fd__law_lots, F__law_lots⟩ := c.def_ 25 (d := d__law_lots) rfl
  have m__law_lots := He.glo_ok X G (c.fact 49 (f := .glo "_law_lots") rfl)
  obtain ⟨fd__law_flag, F__law_flag⟩ := c.def_ 26 (d := d__law_flag) rfl
  have m__law_flag := He.glo_ok X G (c.fact 50 (f := .glo "_law_flag") rfl)
  obtain ⟨fd__law_word, F__law_word⟩ := c.def_ 27 (d := d__law_word) rfl
  have m__law_word := He.glo_ok X G (c.fact 51 (f := .glo "_law_word") rfl)
  obtain ⟨fd__law_many, F__law_many⟩ := c.def_ 28 (d := d__law_many) rfl
  have m__law_many := He.glo_ok X G (c.fact 52 (f := .glo "_law_many") rfl)
  obtain ⟨fd_law, F_law⟩ := c.def_ 29 (d := d_law) rfl
  have m_law := He.glo_ok X G (c.fact 53 (f := .glo "law") rfl)
  have e := hfa.symm.trans m_law
  cases e
  have b := FunD.bindsA (ps := ["script"]) F_law fun _ _ _ _ _ _ us hl => match us, hl with | [_], _ => rfl
  refine ⟨fd_law, fun s v => b s [v] rfl, fun base _ _ => ?_⟩
  have G_is_integer := ok_is_integer (P := P) (w := w) (base := base) T  F_is_integer m_is_integer
  have G_is_between := ok_is_between (P := P) (w := w) (base := base) T G_is_integer F_is_between m_is_between
  have G_is_under := ok_is_under (P := P) (w := w) (base := base) T G_is_integer F_is_under m_is_under
  have G_is_tuple_of := ok_is_tuple_of (P := P) (w := w) (base := base) T  F_is_tuple_of m_is_tuple_of
  have G_are_under := ok_are_under (P := P) (w := w) (base := base) T G_is_under F_are_under m_are_under
  have G_is_lot := ok_is_lot (P := P) (w := w) (base := base) T G_are_under F_is_lot m_is_lot
  have G_are_bodies := ok_are_bodies (P := P) (w := w) (base := base) T G_is_between F_are_bodies m_are_bodies
  have G_need_bodies := ok_need_bodies (P := P) (w := w) (base := base) T G_are_bodies G_is_between F_need_bodies m_need_bodies
  have G_fits := ok_fits (P := P) (w := w) (base := base) T  F_fits m_fits
  have G_cover_of := ok_cover_of (P := P) (w := w) (base := base) T G_fits F_cover_of m_cover_of
  have G_size_cover := ok_size_cover (P := P) (w := w) (base := base) T G_need_bodies G_cover_of F_size_cover m_size_cover
  have G_do_cover := ok_do_cover (P := P) (w := w) (base := base) T G_is_between G_fits F_do_cover m_do_cover
  have G_are_apart := ok_are_apart (P := P) (w := w) (base := base) T G_is_lot F_are_apart m_are_apart
  have G_is_size_cover := ok_is_size_cover (P := P) (w := w) (base := base) T G_need_bodies G_is_tuple_of G_do_cover G_are_apart F_is_size_cover m_is_size_cover
  have G_size_fewest := ok_size_fewest (P := P) (w := w) (base := base) T G_need_bodies G_cover_of F_size_fewest m_size_fewest
  have G_size_ease := ok_size_ease (P := P) (w := w) (base := base) T G_need_bodies G_is_between G_cover_of F_size_ease m_size_ease
  have G__law_mixed := ok__law_mixed (P := P) (w := w) (base := base) T  F__law_mixed m__law_mixed
  have G__law_row := ok__law_row (P := P) (w := w) (base := base) T G__law_mixed F__law_row m__law_row
  have G__law_bodies := ok__law_bodies (P := P) (w := w) (base := base) T G__law_row F__law_bodies m__law_bodies
  have G__law_fits := ok__law_fits (P := P) (w := w) (base := base) T  F__law_fits m__law_fits
  have G__law_whole := ok__law_whole (P := P) (w := w) (base := base) T  F__law_whole m__law_whole
  have G__law_do_cover := ok__law_do_cover (P := P) (w := w) (base := base) T G__law_fits G__law_whole F__law_do_cover m__law_do_cover
  have G__law_apart_bodies := ok__law_apart_bodies (P := P) (w := w) (base := base) T G__law_whole F__law_apart_bodies m__law_apart_bodies
  have G__law_at := ok__law_at (P := P) (w := w) (base := base) T  F__law_at m__law_at
  have G__law_lot := ok__law_lot (P := P) (w := w) (base := base) T G__law_row F__law_lot m__law_lot
  have G__law_lots := ok__law_lots (P := P) (w := w) (base := base) T  F__law_lots m__law_lots
  have G__law_flag := ok__law_flag (P := P) (w := w) (base := base) T  F__law_flag m__law_flag
  have G__law_word := ok__law_word (P := P) (w := w) (base := base) T G_size_fewest G_size_ease F__law_word m__law_word
  have G__law_many := ok__law_many (P := P) (w := w) (base := base) T  F__law_many m__law_many
  exact ok_law T G__law_bodies G__law_many G_size_cover G__law_lot G__law_row G_size_ease G__law_at G__law_lots G_size_fewest G__law_do_cover G__law_apart_bodies G_is_size_cover G__law_whole G__law_word G__law_flag G__law_fits F_law
abbrev R : PySem.W.OpenRow := PySem.W.OpenLaw.row PySem.Challenge.rw_needlehouse_k76_whole_fewest_sizes
abbrev hk : PySem.W.Hook := hookE 4 fa fn exF
def ob (s : PySem.W.SharedT) : AlE := obsEG 4 fa fn exF (HandSHeadRun.getT s)
theorem ob_eq (s : PySem.W.SharedT) : ob s = hk.obs s.abs := obsEG_eq (HandSHeadRun.getT_eq s)
theorem run (w : World) : HandSHeadRun.RunEq R (PySem.W.view R.prog [40]) hk ob 4000 (("NeedleError" : PySem.Str) :: ("NoNumber" : PySem.Str) :: ("NoSizes" : PySem.Str) :: ("is_integer" : PySem.Str) :: ("is_between" : PySem.Str) :: ("is_under" : PySem.Str) :: ("is_tuple_of" : PySem.Str) :: ("are_under" : PySem.Str) :: ("is_lot" : PySem.Str) :: ("MOST_BODIES" : PySem.Str) :: ("MOST_MEASURE" : PySem.Str) :: ("MOST_EASE" : PySem.Str) :: ("MOST_SIZES" : PySem.Str) :: ("are_bodies" : PySem.Str) :: ("need_bodies" : PySem.Str) :: ("fits" : PySem.Str) :: ("cover_of" : PySem.Str) :: ("size_cover" : PySem.Str) :: ("do_cover" : PySem.Str) :: ("are_apart" : PySem.Str) :: ("is_size_cover" : PySem.Str) :: ("size_fewest" : PySem.Str) :: ("size_ease" : PySem.Str) :: ("_law_bodies" : PySem.Str) :: ("_law_fits" : PySem.Str) :: ("_law_do_cover" : PySem.Str) :: ("_law_apart_bodies" : PySem.Str) :: ("_law_at" : PySem.Str) :: ("_law_mixed" : PySem.Str) :: ("_law_row" : PySem.Str) :: ("_law_lot" : PySem.Str) :: ("_law_lots" : PySem.Str) :: ("_law_flag" : PySem.Str) :: ("_law_whole" : PySem.Str) :: ("_law_word" : PySem.Str) :: ("_law_many" : PySem.Str) :: []) w := by
  intro os
  kernel_rfl
end K76.Wk
open PySem PySem.W PySem.Calls PyProof.Rows
theorem K76.holds (hlaw : ∀ ns : List Int, ns.length ≤ 63 → K76.f_law [.list (ns.map PyData.int)] = .ok (.bool true)) : PySem.Challenge.rw_needlehouse_k76_whole_fewest_sizes.Holds := by
  w_on; o_law
  refine HandSHeadRun.head_any (r := OpenLaw.row PySem.Challenge.rw_needlehouse_k76_whole_fewest_sizes) (q := view (OpenLaw.row PySem.Challenge.rw_needlehouse_k76_whole_fewest_sizes).prog [40]) (H := K76.Wk.hk) (ob := K76.Wk.ob) (M := 4000) (loose := (("NeedleError" : PySem.Str) :: ("NoNumber" : PySem.Str) :: ("NoSizes" : PySem.Str) :: ("is_integer" : PySem.Str) :: ("is_between" : PySem.Str) :: ("is_under" : PySem.Str) :: ("is_tuple_of" : PySem.Str) :: ("are_under" : PySem.Str) :: ("is_lot" : PySem.Str) :: ("MOST_BODIES" : PySem.Str) :: ("MOST_MEASURE" : PySem.Str) :: ("MOST_EASE" : PySem.Str) :: ("MOST_SIZES" : PySem.Str) :: ("are_bodies" : PySem.Str) :: ("need_bodies" : PySem.Str) :: ("fits" : PySem.Str) :: ("cover_of" : PySem.Str) :: ("size_cover" : PySem.Str) :: ("do_cover" : PySem.Str) :: ("are_apart" : PySem.Str) :: ("is_size_cover" : PySem.Str) :: ("size_fewest" : PySem.Str) :: ("size_ease" : PySem.Str) :: ("_law_bodies" : PySem.Str) :: ("_law_fits" : PySem.Str) :: ("_law_do_cover" : PySem.Str) :: ("_law_apart_bodies" : PySem.Str) :: ("_law_at" : PySem.Str) :: ("_law_mixed" : PySem.Str) :: ("_law_row" : PySem.Str) :: ("_law_lot" : PySem.Str) :: ("_law_lots" : PySem.Str) :: ("_law_flag" : PySem.Str) :: ("_law_whole" : PySem.Str) :: ("_law_word" : PySem.Str) :: ("_law_many" : PySem.Str) :: [])) (d := HandSHeadRun.topDef (OpenLaw.row PySem.Challenge.rw_needlehouse_k76_whole_fewest_sizes).prog 40) (kwd := []) K76.Wk.ob_eq
    (by kernel_rfl) (fun s => by kernel_rfl) K76.Wk.run (by kernel_rfl) (by kernel_rfl) (by kernel_rfl) (by rfl) (by first | assumption | decide +kernel) (by decide +kernel) ⟨rfl, rfl, rfl, rfl, rfl, by decide +kernel⟩ ?hw ?hc
  case hw => w_witness2
  case hc =>
    refine DL.walk_ofX (l := PySem.Challenge.rw_needlehouse_k76_whole_fewest_sizes) (n := 63) (k := 7) (x := "script") rfl (by decide) (by kernel_rfl) ⟨rfl, by decide, by decide⟩ ?F
    intro w mg fa h Y G hmg0
    obtain ⟨K, KX, c, cx⟩ := Y
    have hmg : mg ("law" : PySem.Str) = some (.ref fa) := by
      have e : (HandSHeadRun.topDef (OpenLaw.row PySem.Challenge.rw_needlehouse_k76_whole_fewest_sizes).prog 40).name = ("law" : PySem.Str) := by kernel_rfl
      rw [← e]
      exact hmg0
    obtain ⟨fd, hb, hF⟩ := K76.Wk.facts (P := (PySem.Challenge.rw_needlehouse_k76_whole_fewest_sizes).prog) (w := w) KX G hmg c cx
    exact ⟨K, fd, _, KX, hb, fun H a ns hl hO hS => DL.law_sp (n := 63) (by decide) hlaw H a ns hl hO hS, hF⟩
theorem PySem.Challenge.cw_needlehouse_k76_whole_fewest_sizes_holds : PySem.Challenge.rw_needlehouse_k76_whole_fewest_sizes.Holds := by
  exact K76.holds K76.law
